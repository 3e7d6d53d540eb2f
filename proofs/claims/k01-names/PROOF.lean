import PyProof.Rows.All
import Wide.All
import OpenK.AllK
import Wide.FinOn
import HandS.ForMost
import HandS.ForExc
import HandS.ExcInit
import HandS.ExcField
import HandS.CallSlots
import HandS.IsInst
import PySem.Challenge.RW_patchedplaces_k01_names
set_option Elab.async false
set_option linter.all false
set_option maxRecDepth 100000
/-! Sm: a functional reading of the hand layer: values as data, mutable objects in a store by numbers. -/
namespace Sm
open PySem PySem.Spec PyProof.Rows L2

/-- the written part; the exception that is being handled here, and its dict -/
structure KX where
  k : PySem.W.Frag
  ex : Option (Addr × Addr)
/-- what is wished of an exception; the one that is being handled -/
structure WZ where
  x : WX
  ex : Option (Addr × Addr) := none
inductive IV where
  | non | bl (b : Bool) | int (i : Int) | str (s : Str) | adr (n : Nat) | lst (xs : List IV) | wls (xs : List IV) | tup (xs : List IV) | ref (a : Addr) | ty (n : String) | exn (n : Nat)
  deriving Inhabited
inductive Cell where
  | lst (xs : List IV) | dic (kvs : List (Key × IV)) | ins (C : Addr) (fs : List (Str × IV)) | xd (fs : List (Str × IV))
abbrev Sto := List Cell
abbrev Slots := List (Option IV)
inductive Out (α : Type) where
  | ok (a : α) (S : Sto)
  | exc (C : Addr) (n : Nat) (L : Slots) (S : Sto)
  | bad
def Out.bind {α β : Type} : Out α → (α → Sto → Out β) → Out β
  | .ok a S, k => k a S
  | .exc C n L S, _ => .exc C n L S
  | .bad, _ => .bad
@[simp] theorem Out.bind_ok {α β : Type} (a : α) (S : Sto) (k : α → Sto → Out β) : (Out.ok a S).bind k = k a S := rfl
@[simp] theorem Out.bind_exc {α β : Type} (C n L) (S : Sto) (k : α → Sto → Out β) : (Out.exc C n L S).bind k = .exc C n L S := rfl
@[simp] theorem Out.bind_bad {α β : Type} (k : α → Sto → Out β) : (Out.bad).bind k = .bad := rfl
theorem Out.bind_assoc {α β γ : Type} (o : Out α) (k : α → Sto → Out β) (j : β → Sto → Out γ) : (o.bind k).bind j = o.bind fun a S => (k a S).bind j := by
  cases o <;> rfl

structure Wd where
  rho : List Addr
  F : Hp
  G : Hp
structure Wd.lr (w w' : Wd) : Prop where
  rho : ∃ more, w'.rho = w.rho ++ more
  F : Same w.F w'.F
structure Wd.le (w w' : Wd) : Prop extends Wd.lr w w' where
  G : w'.G = w.G
theorem Wd.lr.refl (w : Wd) : w.lr w := ⟨⟨[], by simp⟩, Same.refl _⟩
theorem Wd.lr.trans {a b c : Wd} (h : a.lr b) (k : b.lr c) : a.lr c := by
  obtain ⟨⟨m, e⟩, f⟩ := h
  obtain ⟨⟨m', e'⟩, f'⟩ := k
  exact ⟨⟨m ++ m', by rw [e', e, List.append_assoc]⟩, f.trans f'⟩
theorem Wd.le.refl (w : Wd) : w.le w := ⟨Wd.lr.refl w, rfl⟩
theorem Wd.le.trans {a b c : Wd} (h : a.le b) (k : b.le c) : a.le c := ⟨h.1.trans k.1, k.2.trans h.2⟩
theorem Wd.lr.get {w w' : Wd} (h : w.lr w') {n : Nat} {a : Addr} (e : w.rho[n]? = some a) : w'.rho[n]? = some a := by
  obtain ⟨m, e'⟩ := h.rho
  rw [e', List.getElem?_append_left (List.getElem?_eq_some_iff.mp e).1]
  exact e

mutual
inductive Rel (K : KX) (w : Wd) : V → IV → Prop
  | non : Rel K w .non .non
  | bl (b : Bool) : Rel K w (.bl b) (.bl b)
  | int (i : Int) : Rel K w (.int i) (.int i)
  | str (x : Str) : Rel K w (.str x) (.str x)
  | adr {n : Nat} {a : Addr} : w.rho[n]? = some a → Rel K w (.ref a) (.adr n)
  | lst {a : Addr} {xs : List V} {ivs : List IV} : w.F a = some (.lst xs) → RelL K w xs ivs → Rel K w (.ref a) (.lst ivs)
  | wls {a : Addr} {xs : List V} {ivs : List IV} : SqL K.k w.F a xs → RelL K w xs ivs → Rel K w (.ref a) (.wls ivs)
  | tup {a : Addr} {xs : List V} {ivs : List IV} : SqT K.k w.F a xs → RelL K w xs ivs → Rel K w (.ref a) (.tup ivs)
  | ref (a : Addr) : Rel K w (.ref a) (.ref a)
  | ty (n : String) : Rel K w (.ty n) (.ty n)
  | exn {n : Nat} {a d : Addr} : K.ex = some (a, d) → w.rho[n]? = some d → Rel K w (.ref a) (.exn n)
inductive RelL (K : KX) (w : Wd) : List V → List IV → Prop
  | nil : RelL K w [] []
  | cons {v : V} {vs : List V} {iv : IV} {ivs : List IV} : Rel K w v iv → RelL K w vs ivs → RelL K w (v :: vs) (iv :: ivs)
end
theorem same_t {K : PySem.W.Frag} {H H' : Hp} {a : Addr} {xs : List V} (e : Same H H') (h : SqT K H a xs) : SqT K H' a xs := by
  rcases h with (h | ⟨o, h⟩) | h
  · exact .inl (.inl (e _ _ h))
  · exact .inl (.inr ⟨o, e _ _ h⟩)
  · exact .inr h
section
variable {K : KX} {w w' : Wd}
mutual
theorem Rel.mono (l : w.lr w') : ∀ (iv : IV) (v : V), Rel K w v iv → Rel K w' v iv
  | .non, _, h => by cases h; exact .non
  | .bl b, _, h => by cases h; exact .bl b
  | .int b, _, h => by cases h; exact .int b
  | .str b, _, h => by cases h; exact .str b
  | .adr n, _, h => by
    cases h with
    | adr e => exact .adr (l.get e)
  | .lst ivs, _, h => by
    cases h with
    | lst e r => exact .lst (l.F _ _ e) (RelL.mono l ivs _ r)
  | .wls ivs, _, h => by
    cases h with
    | wls e r => exact .wls (l.F.seq e) (RelL.mono l ivs _ r)
  | .tup ivs, _, h => by
    cases h with
    | tup e r => exact .tup (same_t l.F e) (RelL.mono l ivs _ r)
  | .ref a, _, h => by cases h; exact .ref a
  | .ty n, _, h => by cases h; exact .ty n
  | .exn n, _, h => by
    cases h with
    | exn e1 e2 => exact .exn e1 (l.get e2)
theorem RelL.mono (l : w.lr w') : ∀ (ivs : List IV) (vs : List V), RelL K w vs ivs → RelL K w' vs ivs
  | [], _, h => by cases h; exact .nil
  | iv :: ivs, _, h => by
    cases h with
    | cons a b => exact .cons (Rel.mono l iv _ a) (RelL.mono l ivs _ b)
end
theorem Rel.up {v : V} {iv : IV} (h : Rel K w v iv) (l : w.le w') : Rel K w' v iv := Rel.mono l.1 _ _ h
theorem RelL.up {v : List V} {iv : List IV} (h : RelL K w v iv) (l : w.le w') : RelL K w' v iv := RelL.mono l.1 _ _ h
theorem RelL.length : ∀ {vs : List V} {ivs : List IV}, RelL K w vs ivs → vs.length = ivs.length
  | _, _, .nil => rfl
  | _, _, .cons _ h => by rw [List.length_cons, List.length_cons, RelL.length h]
theorem RelL.get : ∀ {vs : List V} {ivs : List IV} {i : Nat} {iv : IV}, RelL K w vs ivs → ivs[i]? = some iv → ∃ v, vs[i]? = some v ∧ Rel K w v iv
  | _, _, _, _, .nil, e => by simp at e
  | _, _, 0, _, .cons r _, e => by simp at e; subst e; exact ⟨_, rfl, r⟩
  | _, _, i + 1, iv, .cons _ t, e => by
    obtain ⟨u, h1, h2⟩ := RelL.get (i := i) (iv := iv) t (by simpa using e)
    exact ⟨u, by simpa using h1, h2⟩
theorem RelL.get' : ∀ {vs : List V} {ivs : List IV} {i : Nat} {v : V}, RelL K w vs ivs → vs[i]? = some v → ∃ iv, ivs[i]? = some iv ∧ Rel K w v iv
  | _, _, _, _, .nil, e => by simp at e
  | _, _, 0, _, .cons r _, e => by simp at e; subst e; exact ⟨_, rfl, r⟩
  | _, _, i + 1, iv, .cons _ t, e => by
    obtain ⟨u, h1, h2⟩ := RelL.get' (i := i) (v := iv) t (by simpa using e)
    exact ⟨u, by simpa using h1, h2⟩
theorem RelL.append : ∀ {xs ys : List V} {us ws : List IV}, RelL K w xs us → RelL K w ys ws → RelL K w (xs ++ ys) (us ++ ws)
  | _, _, _, _, .nil, s => s
  | _, _, _, _, .cons r t, s => .cons r (RelL.append t s)
theorem RelL.take : ∀ {xs : List V} {us : List IV} (n : Nat), RelL K w xs us → RelL K w (xs.take n) (us.take n)
  | _, _, 0, _ => .nil
  | _, _, _ + 1, .nil => .nil
  | _, _, n + 1, .cons r t => .cons r (RelL.take n t)
theorem RelL.drop : ∀ {xs : List V} {us : List IV} (n : Nat), RelL K w xs us → RelL K w (xs.drop n) (us.drop n)
  | _, _, 0, r => r
  | _, _, _ + 1, .nil => .nil
  | _, _, n + 1, .cons _ t => RelL.drop n t
theorem RelL.set {x : V} {u : IV} (r : Rel K w x u) : ∀ {xs : List V} {us : List IV} (i : Nat), RelL K w xs us → RelL K w (xs.set i x) (us.set i u)
  | _, _, _, .nil => .nil
  | _, _, 0, .cons _ t => .cons r t
  | _, _, i + 1, .cons q t => .cons q (RelL.set r i t)
theorem RelL.one {x : V} {u : IV} (r : Rel K w x u) : RelL K w [x] [u] := .cons r .nil
theorem RelL.erase : ∀ {xs : List V} {us : List IV} (i : Nat), RelL K w xs us → RelL K w (xs.eraseIdx i) (us.eraseIdx i)
  | _, _, _, .nil => .nil
  | _, _, 0, .cons _ t => t
  | _, _, i + 1, .cons q t => .cons q (RelL.erase i t)
theorem RelL.reverse : ∀ {xs : List V} {us : List IV}, RelL K w xs us → RelL K w xs.reverse us.reverse
  | _, _, .nil => .nil
  | _, _, .cons q t => by
    rw [List.reverse_cons, List.reverse_cons]
    exact (RelL.reverse t).append (.one q)
end

def RelKV {κ : Type} (K : KX) (w : Wd) : List (κ × V) → List (κ × IV) → Prop := Paired fun (p : κ × V) (q : κ × IV) => p.1 = q.1 ∧ Rel K w p.2 q.2
theorem RelKV.mono {κ : Type} {K : KX} {w w' : Wd} (l : w.lr w') {a : List (κ × V)} {b : List (κ × IV)} (h : RelKV K w a b) : RelKV K w' a b :=
  Paired.mapP h fun _ _ z => ⟨z.1, Rel.mono l _ _ z.2⟩

def CellOk (K : KX) (w : Wd) (H : Hp) (a : Addr) : Cell → Prop
  | .lst ivs => ∃ xs, H a = some (.lst xs) ∧ RelL K w xs ivs
  | .dic kvs => ∃ ps, H a = some (.dK ps) ∧ RelKV K w ps kvs
  | .ins C fs => ∃ dx ps, H a = some (.ins C dx ps) ∧ RelKV K w ps fs
  | .xd fs => ∃ ps, H a = some (.xd ps) ∧ RelKV K w ps fs
theorem CellOk.mono {K : KX} {w w' : Wd} {H H' : Hp} {a : Addr} {c : Cell} (h : CellOk K w H a c) (l : w.lr w') (e : H' a = H a) : CellOk K w' H' a c := by
  cases c with
  | lst ivs => obtain ⟨xs, h1, h2⟩ := h; exact ⟨xs, e.trans h1, RelL.mono l _ _ h2⟩
  | dic ivs => obtain ⟨xs, h1, h2⟩ := h; exact ⟨xs, e.trans h1, h2.mono l⟩
  | ins C ivs => obtain ⟨dx, xs, h1, h2⟩ := h; exact ⟨dx, xs, e.trans h1, h2.mono l⟩
  | xd ivs => obtain ⟨xs, h1, h2⟩ := h; exact ⟨xs, e.trans h1, h2.mono l⟩
theorem CellOk.some {K : KX} {w : Wd} {H : Hp} {a : Addr} {c : Cell} (h : CellOk K w H a c) : ∃ o, H a = some o := by
  cases c with
  | lst ivs => obtain ⟨xs, h1, h2⟩ := h; exact ⟨_, h1⟩
  | dic ivs => obtain ⟨xs, h1, h2⟩ := h; exact ⟨_, h1⟩
  | ins C ivs => obtain ⟨dx, xs, h1, h2⟩ := h; exact ⟨_, h1⟩
  | xd ivs => obtain ⟨xs, h1, h2⟩ := h; exact ⟨_, h1⟩

structure R (K : KX) (w : Wd) (S : Sto) (H : Hp) : Prop where
  len : w.rho.length = S.length
  nd : w.rho.Nodup
  cell : ∀ (n : Nat) (c : Cell) (a : Addr), S[n]? = some c → w.rho[n]? = some a → CellOk K w H a c
  own : ∀ (n : Nat) (a : Addr), w.rho[n]? = some a → w.F a = none ∧ w.G a = none
  F : Same w.F H
  G : Same w.G H
  dis : ∀ (a : Addr) (o : HO), w.G a = some o → w.F a = none
section
variable {K : KX} {w : Wd} {S : Sto} {H : Hp}
theorem R.addr (r : R K w S H) {n : Nat} {c : Cell} (h : S[n]? = some c) : ∃ a, w.rho[n]? = some a := by
  have := (List.getElem?_eq_some_iff.mp h).1
  exact ⟨_, List.getElem?_eq_getElem (by rw [r.len]; exact this)⟩
theorem R.there (r : R K w S H) {n : Nat} {a : Addr} (h : w.rho[n]? = some a) : ∃ c, S[n]? = some c ∧ CellOk K w H a c := by
  have := (List.getElem?_eq_some_iff.mp h).1
  have e := List.getElem?_eq_getElem (l := S) (i := n) (by rw [← r.len]; exact this)
  exact ⟨_, e, r.cell n _ a e h⟩
theorem R.ne_new (r : R K w S H) {n : Nat} {a p : Addr} (h : w.rho[n]? = some a) (hp : H p = none) : a ≠ p := by
  obtain ⟨c, _, h2⟩ := r.there h
  obtain ⟨o, h3⟩ := h2.some
  exact ne_of_none h3 hp
/-- a new cell -/
theorem R.alloc (r : R K w S H) {p : Addr} {o : HO} {c : Cell} (hp : H p = none) (hc : ∀ w', w.le w' → CellOk K w' (upd H p o) p c) : w.le ⟨w.rho ++ [p], w.F, w.G⟩ ∧ R K ⟨w.rho ++ [p], w.F, w.G⟩ (S ++ [c]) (upd H p o) := by
  have l : w.le ⟨w.rho ++ [p], w.F, w.G⟩ := ⟨⟨⟨[p], rfl⟩, Same.refl _⟩, rfl⟩
  have key : ∀ {n : Nat} {a : Addr}, (w.rho ++ [p])[n]? = some a → (w.rho[n]? = some a ∧ n < w.rho.length) ∨ (n = w.rho.length ∧ a = p) := fun {n a} h => by
    by_cases hn : n < w.rho.length
    · rw [List.getElem?_append_left hn] at h; exact .inl ⟨h, hn⟩
    · have hlt := (List.getElem?_eq_some_iff.mp h).1
      rw [List.length_append, List.length_singleton] at hlt
      have e : n = w.rho.length := by omega
      subst e
      rw [List.getElem?_append_right (Nat.le_refl _), Nat.sub_self] at h
      exact .inr ⟨rfl, (Option.some.inj h).symm⟩
  refine ⟨l, ?_, ?_, fun n c' a h1 h2 => ?_, fun n a h => ?_, fun b u e => ?_, fun b u e => ?_, r.dis⟩
  · show (w.rho ++ [p]).length = (S ++ [c]).length
    rw [List.length_append, List.length_append, r.len]
    rfl
  · show (w.rho ++ [p]).Nodup
    rw [List.nodup_append]
    refine ⟨r.nd, by simp, fun a ha b hb => ?_⟩
    obtain ⟨n, h⟩ := List.getElem?_of_mem ha
    have : b = p := by simpa using hb
    rw [this]
    exact r.ne_new h hp
  · rcases key h2 with ⟨h, hn⟩ | ⟨h, e⟩
    · rw [List.getElem?_append_left (by rw [← r.len]; exact hn)] at h1
      exact (r.cell n c' a h1 h).mono l.1 (upd_ne (r.ne_new h hp))
    · subst e
      rw [h, r.len, List.getElem?_append_right (Nat.le_refl _), Nat.sub_self] at h1
      have : c = c' := Option.some.inj h1
      rw [← this]
      exact hc _ l
  · rcases key h with ⟨h, hn⟩ | ⟨h, e⟩
    · exact r.own n a h
    · subst e
      constructor
      · cases q : w.F a with
        | none => rfl
        | some u => rw [r.F _ _ q] at hp; cases hp
      · cases q : w.G a with
        | none => rfl
        | some u => rw [r.G _ _ q] at hp; cases hp
  · have := r.F _ _ e
    rw [upd_ne (ne_of_none this hp)]; exact this
  · have := r.G _ _ e
    rw [upd_ne (ne_of_none this hp)]; exact this
/-- a new object that never changes -/
theorem R.frz (r : R K w S H) {p : Addr} {o : HO} (hp : H p = none) : w.le ⟨w.rho, upd w.F p o, w.G⟩ ∧ R K ⟨w.rho, upd w.F p o, w.G⟩ S (upd H p o) := by
  have nF : w.F p = none := by
    cases q : w.F p with
    | none => rfl
    | some u => rw [r.F _ _ q] at hp; cases hp
  have l : w.le ⟨w.rho, upd w.F p o, w.G⟩ := ⟨⟨⟨[], by simp⟩, fun b u e => by
    show upd w.F p o b = some u
    rw [upd_ne (ne_of_none e nF)]; exact e⟩, rfl⟩
  refine ⟨l, r.len, r.nd, fun n c a h1 h2 => (r.cell n c a h1 h2).mono l.1 (upd_ne (r.ne_new h2 hp)), fun n a h => ⟨?_, (r.own n a h).2⟩, fun b u e => ?_, fun b u e => ?_, fun b u e => ?_⟩
  · show upd w.F p o a = none
    rw [upd_ne (r.ne_new h hp)]; exact (r.own n a h).1
  · have e : upd w.F p o b = some u := e
    by_cases hb : b = p
    · subst hb; rw [upd_same] at e; rw [upd_same]; exact e
    · rw [upd_ne hb] at e; rw [upd_ne hb]; exact r.F _ _ e
  · have := r.G _ _ e
    rw [upd_ne (ne_of_none this hp)]; exact this
  · show upd w.F p o b = none
    rw [upd_ne (ne_of_none (r.G _ _ e) hp)]; exact r.dis _ _ e
/-- a cell is written -/
theorem R.write (r : R K w S H) {n : Nat} {a : Addr} {o : HO} {c : Cell} (h : w.rho[n]? = some a) (hc : CellOk K w (upd H a o) a c) : R K w (S.set n c) (upd H a o) := by
  refine ⟨by rw [List.length_set]; exact r.len, r.nd, fun m c' b h1 h2 => ?_, r.own, fun b u e => ?_, fun b u e => ?_, r.dis⟩
  · by_cases hm : m = n
    · subst hm
      rw [h] at h2; cases h2
      have hlt : m < S.length := by rw [← r.len]; exact (List.getElem?_eq_some_iff.mp h).1
      rw [List.getElem?_set_self hlt] at h1
      cases h1
      exact hc
    · rw [List.getElem?_set_ne (Ne.symm hm)] at h1
      have hb : b ≠ a := fun z => by
        subst z
        obtain ⟨i1, e1⟩ := List.getElem?_eq_some_iff.mp h
        obtain ⟨i2, e2⟩ := List.getElem?_eq_some_iff.mp h2
        exact hm ((List.getElem_inj r.nd).mp (e2.trans e1.symm))
      exact (r.cell m c' b h1 h2).mono (Wd.lr.refl w) (upd_ne hb)
  · rw [upd_ne (ne_of_none e (r.own n a h).1)]; exact r.F _ _ e
  · rw [upd_ne (ne_of_none e (r.own n a h).2)]; exact r.G _ _ e
/-- an object of the frame -/
theorem R.ghost (r : R K w S H) {p : Addr} {o : HO} (hp : H p = none) : R K ⟨w.rho, w.F, upd w.G p o⟩ S (upd H p o) := by
  have nF : w.F p = none := by
    cases q : w.F p with
    | none => rfl
    | some u => rw [r.F _ _ q] at hp; cases hp
  refine ⟨r.len, r.nd, fun n c a h1 h2 => (r.cell n c a h1 h2).mono (Wd.lr.mk ⟨[], by simp⟩ (Same.refl _)) (upd_ne (r.ne_new h2 hp)), fun n a h => ⟨(r.own n a h).1, ?_⟩, fun b u e => ?_, fun b u e => ?_, fun b u e => ?_⟩
  · show upd w.G p o a = none
    rw [upd_ne (r.ne_new h hp)]; exact (r.own n a h).2
  · have := r.F _ _ e
    rw [upd_ne (ne_of_none this hp)]; exact this
  · have e : upd w.G p o b = some u := e
    by_cases hb : b = p
    · subst hb; rw [upd_same] at e; rw [upd_same]; exact e
    · rw [upd_ne hb] at e; rw [upd_ne hb]; exact r.G _ _ e
  · have e : upd w.G p o b = some u := e
    by_cases hb : b = p
    · subst hb; exact nF
    · rw [upd_ne hb] at e; exact r.dis _ _ e
theorem R.ghostW {rho : List Addr} {F G : Hp} {p : Addr} {o o' : HO} (r : R K ⟨rho, F, upd G p o⟩ S H) : R K ⟨rho, F, upd G p o'⟩ S (upd H p o') := by
  have hF : F p = none := r.dis p o upd_same
  have hrho : ∀ n a, rho[n]? = some a → a ≠ p := fun n a h z => by
    have := (r.own n a h).2
    rw [z] at this
    have t : upd G p o p = none := this
    rw [upd_same] at t
    cases t
  refine ⟨r.len, r.nd, fun n c a h1 h2 => (r.cell n c a h1 h2).mono (Wd.lr.mk ⟨[], by simp⟩ (Same.refl _)) (upd_ne (hrho n a h2)), fun n a h => ⟨(r.own n a h).1, ?_⟩, fun b u e => ?_, fun b u e => ?_, fun b u e => ?_⟩
  · have := (r.own n a h).2
    show upd G p o' a = none
    rw [upd_ne (hrho n a h)]
    have t : upd G p o a = none := this
    rw [upd_ne (hrho n a h)] at t; exact t
  · have e : F b = some u := e
    rw [upd_ne (ne_of_none e hF)]; exact r.F _ _ e
  · have e : upd G p o' b = some u := e
    by_cases hb : b = p
    · subst hb; rw [upd_same] at e; rw [upd_same]; exact e
    · rw [upd_ne hb] at e; rw [upd_ne hb]; exact r.G b u (by show upd G p o b = some u; rw [upd_ne hb]; exact e)
  · have e : upd G p o' b = some u := e
    by_cases hb : b = p
    · subst hb; exact hF
    · rw [upd_ne hb] at e; exact r.dis b u (by show upd G p o b = some u; rw [upd_ne hb]; exact e)
/-- the ghost becomes an object that never changes -/
theorem R.ghostF {rho : List Addr} {F G : Hp} {p : Addr} {o : HO} (r : R K ⟨rho, F, upd G p o⟩ S H) (hG : G p = none) : R K ⟨rho, upd F p o, G⟩ S H := by
  have hF : F p = none := r.dis p o upd_same
  have hrho : ∀ n a, rho[n]? = some a → a ≠ p := fun n a h z => by
    have := (r.own n a h).2
    rw [z] at this
    have t : upd G p o p = none := this
    rw [upd_same] at t
    cases t
  refine ⟨r.len, r.nd, fun n c a h1 h2 => (r.cell n c a h1 h2).mono ⟨⟨[], by simp⟩, fun b u e => ?_⟩ rfl, fun n a h => ⟨?_, ?_⟩, fun b u e => ?_, fun b u e => ?_, fun b u e => ?_⟩
  · have e : F b = some u := e
    show upd F p o b = some u
    rw [upd_ne (ne_of_none e hF)]; exact e
  · show upd F p o a = none
    rw [upd_ne (hrho n a h)]; exact (r.own n a h).1
  · have := (r.own n a h).2
    have t : upd G p o a = none := this
    rw [upd_ne (hrho n a h)] at t; exact t
  · have e : upd F p o b = some u := e
    by_cases hb : b = p
    · subst hb; rw [upd_same] at e; exact r.G b u (by show upd G b o b = some u; rw [upd_same]; exact e)
    · rw [upd_ne hb] at e; exact r.F _ _ e
  · have e : G b = some u := e
    exact r.G b u (by show upd G p o b = some u; rw [upd_ne (ne_of_none e hG)]; exact e)
  · have e : G b = some u := e
    show upd F p o b = none
    rw [upd_ne (ne_of_none e hG)]
    exact r.dis b u (by show upd G p o b = some u; rw [upd_ne (ne_of_none e hG)]; exact e)
/-- the ghost becomes a cell -/
theorem R.ghostC {rho : List Addr} {F G : Hp} {p : Addr} {o : HO} {c : Cell} (r : R K ⟨rho, F, upd G p o⟩ S H) (hG : G p = none) (hc : ∀ w', Wd.lr ⟨rho, F, upd G p o⟩ w' → CellOk K w' H p c) : R K ⟨rho ++ [p], F, G⟩ (S ++ [c]) H := by
  have hF : F p = none := r.dis p o upd_same
  have hrho : ∀ n a, rho[n]? = some a → a ≠ p := fun n a h z => by
    have := (r.own n a h).2
    rw [z] at this
    have t : upd G p o p = none := this
    rw [upd_same] at t
    cases t
  have hlen : rho.length = S.length := r.len
  have l : Wd.lr ⟨rho, F, upd G p o⟩ ⟨rho ++ [p], F, G⟩ := ⟨⟨[p], rfl⟩, Same.refl _⟩
  have key : ∀ {n : Nat} {a : Addr}, (rho ++ [p])[n]? = some a → (rho[n]? = some a ∧ n < rho.length) ∨ (n = rho.length ∧ a = p) := fun {n a} h => by
    by_cases hn : n < rho.length
    · rw [List.getElem?_append_left hn] at h; exact .inl ⟨h, hn⟩
    · have hlt := (List.getElem?_eq_some_iff.mp h).1
      rw [List.length_append, List.length_singleton] at hlt
      have e : n = rho.length := by omega
      subst e
      rw [List.getElem?_append_right (Nat.le_refl _), Nat.sub_self] at h
      exact .inr ⟨rfl, (Option.some.inj h).symm⟩
  refine ⟨?_, ?_, fun n c' a h1 h2 => ?_, fun n a h => ?_, r.F, fun b u e => ?_, fun b u e => ?_⟩
  · show (rho ++ [p]).length = (S ++ [c]).length
    rw [List.length_append, List.length_append, hlen]
    rfl
  · show (rho ++ [p]).Nodup
    rw [List.nodup_append]
    refine ⟨r.nd, by simp, fun a ha b hb => ?_⟩
    obtain ⟨n, h⟩ := List.getElem?_of_mem ha
    have : b = p := by simpa using hb
    rw [this]
    exact hrho n a h
  · rcases key h2 with ⟨h, hn⟩ | ⟨h, e⟩
    · rw [List.getElem?_append_left (by rw [← hlen]; exact hn)] at h1
      exact (r.cell n c' a h1 h).mono l rfl
    · subst e
      rw [h, hlen, List.getElem?_append_right (Nat.le_refl _), Nat.sub_self] at h1
      have : c = c' := Option.some.inj h1
      rw [← this]
      exact hc _ l
  · rcases key h with ⟨h, hn⟩ | ⟨h, e⟩
    · refine ⟨(r.own n a h).1, ?_⟩
      have := (r.own n a h).2
      have t : upd G p o a = none := this
      rw [upd_ne (hrho n a h)] at t; exact t
    · subst e
      exact ⟨hF, hG⟩
  · have e : G b = some u := e
    exact r.G b u (by show upd G p o b = some u; rw [upd_ne (ne_of_none e hG)]; exact e)
  · have e : G b = some u := e
    exact r.dis b u (by show upd G p o b = some u; rw [upd_ne (ne_of_none e hG)]; exact e)
end

/-- the slots -/
structure SR (K : KX) (w : Wd) (σ : L2.St) (Λ : Slots) : Prop where
  len : σ.length = Λ.length
  get : ∀ (i : Nat) (iv : IV), Λ[i]? = some (some iv) → ∃ v, σ[i]? = some (some v) ∧ Rel K w v iv
theorem SR.mono {K : KX} {w w' : Wd} {σ : L2.St} {Λ : Slots} (h : SR K w σ Λ) (l : w.lr w') : SR K w' σ Λ :=
  ⟨h.len, fun i iv e => let ⟨v, h1, h2⟩ := h.get i iv e; ⟨v, h1, Rel.mono l _ _ h2⟩⟩
theorem SR.up {K : KX} {w w' : Wd} {σ : L2.St} {Λ : Slots} (h : SR K w σ Λ) (l : w.le w') : SR K w' σ Λ := h.mono l.1
theorem SR.set {K : KX} {w : Wd} {σ : L2.St} {Λ : Slots} (h : SR K w σ Λ) (i : Nat) {v : V} {iv : IV} (r : Rel K w v iv) : SR K w (σ.set i (some v)) (Λ.set i (some iv)) := by
  refine ⟨by rw [List.length_set, List.length_set]; exact h.len, fun j jv e => ?_⟩
  by_cases hj : j = i
  · subst hj
    have hlt : j < Λ.length := by have := (List.getElem?_eq_some_iff.mp e).1; rwa [List.length_set] at this
    rw [List.getElem?_set_self hlt] at e
    have : iv = jv := Option.some.inj (Option.some.inj e)
    rw [← this]
    exact ⟨v, by rw [List.getElem?_set_self (by rw [h.len]; exact hlt)], r⟩
  · rw [List.getElem?_set_ne (Ne.symm hj)] at e
    rw [List.getElem?_set_ne (Ne.symm hj)]
    exact h.get j jv e
theorem SR.setN {K : KX} {w : Wd} {σ : L2.St} {Λ : Slots} (h : SR K w σ Λ) (i : Nat) (u : Option V) : SR K w (σ.set i u) (Λ.set i none) := by
  refine ⟨by rw [List.length_set, List.length_set]; exact h.len, fun j jv e => ?_⟩
  by_cases hj : j = i
  · subst hj
    have hlt : j < Λ.length := by have := (List.getElem?_eq_some_iff.mp e).1; rwa [List.length_set] at this
    rw [List.getElem?_set_self hlt] at e
    cases e
  · rw [List.getElem?_set_ne (Ne.symm hj)] at e
    rw [List.getElem?_set_ne (Ne.symm hj)]
    exact h.get j jv e

/-! ### what follows -/
def Post {α : Type} (K : KX) (W : WX) (w : Wd) (o : Out α) (P : Wd → Hp → Sto → α → Prop) : Prop :=
  match o with
  | .ok a S' => ∀ w' H', w.le w' → R K w' S' H' → P w' H' S' a
  | .exc C n L S' => ∀ w' H' a σ', w.le w' → R K w' S' H' → SR K w' σ' L → w'.rho[n]? = some a → W (.ref C) (some a) σ' H'
  | .bad => False
section
variable {K : KX} {W : WX} {w : Wd} {α β : Type}
theorem Post.bind {o : Out α} {k : α → Sto → Out β} {P : Wd → Hp → Sto → β → Prop} (h : Post K W w (o.bind k) P) : Post K W w o fun w' H' S' a => Post K W w' (k a S') P := by
  cases o with
  | ok a S' =>
    intro w' H' l r
    have h : Post K W w (k a S') P := h
    show Post K W w' (k a S') P
    cases e : k a S' with
    | ok b S2 =>
      rw [e] at h
      exact fun w2 H2 l2 r2 => h w2 H2 (l.trans l2) r2
    | exc C n L S2 =>
      rw [e] at h
      exact fun w2 H2 a2 σ2 l2 r2 s2 g => h w2 H2 a2 σ2 (l.trans l2) r2 s2 g
    | bad =>
      rw [e] at h
      exact h
  | exc C n L S' => exact h
  | bad => exact h
theorem Post.imp {o : Out α} {P P' : Wd → Hp → Sto → α → Prop} (h : Post K W w o P) (f : ∀ w' H' S' a, w.le w' → R K w' S' H' → P w' H' S' a → P' w' H' S' a) : Post K W w o P' := by
  cases o with
  | ok a S' => exact fun w' H' l r => f w' H' S' a l r (h w' H' l r)
  | exc C n L S' => exact h
  | bad => exact h
theorem Post.now {a : α} {S : Sto} {H : Hp} {P : Wd → Hp → Sto → α → Prop} (h : Post K W w (.ok a S) P) (r : R K w S H) : P w H S a := h w H (Wd.le.refl w) r
theorem Post.ok {a : α} {S : Sto} {H : Hp} {w' : Wd} {P : Wd → Hp → Sto → α → Prop} (h : Post K W w (.ok a S) P) (l : w.le w') (r : R K w' S H) : P w' H S a := h w' H l r
end

abbrev IE := Slots → Sto → Out IV
abbrev IT := Slots → Sto → Out Bool
abbrev IA := Slots → Sto → Out (List IV)
inductive Fl where
  | nx (L : Slots) | rt (v : IV) | bk (L : Slots) | ct (L : Slots)
abbrev IS := Slots → Sto → Out Fl
abbrev IG := IV → Slots → Sto → Out Slots

def eM (K : KX) (W : WX) (m : IE) : TE := fun σ H Q => ∃ w S Λ, R K w S H ∧ SR K w σ Λ ∧ Post K W w (m Λ S) fun w' H' _ iv => ∀ v, Rel K w' v iv → Q v H'
def tM (K : KX) (W : WX) (m : IT) : TT := fun σ H Q => ∃ w S Λ, R K w S H ∧ SR K w σ Λ ∧ Post K W w (m Λ S) fun _ H' _ b => Q b H'
def aM (K : KX) (W : WX) (m : IA) : TA := fun σ H Q => ∃ w S Λ, R K w S H ∧ SR K w σ Λ ∧ Post K W w (m Λ S) fun w' H' _ ivs => ∀ vs, RelL K w' vs ivs → Q vs H'
def FlP (K : KX) (w : Wd) (D : Ends) (H : Hp) : Fl → Prop
  | .nx L => ∀ σ, SR K w σ L → D.nx σ H
  | .rt iv => ∀ v, Rel K w v iv → D.rt v H
  | .bk L => ∀ σ, SR K w σ L → D.bk σ H
  | .ct L => ∀ σ, SR K w σ L → D.ct σ H
def sM (K : KX) (W : WX) (m : IS) : TS := fun D σ H => ∃ w S Λ, R K w S H ∧ SR K w σ Λ ∧ Post K W w (m Λ S) fun w' H' _ fl => FlP K w' D H' fl
def gM (K : KX) (W : WX) (m : IG) : TG := fun v σ H Q => ∃ w S Λ iv, R K w S H ∧ SR K w σ Λ ∧ Rel K w v iv ∧ Post K W w (m iv Λ S) fun w' H' _ L => ∀ σ', SR K w' σ' L → Q σ' H'

theorem _root_.L2.PE.imp {X : Cx} {e : Expr} {t t' : TE} (h : PE X e t) (f : ∀ σ H Q, t' σ H Q → t σ H Q) : PE X e t' := ⟨fun pins s σ H Q I q => h.run pins s σ H Q I (f σ H Q q)⟩
theorem _root_.L2.PT.imp {X : Cx} {e : Expr} {t t' : TT} (h : PT X e t) (f : ∀ σ H Q, t' σ H Q → t σ H Q) : PT X e t' := ⟨fun pins s σ H Q I q => h.run pins s σ H Q I (f σ H Q q)⟩
theorem _root_.L2.PW.imp {X : Cx} {e : Expr} {t t' : TT} (h : PW X e t) (f : ∀ σ H Q, t' σ H Q → t σ H Q) : PW X e t' := ⟨fun wh pins s σ H Q I q => h.run wh pins s σ H Q I (f σ H Q q)⟩
theorem _root_.L2.PA.imp {X : Cx} {e : List Expr} {t t' : TA} (h : PA X e t) (f : ∀ σ H Q, t' σ H Q → t σ H Q) : PA X e t' := ⟨fun p pins s σ H Q I q => h.run p pins s σ H Q I (f σ H Q q)⟩
theorem _root_.L2.PS.imp {X : Cx} {e : Stmt} {t t' : TS} (h : PS X e t) (f : ∀ D σ H, t' D σ H → t D σ H) : PS X e t' := ⟨fun pins s σ H D I q => h.run pins s σ H D I (f D σ H q)⟩
theorem _root_.L2.PSs.imp {X : Cx} {e : List Stmt} {t t' : TS} (h : PSs X e t) (f : ∀ D σ H, t' D σ H → t D σ H) : PSs X e t' := ⟨fun pins s σ H D I q => h.run pins s σ H D I (f D σ H q)⟩
theorem _root_.L2.PG.imp {X : Cx} {e : Expr} {t t' : TG} (h : PG X e t) (f : ∀ v σ H Q, t' v σ H Q → t v σ H Q) : PG X e t' := ⟨fun pins s σ H v u Q I r q => h.run pins s σ H v u Q I r (f v σ H Q q)⟩
theorem _root_.L2.PTs.imp {X : Cx} {e : List Expr} {t t' : TT} (h : PTs X e t) (f : ∀ σ H Q, t' σ H Q → t σ H Q) : PTs X e t' := ⟨fun pins s σ H Q I q => h.run pins s σ H Q I (f σ H Q q)⟩
end Sm

namespace Sm
open PySem PySem.Spec PyProof.Rows L2

def chk {α : Type} (p : Prop) [Decidable p] (o : Out α) : Out α := if p then o else .bad
theorem chk_pos {α : Type} {p : Prop} [Decidable p] {o : Out α} (h : p) : chk p o = o := if_pos h
theorem chk_neg {α : Type} {p : Prop} [Decidable p] {o : Out α} (h : ¬ p) : chk p o = .bad := if_neg h
theorem chk_post {α : Type} {K : KX} {W : WX} {w : Wd} {p : Prop} [Decidable p] {o : Out α} {P : Wd → Hp → Sto → α → Prop} (h : Post K W w (chk p o) P) : p ∧ Post K W w o P := by
  by_cases hp : p
  · rw [chk_pos hp] at h; exact ⟨hp, h⟩
  · rw [chk_neg hp] at h; exact h.elim

abbrev kx (X : Cx) (W : WZ) : KX := ⟨X.K, W.ex⟩
/-! ### names, constants -/
def iVar (i : Nat) : IE := fun Λ S => match Λ[i]? with
  | some (some iv) => .ok iv S
  | _ => .bad
def iC (iv : IV) : IE := fun _ S => .ok iv S
section
variable {X : Cx} {W : WZ} {pos : Pos}
abbrev DE (X : Cx) (W : WZ) (e : Expr) (m : IE) : Prop := PE X e (eM (kx X W) W.x m)
abbrev DT (X : Cx) (W : WZ) (e : Expr) (m : IT) : Prop := PT X e (tM (kx X W) W.x m)
abbrev DW (X : Cx) (W : WZ) (e : Expr) (m : IT) : Prop := PW X e (tM (kx X W) W.x m)
abbrev DA (X : Cx) (W : WZ) (e : List Expr) (m : IA) : Prop := PA X e (aM (kx X W) W.x m)
abbrev DS (X : Cx) (W : WZ) (e : Stmt) (m : IS) : Prop := PS X e (sM (kx X W) W.x m)
abbrev DSs (X : Cx) (W : WZ) (e : List Stmt) (m : IS) : Prop := PSs X e (sM (kx X W) W.x m)
abbrev DG (X : Cx) (W : WZ) (e : Expr) (m : IG) : Prop := PG X e (gM (kx X W) W.x m)
theorem de_var (i : Nat) {x : Str} (hN : X.N[i]? = some x := by rfl) (hv : Vis X.env.scope x := by first | exact Or.inl rfl | exact Or.inr (Or.inl rfl) | exact Or.inr (Or.inr rfl)) (hd : (x == ("__debug__" : Str)) = false := by decide)
    (hcd : (x == ("__classdict__" : Str)) = false := by decide) : DE X W (.Name x pos) (iVar i) :=
  (pe_var hN hv hd hcd).imp fun σ H Q ⟨w, S, Λ, r, s, p⟩ => by
    unfold iVar at p
    split at p
    · rename_i iv e
      obtain ⟨v, h1, h2⟩ := s.get i iv e
      exact ⟨v, h1, p.now r v h2⟩
    · exact p.elim
theorem de_c {e : Expr} {v : V} {iv : IV} (h : PE X e (tC v)) (hr : ∀ w, Rel (kx X W) w v iv) : DE X W e (iC iv) :=
  h.imp fun σ H Q ⟨w, S, Λ, r, s, p⟩ => p.now r v (hr w)
theorem de_int {i j} : DE X W (.Constant (.int i) j pos) (iC (.int i)) := de_c pe_int fun _ => .int i
theorem de_bl {i j} : DE X W (.Constant (.bool i) j pos) (iC (.bl i)) := de_c pe_bl fun _ => .bl i
theorem de_str {i j} : DE X W (.Constant (.str i) j pos) (iC (.str i)) := de_c pe_str fun _ => .str i
theorem de_non {j} : DE X W (.Constant .none j pos) (iC .non) := de_c pe_non fun _ => .non
end

/-! ### operators -/
def OpS (K : KX) (W : WX) (r : R2) (f : IV → IV → Sto → Out IV) : Prop := ∀ (w : Wd) (S : Sto) (H : Hp) (x y : V) (ix iy : IV) (Q : VK), R K w S H → Rel K w x ix → Rel K w y iy →
  Post K W w (f ix iy S) (fun w' H' _ iv => ∀ v, Rel K w' v iv → Q v H') → r x y H Q
def UnS (K : KX) (W : WX) (r : V → Hp → VK → Prop) (f : IV → Sto → Out IV) : Prop := ∀ (w : Wd) (S : Sto) (H : Hp) (x : V) (ix : IV) (Q : VK), R K w S H → Rel K w x ix →
  Post K W w (f ix S) (fun w' H' _ iv => ∀ v, Rel K w' v iv → Q v H') → r x H Q
def CaS (K : KX) (W : WX) (r : List V → Hp → VK → Prop) (f : List IV → Sto → Out IV) : Prop := ∀ (w : Wd) (S : Sto) (H : Hp) (xs : List V) (ix : List IV) (Q : VK), R K w S H → RelL K w xs ix →
  Post K W w (f ix S) (fun w' H' _ iv => ∀ v, Rel K w' v iv → Q v H') → r xs H Q
def MtS (K : KX) (W : WX) (r : V → List V → Hp → VK → Prop) (f : IV → List IV → Sto → Out IV) : Prop := ∀ (w : Wd) (S : Sto) (H : Hp) (x : V) (xs : List V) (io : IV) (ix : List IV) (Q : VK), R K w S H → Rel K w x io → RelL K w xs ix →
  Post K W w (f io ix S) (fun w' H' _ iv => ∀ v, Rel K w' v iv → Q v H') → r x xs H Q
def iBin (f : IV → IV → Sto → Out IV) (ma mb : IE) : IE := fun Λ S => (ma Λ S).bind fun x S1 => (mb Λ S1).bind fun y S2 => f x y S2
def iUn (f : IV → Sto → Out IV) (ma : IE) : IE := fun Λ S => (ma Λ S).bind fun x S1 => f x S1
def iNil : IA := fun _ S => .ok [] S
def iCons (ma : IE) (mr : IA) : IA := fun Λ S => (ma Λ S).bind fun x S1 => (mr Λ S1).bind fun xs S2 => .ok (x :: xs) S2
def iCa (f : List IV → Sto → Out IV) (ma : IA) : IE := fun Λ S => (ma Λ S).bind fun x S1 => f x S1
section
variable {K : KX} {W : WX} {σ : L2.St} {H : Hp} {Q : VK}
theorem eM_bin {r : R2} {f : IV → IV → Sto → Out IV} {ma mb : IE} (ho : OpS K W r f) (h : eM K W (iBin f ma mb) σ H Q) : tOp r (eM K W ma) (eM K W mb) σ H Q := by
  obtain ⟨w, S, Λ, r0, s0, p⟩ := h
  exact ⟨w, S, Λ, r0, s0, p.bind.imp fun w1 H1 S1 ix l1 r1 p1 v1 rv1 => ⟨w1, S1, Λ, r1, s0.up l1, p1.bind.imp fun w2 H2 S2 iy l2 r2 p2 v2 rv2 => ho w2 S2 H2 _ _ _ _ _ r2 (rv1.up l2) rv2 p2⟩⟩
theorem eM_un {r : V → Hp → VK → Prop} {f : IV → Sto → Out IV} {ma : IE} (ho : UnS K W r f) (h : eM K W (iUn f ma) σ H Q) : tUn r (eM K W ma) σ H Q := by
  obtain ⟨w, S, Λ, r0, s0, p⟩ := h
  exact ⟨w, S, Λ, r0, s0, p.bind.imp fun w1 H1 S1 ix l1 r1 p1 v1 rv1 => ho w1 S1 H1 _ _ _ r1 rv1 p1⟩
theorem eM_ca {r : List V → Hp → VK → Prop} {f : List IV → Sto → Out IV} {ma : IA} (ho : CaS K W r f) (h : eM K W (iCa f ma) σ H Q) : tCB r (aM K W ma) σ H Q := by
  obtain ⟨w, S, Λ, r0, s0, p⟩ := h
  exact ⟨w, S, Λ, r0, s0, p.bind.imp fun w1 H1 S1 ix l1 r1 p1 v1 rv1 => ho w1 S1 H1 _ _ _ r1 rv1 p1⟩
end
section
variable {X : Cx} {W : WZ} {pos : Pos} {a b c : Expr} {ma mb mc : IE} {e : Expr} {es : List Expr} {me : IE} {mr : IA}
theorem da_nil : DA X W [] iNil := pa_nil.imp fun σ H Q ⟨w, S, Λ, r0, s0, p⟩ => p.now r0 [] .nil
theorem da_cons (ha : DE X W e me) (hr : DA X W es mr) (hs : starEach (e :: es) X.env = (false, eval e X.env) :: starEach es X.env := by rfl) : DA X W (e :: es) (iCons me mr) :=
  (pa_cons ha hr hs).imp fun σ H Q ⟨w, S, Λ, r0, s0, p⟩ => ⟨w, S, Λ, r0, s0, p.bind.imp fun w1 H1 S1 ix l1 r1 p1 v1 rv1 => ⟨w1, S1, Λ, r1, s0.up l1, p1.bind.imp fun w2 H2 S2 iy l2 r2 p2 v2 rv2 => p2.now r2 _ (.cons (rv1.up l2) rv2)⟩⟩
theorem de_bin {op : Operator} {r : R2} {f : IV → IV → Sto → Out IV} (ho : OpR X (binaryOp op) r) (hs : OpS (kx X W) W.x r f) (ha : DE X W a ma) (hb : DE X W b mb) : DE X W (.BinOp a op b pos) (iBin f ma mb) :=
  (pe_op ho ha hb).imp fun _ _ _ h => eM_bin hs h
theorem de_un {op : UnaryOp} {r : V → Hp → VK → Prop} {f : IV → Sto → Out IV} (ho : UnR X (unaryOp op) r) (hs : UnS (kx X W) W.x r f) (ha : DE X W a ma) : DE X W (.UnaryOp op a pos) (iUn f ma) :=
  (pe_un ho ha).imp fun _ _ _ h => eM_un hs h
theorem de_cmp {op : CmpOp} {r : R2} {f : IV → IV → Sto → Out IV} (ho : OpR X (compareOp op) r) (hs : OpS (kx X W) W.x r f) (ha : DE X W a ma) (hb : DE X W b mb) (hm : behindInMarks op b = false := by first | exact nomark _ | rfl) : DE X W (.Compare a [op] [b] pos) (iBin f ma mb) :=
  (pe_cmpR ho ha hb hm).imp fun _ _ _ h => eM_bin hs h
def asB {α : Type} (x : IV) (k : Bool → Out α) : Out α := match x with
  | .bl b => k b
  | _ => .bad
def iTest (m : IE) : IT := fun Λ S => (m Λ S).bind fun x S1 => asB x fun b => .ok b S1
theorem asB_post {α : Type} {K : KX} {W : WX} {w : Wd} {x : IV} {v : V} {k : Bool → Out α} {P : Wd → Hp → Sto → α → Prop} (h : Post K W w (asB x k) P) (r : Rel K w v x) : ∃ b, x = .bl b ∧ v = .bl b ∧ Post K W w (k b) P := by
  unfold asB at h
  split at h
  · rename_i b
    cases r
    exact ⟨_, rfl, rfl, h⟩
  · exact h.elim
theorem dt_cmp {op : CmpOp} {r : R2} {f : IV → IV → Sto → Out IV} (ho : OpR X (compareOp op) r) (hs : OpS (kx X W) W.x r f) (ha : DE X W a ma) (hb : DE X W b mb) (hm : behindInMarks op b = false := by first | exact nomark _ | rfl) : DT X W (.Compare a [op] [b] pos) (iTest (iBin f ma mb)) :=
  (pt_cmpR ho ha hb hm).imp fun σ H Q ⟨w, S, Λ, r0, s0, p⟩ => eM_bin hs ⟨w, S, Λ, r0, s0, p.bind.imp fun w1 H1 S1 ix l1 r1 p1 v1 rv1 => by
    obtain ⟨b, rfl, rfl, q⟩ := asB_post p1 rv1
    exact ⟨b, rfl, q.now r1⟩⟩
/-- a < b < c -/
def iChain (f g : IV → IV → Sto → Out IV) (ma mb mc : IE) : IE := fun Λ S => (ma Λ S).bind fun x S1 => (mb Λ S1).bind fun y S2 => (f x y S2).bind fun z S3 => asB z fun k => if k = true then (mc Λ S3).bind fun u S4 => g y u S4 else .ok (.bl false) S3
theorem eM_chain {K : KX} {W : WX} {σ : L2.St} {H : Hp} {Q : VK} {r r' : R2} {f g : IV → IV → Sto → Out IV} {ma mb mc : IE} (ho : OpS K W r f) (ho' : OpS K W r' g) (h : eM K W (iChain f g ma mb mc) σ H Q) : tChain r r' (eM K W ma) (eM K W mb) (eM K W mc) σ H Q := by
  obtain ⟨w, S, Λ, r0, s0, p⟩ := h
  refine ⟨w, S, Λ, r0, s0, p.bind.imp fun w1 H1 S1 ix l1 r1 p1 v1 rv1 => ⟨w1, S1, Λ, r1, s0.up l1, p1.bind.imp fun w2 H2 S2 iy l2 r2 p2 v2 rv2 => ?_⟩⟩
  refine ho w2 S2 H2 _ _ _ _ _ r2 (rv1.up l2) rv2 (p2.bind.imp fun w3 H3 S3 iz l3 r3 p3 v3 rv3 => ?_)
  obtain ⟨k, rfl, rfl, q⟩ := asB_post p3 rv3
  refine ⟨k, rfl, ?_⟩
  cases k with
  | true =>
    rw [if_pos rfl] at q ⊢
    exact ⟨w3, S3, Λ, r3, (s0.up l1).up (l2.trans l3), q.bind.imp fun w4 H4 S4 iu l4 r4 p4 v4 rv4 => ho' w4 S4 H4 _ _ _ _ _ r4 (rv2.up (l3.trans l4)) rv4 p4⟩
  | false =>
    rw [if_neg Bool.false_ne_true] at q ⊢
    exact q.now r3 _ (.bl false)
end

/-! ### values by kind -/
def asI {α : Type} (x : IV) (k : Int → Out α) : Out α := match x with
  | .int b => k b
  | _ => .bad
def asS {α : Type} (x : IV) (k : Str → Out α) : Out α := match x with
  | .str b => k b
  | _ => .bad
def lstOf (S : Sto) : IV → Option (List IV)
  | .lst xs => some xs
  | .wls xs => some xs
  | .adr n => match S[n]? with
    | some (.lst xs) => some xs
    | _ => none
  | _ => none
def lstX (S : Sto) : IV → Option (List IV)
  | .lst xs => some xs
  | .adr n => match S[n]? with
    | some (.lst xs) => some xs
    | _ => none
  | _ => none
def tupOf : IV → Option (List IV)
  | .tup xs => some xs
  | _ => none
section
variable {K : KX} {W : WX} {w : Wd} {S : Sto} {H : Hp} {α : Type} {P : Wd → Hp → Sto → α → Prop}
theorem asI_post {x : IV} {v : V} {k : Int → Out α} (h : Post K W w (asI x k) P) (r : Rel K w v x) : ∃ b, x = .int b ∧ v = .int b ∧ Post K W w (k b) P := by
  unfold asI at h
  split at h
  · rename_i b
    cases r
    exact ⟨_, rfl, rfl, h⟩
  · exact h.elim
theorem asS_post {x : IV} {v : V} {k : Str → Out α} (h : Post K W w (asS x k) P) (r : Rel K w v x) : ∃ b, x = .str b ∧ v = .str b ∧ Post K W w (k b) P := by
  unfold asS at h
  split at h
  · rename_i b
    cases r
    exact ⟨_, rfl, rfl, h⟩
  · exact h.elim
theorem lstOf_sq {iv : IV} {v : V} {ivs : List IV} (e : lstOf S iv = some ivs) (r : R K w S H) (rv : Rel K w v iv) : ∃ a xs, v = .ref a ∧ SqL K.k H a xs ∧ RelL K w xs ivs := by
  cases iv with
  | lst ys =>
    cases e
    cases rv with
    | lst h1 h2 => exact ⟨_, _, rfl, .of (r.F _ _ h1), h2⟩
  | wls ys =>
    cases e
    cases rv with
    | wls h1 h2 => exact ⟨_, _, rfl, r.F.seq h1, h2⟩
  | adr n =>
    cases rv with
    | adr h1 =>
      unfold lstOf at e
      cases q : S[n]? with
      | none => simp only [q] at e; cases e
      | some c =>
        simp only [q] at e
        cases c with
        | lst ys =>
          cases e
          obtain ⟨xs, h2, h3⟩ := r.cell n _ _ q h1
          exact ⟨_, _, rfl, .of h2, h3⟩
        | _ => cases e
  | _ => cases e
theorem lstX_sq {iv : IV} {v : V} {ivs : List IV} (e : lstX S iv = some ivs) (r : R K w S H) (rv : Rel K w v iv) : ∃ a xs, v = .ref a ∧ H a = some (.lst xs) ∧ RelL K w xs ivs := by
  cases iv with
  | lst ys =>
    cases e
    cases rv with
    | lst h1 h2 => exact ⟨_, _, rfl, (r.F _ _ h1), h2⟩
  | adr n =>
    cases rv with
    | adr h1 =>
      unfold lstX at e
      cases q : S[n]? with
      | none => simp only [q] at e; cases e
      | some c =>
        simp only [q] at e
        cases c with
        | lst ys =>
          cases e
          obtain ⟨xs, h2, h3⟩ := r.cell n _ _ q h1
          exact ⟨_, _, rfl, h2, h3⟩
        | _ => cases e
  | _ => cases e
theorem tupOf_sq {iv : IV} {v : V} {ivs : List IV} (e : tupOf iv = some ivs) (r : R K w S H) (rv : Rel K w v iv) : ∃ a xs, v = .ref a ∧ SqT K.k H a xs ∧ RelL K w xs ivs := by
  cases iv with
  | tup ys =>
    cases e
    cases rv with
    | tup h1 h2 => exact ⟨_, _, rfl, same_t r.F h1, h2⟩
  | _ => cases e
/-- an option must be there -/
def orBad {β : Type} (o : Option β) (k : β → Out α) : Out α := match o with
  | some b => k b
  | none => .bad
theorem orBad_post {β : Type} {o : Option β} {k : β → Out α} (h : Post K W w (orBad o k) P) : ∃ b, o = some b ∧ Post K W w (k b) P := by
  unfold orBad at h
  split at h
  · exact ⟨_, rfl, h⟩
  · exact h.elim
@[simp] theorem orBad_some {β : Type} {b : β} {k : β → Out α} : orBad (some b) k = k b := rfl
end
/-- a new list that never changes; a new list in the store; a new tuple -/
def mkF (ivs : List IV) (S : Sto) : Out IV := chk (ivs.length ≤ sizeLine) (.ok (.lst ivs) S)
def mkC (ivs : List IV) (S : Sto) : Out IV := chk (ivs.length ≤ sizeLine) (.ok (.adr S.length) (S ++ [.lst ivs]))
def mkL (cell : Bool) (ivs : List IV) (S : Sto) : Out IV := if cell = true then mkC ivs S else mkF ivs S
def mkT (ivs : List IV) (S : Sto) : Out IV := chk (ivs.length ≤ sizeLine) (.ok (.tup ivs) S)
section
variable {K : KX} {W : WX} {w : Wd} {S : Sto} {H : Hp} {Q : VK}
theorem mkL_post {cell : Bool} {ivs : List IV} {xs : List V} (h : Post K W w (mkL cell ivs S) fun w' H' _ iv => ∀ v, Rel K w' v iv → Q v H') (r : R K w S H) (rx : RelL K w xs ivs) : xs.length ≤ sizeLine ∧ ∀ p, H p = none → Q (.ref p) (upd H p (.lst xs)) := by
  rw [rx.length]
  cases cell with
  | true =>
    obtain ⟨h1, h⟩ := chk_post (show Post K W w (mkC ivs S) _ from h)
    refine ⟨h1, fun p hp => ?_⟩
    obtain ⟨l, r'⟩ := r.alloc (c := .lst ivs) (o := .lst xs) hp fun w' l => ⟨xs, upd_same, rx.up l⟩
    refine h _ _ l r' _ (.adr ?_)
    show (w.rho ++ [p])[S.length]? = some p
    rw [← r.len, List.getElem?_append_right (Nat.le_refl _), Nat.sub_self]
    rfl
  | false =>
    obtain ⟨h1, h⟩ := chk_post (show Post K W w (mkF ivs S) _ from h)
    refine ⟨h1, fun p hp => ?_⟩
    obtain ⟨l, r'⟩ := r.frz (o := .lst xs) hp
    exact h _ _ l r' _ (.lst upd_same (rx.up l))
theorem mkT_post {ivs : List IV} {xs : List V} (h : Post K W w (mkT ivs S) fun w' H' _ iv => ∀ v, Rel K w' v iv → Q v H') (r : R K w S H) (rx : RelL K w xs ivs) : xs.length ≤ sizeLine ∧ ∀ p, H p = none → Q (.ref p) (upd H p (.tup xs)) := by
  rw [rx.length]
  obtain ⟨h1, h⟩ := chk_post h
  refine ⟨h1, fun p hp => ?_⟩
  obtain ⟨l, r'⟩ := r.frz (o := .tup xs) hp
  exact h _ _ l r' _ (.tup (.of upd_same) (rx.up l))
end
section
variable {X : Cx} {W : WZ} {pos : Pos} {es : List Expr} {m : IA}
def iLst (cell : Bool) (m : IA) : IE := iCa (mkL cell) m
def iTup (m : IA) : IE := iCa mkT m
theorem de_lst (cell : Bool) (h : DA X W es m) : DE X W (.List es pos) (iLst cell m) :=
  (pe_lst h).imp fun σ H Q ⟨w, S, Λ, r0, s0, p⟩ => ⟨w, S, Λ, r0, s0, p.bind.imp fun w1 H1 S1 ix l1 r1 p1 v1 rv1 => mkL_post p1 r1 rv1⟩
theorem de_tup {x1} (h : DA X W es m) : DE X W (.Tuple es x1 pos) (iTup m) :=
  (pe_tup h).imp fun σ H Q ⟨w, S, Λ, r0, s0, p⟩ => ⟨w, S, Λ, r0, s0, p.bind.imp fun w1 H1 S1 ix l1 r1 p1 v1 rv1 => mkT_post p1 r1 rv1⟩
end

/-! ### ints -/
instance (i j : Int) : Decidable (CMul i j) := by unfold CMul; infer_instance
instance (i j : Int) : Decidable (CDiv i j) := by unfold CDiv; infer_instance
instance (i j : Int) : Decidable (CPow i j) := by unfold CPow; infer_instance
def fI (C : Int → Int → Prop) [∀ i j, Decidable (C i j)] (g : Int → Int → Int) (x y : IV) (S : Sto) : Out IV := asI x fun i => asI y fun j => chk (C i j) (.ok (.int (g i j)) S)
def fB (g : Int → Int → Bool) (x y : IV) (S : Sto) : Out IV := asI x fun i => asI y fun j => .ok (.bl (g i j)) S
section
variable {K : KX} {W : WX}
theorem os_I {C : Int → Int → Prop} [∀ i j, Decidable (C i j)] {g : Int → Int → Int} : OpS K W (rI C fun i j => .int (g i j)) (fI C g) := fun w S H x y ix iy Q r rx ry p => by
  obtain ⟨i, rfl, rfl, p⟩ := asI_post p rx
  obtain ⟨j, rfl, rfl, p⟩ := asI_post p ry
  obtain ⟨c, p⟩ := chk_post p
  exact ⟨i, j, rfl, rfl, c, p.now r _ (.int _)⟩
theorem os_B {g : Int → Int → Bool} : OpS K W (rI0 fun i j => .bl (g i j)) (fB g) := fun w S H x y ix iy Q r rx ry p => by
  obtain ⟨i, rfl, rfl, p⟩ := asI_post p rx
  obtain ⟨j, rfl, rfl, p⟩ := asI_post p ry
  exact ⟨i, j, rfl, rfl, p.now r _ (.bl _)⟩
end
/-- a + b: ints, texts, lists (the sum never changes) -/
def fAdd (x y : IV) (S : Sto) : Out IV := match x, y with
  | .int i, .int j => .ok (.int (i + j)) S
  | .str a, .str b => chk (a.length + b.length ≤ sizeLine) (.ok (.str (a ++ b)) S)
  | a, b => orBad (lstX S a) fun xs => orBad (lstX S b) fun ys => mkF (xs ++ ys) S
abbrev rAddS : R2 := fun x y H Q => ∃ i j, x = .str i ∧ y = .str j ∧ i.length + j.length ≤ sizeLine ∧ Q (.str (i ++ j)) H
abbrev rAddI : R2 := rI0 fun i j => .int (i + j)
abbrev rAddA : R2 := fun x y H Q => rAddI x y H Q ∨ ((fun x y H Q => rAddS x y H Q ∨ rCat x y H Q) : R2) x y H Q
theorem op_addA {X : Cx} : OpR X (binaryOp .Add) rAddA := op_add.or (op_add_str.or op_cat)
theorem os_add {K : KX} {W : WX} : OpS K W rAddA fAdd := fun w S H x y ix iy Q r rx ry p => by
  unfold fAdd at p
  split at p
  · rename_i i j
    cases rx; cases ry
    exact .inl ⟨_, _, rfl, rfl, p.now r _ (.int _)⟩
  · rename_i i j
    cases rx; cases ry
    obtain ⟨c, p⟩ := chk_post p
    exact .inr (.inl ⟨_, _, rfl, rfl, c, p.now r _ (.str _)⟩)
  · obtain ⟨xs, e1, p⟩ := orBad_post p
    obtain ⟨ys, e2, p⟩ := orBad_post p
    obtain ⟨a, vs, rfl, h1, q1⟩ := lstX_sq e1 r rx
    obtain ⟨b, us, rfl, h2, q2⟩ := lstX_sq e2 r ry
    obtain ⟨c, k⟩ := mkL_post (cell := false) p r (q1.append q2)
    exact .inr (.inr ⟨_, _, _, _, rfl, rfl, h1, h2, by rw [List.length_append] at c; exact c, k⟩)
/-- the sum is in the store -/
def fCatC (x y : IV) (S : Sto) : Out IV := orBad (lstX S x) fun xs => orBad (lstX S y) fun ys => mkC (xs ++ ys) S
theorem os_catC {K : KX} {W : WX} : OpS K W rCat fCatC := fun w S H x y ix iy Q r rx ry p => by
  obtain ⟨xs, e1, p⟩ := orBad_post p
  obtain ⟨ys, e2, p⟩ := orBad_post p
  obtain ⟨a, vs, rfl, h1, q1⟩ := lstX_sq e1 r rx
  obtain ⟨b, us, rfl, h2, q2⟩ := lstX_sq e2 r ry
  obtain ⟨c, k⟩ := mkL_post (cell := true) p r (q1.append q2)
  exact ⟨_, _, _, _, rfl, rfl, h1, h2, by rw [List.length_append] at c; exact c, k⟩
abbrev fSub := fI (fun _ _ => True) fun i j => i - j
abbrev rSubT : R2 := rI (fun _ _ => True) fun i j => .int (i - j)
theorem op_subT {X : Cx} : OpR X (binaryOp .Sub) rSubT := opI fun _ _ _ _ _ _ _ _ q => sub_int q
abbrev fMul := fI CMul fun i j => i * j
abbrev fDiv := fI CDiv fun i j => i / j
abbrev fMod := fI (fun _ j => 0 < j) fun i j => i % j
abbrev fPow := fI CPow fun i j => i ^ j.toNat
def fNeg (x : IV) (S : Sto) : Out IV := asI x fun i => .ok (.int (-i)) S
theorem us_neg {K : KX} {W : WX} : UnS K W (rU fun i => .int (-i)) fNeg := fun w S H x ix Q r rx p => by
  obtain ⟨i, rfl, rfl, p⟩ := asI_post p rx
  exact ⟨i, rfl, p.now r _ (.int _)⟩
abbrev fLt := fB fun i j => decide (i < j)
abbrev fLe := fB fun i j => decide (i ≤ j)
abbrev fGt := fB fun i j => decide (j < i)
abbrev fGe := fB fun i j => decide (j ≤ i)

/-! ### data, == -/
def viewL (f : IV → Option PyData) : List IV → Option (List PyData)
  | [] => some []
  | x :: xs => match f x, viewL f xs with
    | some d, some ds => some (d :: ds)
    | _, _ => none
def view : Nat → Sto → IV → Option PyData
  | 0, _, _ => none
  | n + 1, S, x => match x with
    | .non => some .none
    | .bl b => some (.bool b)
    | .int i => some (.int i)
    | .str s => some (.str s)
    | .lst xs => (viewL (view n S) xs).map .list
    | .wls xs => (viewL (view n S) xs).map .list
    | .tup xs => (viewL (view n S) xs).map .tuple
    | .adr m => match S[m]? with
      | some (.lst xs) => (viewL (view n S) xs).map .list
      | _ => none
    | _ => none
section
variable {K : KX} {w : Wd} {S : Sto} {H : Hp}
theorem viewL_dp {f : IV → Option PyData} (hf : ∀ x d v, f x = some d → Rel K w v x → Dp K.k H v d) : ∀ (xs : List IV) (ds : List PyData) (vs : List V), viewL f xs = some ds → RelL K w vs xs → DpAll K.k H vs ds
  | [], _, _, e, h => by
    cases h; cases e; exact .nil
  | x :: xs, ds, _, e, h => by
    cases h with
    | cons a b =>
      unfold viewL at e
      split at e
      · rename_i d ds' e1 e2
        cases e
        exact .cons (hf _ _ _ e1 a) (viewL_dp hf xs _ _ e2 b)
      · cases e
theorem view_dp (r : R K w S H) : ∀ (n : Nat) (x : IV) (d : PyData) (v : V), view n S x = some d → Rel K w v x → Dp K.k H v d
  | 0, _, _, _, e, _ => by cases e
  | n + 1, x, d, v, e, h => by
    have ih := view_dp r n
    unfold view at e
    cases x with
    | non => cases e; cases h; exact .non
    | bl b => cases e; cases h; exact .bl _
    | int b => cases e; cases h; exact .int _
    | str b => cases e; cases h; exact .str _
    | lst xs =>
      obtain ⟨ds, e1, e2⟩ := Option.map_eq_some_iff.mp e
      subst e2
      cases h with
      | lst h1 h2 => exact .lst (.of (r.F _ _ h1)) (viewL_dp ih xs ds _ e1 h2)
    | wls xs =>
      obtain ⟨ds, e1, e2⟩ := Option.map_eq_some_iff.mp e
      subst e2
      cases h with
      | wls h1 h2 => exact .lst (r.F.seq h1) (viewL_dp ih xs ds _ e1 h2)
    | tup xs =>
      obtain ⟨ds, e1, e2⟩ := Option.map_eq_some_iff.mp e
      subst e2
      cases h with
      | tup h1 h2 => exact .tup (same_t r.F h1) (viewL_dp ih xs ds _ e1 h2)
    | adr m =>
      cases h with
      | adr h1 =>
        cases q : S[m]? with
        | none => simp only [q] at e; cases e
        | some c =>
          simp only [q] at e
          cases c with
          | lst xs =>
            obtain ⟨ds, e1, e2⟩ := Option.map_eq_some_iff.mp e
            subst e2
            obtain ⟨vs, h2, h3⟩ := r.cell m _ _ q h1
            exact .lst (.of h2) (viewL_dp ih xs ds _ e1 h3)
          | _ => cases e
    | _ => cases e
end
/-- == of data: the scalars by themselves -/
def eqB (S : Sto) (x y : IV) : Option Bool := match x, y with
  | .int i, .int j => some (decide (i = j))
  | .str a, .str b => some (decide (a = b))
  | .bl a, .bl b => some (decide (a = b))
  | a, b => match view 8 S a, view 8 S b with
    | some d, some e => if SeqAt.shaped d = true ∧ SeqAt.shaped e = true then some (PyData.eqv d e) else none
    | _, _ => none
def fEq (x y : IV) (S : Sto) : Out IV := orBad (eqB S x y) fun b => .ok (.bl b) S
def fNe (x y : IV) (S : Sto) : Out IV := orBad (eqB S x y) fun b => .ok (.bl (!b)) S
abbrev rEqA (K : PySem.W.Frag) : R2 := fun x y H Q => rEq x y H Q ∨ rEqD K x y H Q
abbrev rNeA (K : PySem.W.Frag) : R2 := fun x y H Q => rNe x y H Q ∨ rNeD K x y H Q
theorem op_eqA {X : Cx} (hu : X.A.units + 64 < cLine) : OpR X (compareOp .Eq) (rEqA X.K) := op_eq.or (op_eqD hu)
theorem op_neA {X : Cx} (hu : X.A.units + 64 < cLine) : OpR X (compareOp .NotEq) (rNeA X.K) := op_ne.or (op_neD hu)
theorem eqB_cases {K : KX} {w : Wd} {S : Sto} {H : Hp} {x y : V} {ix iy : IV} {b : Bool} (r : R K w S H) (rx : Rel K w x ix) (ry : Rel K w y iy) (e : eqB S ix iy = some b) :
    (scal x y = true ∧ b = decide (x = y)) ∨ ∃ d e, Dp K.k H x d ∧ Dp K.k H y e ∧ SeqAt.shaped d = true ∧ SeqAt.shaped e = true ∧ b = PyData.eqv d e := by
  unfold eqB at e
  split at e
  · cases rx; cases ry; cases e
    exact .inl ⟨rfl, by simp⟩
  · cases rx; cases ry; cases e
    exact .inl ⟨rfl, by simp⟩
  · cases rx; cases ry; cases e
    exact .inl ⟨rfl, by simp⟩
  · split at e
    · rename_i d d' h1 h2
      split at e
      · rename_i hs
        cases e
        exact .inr ⟨d, d', view_dp r _ _ _ _ h1 rx, view_dp r _ _ _ _ h2 ry, hs.1, hs.2, rfl⟩
      · cases e
    · cases e
theorem os_eq {K : KX} {W : WX} : OpS K W (rEqA K.k) fEq := fun w S H x y ix iy Q r rx ry p => by
  obtain ⟨b, e, p⟩ := orBad_post p
  rcases eqB_cases r rx ry e with ⟨h1, h2⟩ | ⟨d, d', h1, h2, h3, h4, h5⟩
  · subst h2; exact .inl ⟨h1, p.now r _ (.bl _)⟩
  · subst h5; exact .inr ⟨d, d', h1, h2, h3, h4, p.now r _ (.bl _)⟩
theorem os_ne {K : KX} {W : WX} : OpS K W (rNeA K.k) fNe := fun w S H x y ix iy Q r rx ry p => by
  obtain ⟨b, e, p⟩ := orBad_post p
  rcases eqB_cases r rx ry e with ⟨h1, h2⟩ | ⟨d, d', h1, h2, h3, h4, h5⟩
  · subst h2; exact .inl ⟨h1, p.now r _ (.bl _)⟩
  · subst h5; exact .inr ⟨d, d', h1, h2, h3, h4, p.now r _ (.bl _)⟩
/-- is None -/
def isN : IV → Bool
  | .non => true
  | _ => false
theorem isN_rel {K : KX} {w : Wd} {x : V} {ix : IV} (rx : Rel K w x ix) : decide (x = .non) = isN ix := by
  cases rx <;> simp [isN]
def fIsN (x _y : IV) (S : Sto) : Out IV := .ok (.bl (isN x)) S
def fNotN (x _y : IV) (S : Sto) : Out IV := .ok (.bl (!isN x)) S
end Sm

namespace Sm
open PySem PySem.Spec PyProof.Rows L2

/-! ### is None -/
theorem os_isN {K : KX} {W : WX} : OpS K W (fun x y H Q => y = .non ∧ Q (.bl (decide (x = .non))) H) (fun x y S => match y with | .non => .ok (.bl (isN x)) S | _ => .bad) := fun w S H x y ix iy Q r rx ry p => by
  cases ry with
  | non =>
    refine ⟨rfl, ?_⟩
    rw [isN_rel rx]
    exact (show Post K W w (Out.ok (IV.bl (isN ix)) S) (fun w' H' _ iv => ∀ v, Rel K w' v iv → Q v H') from p).now r _ (Rel.bl _)
  | _ => exact p.elim
theorem os_notN {K : KX} {W : WX} : OpS K W (fun x y H Q => y = .non ∧ Q (.bl (!decide (x = .non))) H) (fun x y S => match y with | .non => .ok (.bl (!isN x)) S | _ => .bad) := fun w S H x y ix iy Q r rx ry p => by
  cases ry with
  | non =>
    refine ⟨rfl, ?_⟩
    rw [isN_rel rx]
    exact (show Post K W w (Out.ok (IV.bl (!isN ix)) S) (fun w' H' _ iv => ∀ v, Rel K w' v iv → Q v H') from p).now r _ (Rel.bl _)
  | _ => exact p.elim
def gIsN : IV → IV → Sto → Out IV := fun x y S => match y with | .non => .ok (.bl (isN x)) S | _ => .bad
def gNotN : IV → IV → Sto → Out IV := fun x y S => match y with | .non => .ok (.bl (!isN x)) S | _ => .bad

/-! ### in -/
def scV : IV → Option V
  | .non => some .non
  | .bl b => some (.bl b)
  | .int i => some (.int i)
  | .str s => some (.str s)
  | _ => none
def scVs : List IV → Option (List V)
  | [] => some []
  | x :: xs => match scV x, scVs xs with
    | some v, some vs => some (v :: vs)
    | _, _ => none
theorem scV_rel {K : KX} {w : Wd} {x : IV} {v u : V} (e : scV x = some u) (r : Rel K w v x) : v = u ∧ flatV u = true := by
  cases x <;> (first | (cases e; done) | (cases e; cases r; exact ⟨rfl, rfl⟩))
theorem scVs_rel {K : KX} {w : Wd} : ∀ {xs : List IV} {vs us : List V}, scVs xs = some us → RelL K w vs xs → vs = us ∧ us.all flatV = true
  | [], _, _, e, r => by cases e; cases r; exact ⟨rfl, rfl⟩
  | x :: xs, _, us, e, r => by
    cases r with
    | cons a b =>
      unfold scVs at e
      split at e
      · rename_i u us' e1 e2
        cases e
        obtain ⟨h1, h2⟩ := scV_rel e1 a
        obtain ⟨h3, h4⟩ := scVs_rel e2 b
        exact ⟨by rw [h1, h3], by rw [List.all_cons, h2, h4]; rfl⟩
      · cases e
def seqOf (S : Sto) (x : IV) : Option (List IV) := match tupOf x with
  | some xs => some xs
  | none => lstOf S x
theorem seqOf_sq {K : KX} {w : Wd} {S : Sto} {H : Hp} {iv : IV} {v : V} {ivs : List IV} (e : seqOf S iv = some ivs) (r : R K w S H) (rv : Rel K w v iv) : ∃ a xs, v = .ref a ∧ (SqL K.k H a xs ∨ SqT K.k H a xs) ∧ RelL K w xs ivs := by
  unfold seqOf at e
  split at e
  · rename_i xs h
    cases e
    obtain ⟨a, xs, h1, h2, h3⟩ := tupOf_sq h r rv
    exact ⟨a, xs, h1, .inr h2, h3⟩
  · obtain ⟨a, xs, h1, h2, h3⟩ := lstOf_sq e r rv
    exact ⟨a, xs, h1, .inl h2, h3⟩
/-- the one sign of a text -/
def sgn (s : Str) : Option Nat := match s.cps.toList with
  | [c] => some c
  | _ => none
theorem sgn_eq {s : Str} {c : Nat} (h : sgn s = some c) : s = ⟨#[c]⟩ := by
  unfold sgn at h
  split at h
  · rename_i d e
    cases h
    cases s with
    | mk a =>
      have : a = #[c] := Array.toList_inj.mp e
      rw [this]
  · cases h
/-- x in y: one sign in a text, a flat thing in a list or tuple -/
def inB (S : Sto) (x y : IV) : Option Bool := match y with
  | .str z => match x with
    | .str s => (sgn s).map fun c => decide (c ∈ z.cps.toList)
    | _ => none
  | y => match scV x, seqOf S y with
    | some u, some ys => (scVs ys).map fun us => inV u us
    | _, _ => none
def fIn (x y : IV) (S : Sto) : Out IV := orBad (inB S x y) fun b => .ok (.bl b) S
def fNotIn (x y : IV) (S : Sto) : Out IV := orBad (inB S x y) fun b => .ok (.bl (!b)) S
abbrev rInSg : R2 := fun x y H Q => ∃ (c : Nat) (z : Str), x = .str ⟨#[c]⟩ ∧ y = .str z ∧ Q (.bl (decide (c ∈ z.cps.toList))) H
abbrev rNotInSg : R2 := fun x y H Q => ∃ (c : Nat) (z : Str), x = .str ⟨#[c]⟩ ∧ y = .str z ∧ Q (.bl (!decide (c ∈ z.cps.toList))) H
theorem op_inA {X : Cx} : OpR X (compareOp .In) (fun x y H Q => rInSg x y H Q ∨ rIn X.K false x y H Q) := op_in_sign.or op_in_seq
theorem op_notInA {X : Cx} : OpR X (compareOp .NotIn) (fun x y H Q => rNotInSg x y H Q ∨ rIn X.K true x y H Q) := op_notIn_sign.or op_notIn_seq
theorem inB_cases {K : KX} {w : Wd} {S : Sto} {H : Hp} {x y : V} {ix iy : IV} {b : Bool} (r : R K w S H) (rx : Rel K w x ix) (ry : Rel K w y iy) (e : inB S ix iy = some b) :
    (∃ (c : Nat) (z : Str), x = .str ⟨#[c]⟩ ∧ y = .str z ∧ b = decide (c ∈ z.cps.toList)) ∨ ∃ p xs, y = .ref p ∧ (SqL K.k H p xs ∨ SqT K.k H p xs) ∧ flatV x = true ∧ xs.all flatV = true ∧ b = inV x xs := by
  unfold inB at e
  split at e
  · rename_i z
    cases ry
    split at e
    · rename_i t
      cases rx
      obtain ⟨c, h1, h2⟩ := Option.map_eq_some_iff.mp e
      have := sgn_eq h1
      subst this
      exact .inl ⟨c, z, rfl, rfl, h2.symm⟩
    · cases e
  · split at e
    · rename_i u ys e1 e2
      obtain ⟨us, e3, e4⟩ := Option.map_eq_some_iff.mp e
      obtain ⟨h1, h2⟩ := scV_rel e1 rx
      obtain ⟨p, xs, h3, h4, h5⟩ := seqOf_sq e2 r ry
      obtain ⟨h6, h7⟩ := scVs_rel e3 h5
      subst h1 h6
      exact .inr ⟨p, _, h3, h4, h2, h7, e4.symm⟩
    · cases e
theorem os_in {K : KX} {W : WX} : OpS K W (fun x y H Q => rInSg x y H Q ∨ rIn K.k false x y H Q) fIn := fun w S H x y ix iy Q r rx ry p => by
  obtain ⟨b, e, p⟩ := orBad_post p
  rcases inB_cases r rx ry e with ⟨c, z, rfl, rfl, rfl⟩ | ⟨a, xs, h1, h2, h3, h4, rfl⟩
  · exact .inl ⟨c, z, rfl, rfl, p.now r _ (.bl _)⟩
  · exact .inr ⟨a, xs, h1, h2, h3, h4, by rw [if_neg Bool.false_ne_true]; exact p.now r _ (.bl _)⟩
theorem os_notIn {K : KX} {W : WX} : OpS K W (fun x y H Q => rNotInSg x y H Q ∨ rIn K.k true x y H Q) fNotIn := fun w S H x y ix iy Q r rx ry p => by
  obtain ⟨b, e, p⟩ := orBad_post p
  rcases inB_cases r rx ry e with ⟨c, z, rfl, rfl, rfl⟩ | ⟨a, xs, h1, h2, h3, h4, rfl⟩
  · exact .inl ⟨c, z, rfl, rfl, p.now r _ (.bl _)⟩
  · exact .inr ⟨a, xs, h1, h2, h3, h4, by rw [if_pos rfl]; exact p.now r _ (.bl _)⟩

/-! ### truth, and, or, not, if -/
def truB (S : Sto) (x : IV) : Option Bool := match x with
  | .non => some false
  | .bl b => some b
  | .int i => some (i != 0)
  | .str y => if y.length ≤ sizeLine then some ((y.length : Int) != 0) else none
  | .tup xs => some (!xs.isEmpty)
  | .adr n => match S[n]? with
    | some (.lst xs) => some (!xs.isEmpty)
    | some (.dic kvs) => some (!kvs.isEmpty)
    | _ => none
  | x => (lstOf S x).map fun xs => !xs.isEmpty
theorem RelL.empty {K : KX} {w : Wd} {xs : List V} {ivs : List IV} (r : RelL K w xs ivs) : (!ivs.isEmpty) = !xs.isEmpty := by cases r <;> rfl
theorem truB_rel {K : KX} {w : Wd} {S : Sto} {H : Hp} {x : V} {ix : IV} {b : Bool} (r : R K w S H) (rx : Rel K w x ix) (e : truB S ix = some b) : TruV K.k x H b := by
  have lst : ∀ {ys}, lstOf S ix = some ys → b = (!ys.isEmpty) → TruV K.k x H b := fun {ys} h1 h2 => by
    obtain ⟨a, xs, rfl, h3, h4⟩ := lstOf_sq h1 r rx
    exact .inl ⟨xs, h3, by rw [h2, h4.empty]⟩
  unfold truB at e
  split at e
  · cases rx; cases e; rfl
  · cases rx; cases e; rfl
  · cases rx; cases e; rfl
  · cases rx
    split at e
    · cases e
      exact ⟨by assumption, rfl⟩
    · cases e
  · cases rx with
    | tup h1 h2 =>
      cases e
      exact .inr (.inl ⟨_, same_t r.F h1, by rw [h2.empty]⟩)
  · cases rx with
    | adr h1 =>
      split at e
      · rename_i q
        cases e
        obtain ⟨xs, h2, h3⟩ := r.cell _ _ _ q h1
        exact .inl ⟨xs, .of h2, by rw [h3.empty]⟩
      · rename_i q
        cases e
        obtain ⟨xs, h2, h3⟩ := r.cell _ _ _ q h1
        refine .inr (.inr ⟨xs, h2, ?_⟩)
        cases h3 <;> rfl
      · cases e
  · obtain ⟨ys, h1, h2⟩ := Option.map_eq_some_iff.mp e
    exact lst h1 h2.symm
def iTru (m : IE) : IT := fun Λ S => (m Λ S).bind fun x S1 => orBad (truB S1 x) fun b => .ok b S1
def iAnd (c d : IT) : IT := fun Λ S => (c Λ S).bind fun b S1 => if b = true then d Λ S1 else .ok false S1
def iOr (c d : IT) : IT := fun Λ S => (c Λ S).bind fun b S1 => if b = true then .ok true S1 else d Λ S1
def iNot (c : IT) : IT := fun Λ S => (c Λ S).bind fun b S1 => .ok (!b) S1
def iAndV (c d : IE) : IE := fun Λ S => (c Λ S).bind fun x S1 => asB x fun b => if b = true then d Λ S1 else .ok (.bl false) S1
def iOrV (c d : IE) : IE := fun Λ S => (c Λ S).bind fun x S1 => asB x fun b => if b = true then .ok (.bl true) S1 else d Λ S1
def iNotV (c : IE) : IE := fun Λ S => (c Λ S).bind fun x S1 => asB x fun b => .ok (.bl (!b)) S1
def iIf {α : Type} (c : IT) (a b : Slots → Sto → Out α) : Slots → Sto → Out α := fun Λ S => (c Λ S).bind fun k S1 => if k = true then a Λ S1 else b Λ S1
section
variable {X : Cx} {W : WZ} {pos : Pos} {a b c : Expr} {rest : List Expr} {ma mb : IE} {ta tb tc : IT}
theorem dt_tru (ha : DE X W a ma) (he : ∀ whole, isTrue a X.env whole = (do let v ← whole; standAt a.pos; holding [v] (truthy v)) := by intro _; rfl) : DT X W a (iTru ma) :=
  (pt_truth ha he).imp fun σ H Q ⟨w, S, Λ, r0, s0, p⟩ => ⟨w, S, Λ, r0, s0, p.bind.imp fun w1 H1 S1 ix l1 r1 p1 v1 rv1 => by
    obtain ⟨b, e, q⟩ := orBad_post p1
    exact ⟨b, truB_rel r1 rv1 e, q.now r1⟩⟩
theorem dt_val (ha : DE X W a ma) (he : ∀ whole, isTrue a X.env whole = (do let v ← whole; standAt a.pos; holding [v] (truthy v)) := by intro _; rfl) : DT X W a (iTest ma) :=
  (pt_val ha he).imp fun σ H Q ⟨w, S, Λ, r0, s0, p⟩ => ⟨w, S, Λ, r0, s0, p.bind.imp fun w1 H1 S1 ix l1 r1 p1 v1 rv1 => by
    obtain ⟨b, rfl, rfl, q⟩ := asB_post p1 rv1
    exact ⟨b, rfl, q.now r1⟩⟩
theorem dt_w (h : DW X W a ta) : DT X W a ta := PW.pt h
theorem dw_and1 (h : DT X W a ta) : DW X W (.BoolOp .And [a] pos) ta := pw_and1 h
theorem dw_or1 (h : DT X W a ta) : DW X W (.BoolOp .Or [a] pos) ta := pw_or1 h
theorem dw_and (ha : DT X W a ta) (hb : DW X W (.BoolOp .And (b :: rest) pos) tb) : DW X W (.BoolOp .And (a :: b :: rest) pos) (iAnd ta tb) :=
  (pw_and ha hb).imp fun σ H Q ⟨w, S, Λ, r0, s0, p⟩ => ⟨w, S, Λ, r0, s0, p.bind.imp fun w1 H1 S1 k l1 r1 p1 => by
    cases k with
    | true => rw [if_pos rfl] at p1 ⊢; exact ⟨w1, S1, Λ, r1, s0.up l1, p1⟩
    | false => rw [if_neg Bool.false_ne_true] at p1 ⊢; exact p1.now r1⟩
theorem dw_or (ha : DT X W a ta) (hb : DW X W (.BoolOp .Or (b :: rest) pos) tb) : DW X W (.BoolOp .Or (a :: b :: rest) pos) (iOr ta tb) :=
  (pw_or ha hb).imp fun σ H Q ⟨w, S, Λ, r0, s0, p⟩ => ⟨w, S, Λ, r0, s0, p.bind.imp fun w1 H1 S1 k l1 r1 p1 => by
    cases k with
    | true => rw [if_pos rfl] at p1 ⊢; exact p1.now r1
    | false => rw [if_neg Bool.false_ne_true] at p1 ⊢; exact ⟨w1, S1, Λ, r1, s0.up l1, p1⟩⟩
theorem dt_not (ha : DT X W a ta) : DT X W (.UnaryOp .Not a pos) (iNot ta) :=
  (pt_not ha).imp fun σ H Q ⟨w, S, Λ, r0, s0, p⟩ => ⟨w, S, Λ, r0, s0, p.bind.imp fun w1 H1 S1 k l1 r1 p1 => p1.now r1⟩
theorem de_one {op} (h : DE X W a ma) : DE X W (.BoolOp op [a] pos) ma := pe_one h
theorem de_and (ha : DE X W a ma) (hb : DE X W (.BoolOp .And (b :: rest) pos) mb) : DE X W (.BoolOp .And (a :: b :: rest) pos) (iAndV ma mb) :=
  (pe_and ha hb).imp fun σ H Q ⟨w, S, Λ, r0, s0, p⟩ => ⟨w, S, Λ, r0, s0, p.bind.imp fun w1 H1 S1 ix l1 r1 p1 v1 rv1 => by
    obtain ⟨k, rfl, rfl, p1⟩ := asB_post p1 rv1
    refine ⟨k, rfl, ?_⟩
    cases k with
    | true => rw [if_pos rfl] at p1 ⊢; exact ⟨w1, S1, Λ, r1, s0.up l1, p1⟩
    | false => rw [if_neg Bool.false_ne_true] at p1 ⊢; exact p1.now r1 _ (.bl _)⟩
theorem de_or (ha : DE X W a ma) (hb : DE X W (.BoolOp .Or (b :: rest) pos) mb) : DE X W (.BoolOp .Or (a :: b :: rest) pos) (iOrV ma mb) :=
  (pe_or ha hb).imp fun σ H Q ⟨w, S, Λ, r0, s0, p⟩ => ⟨w, S, Λ, r0, s0, p.bind.imp fun w1 H1 S1 ix l1 r1 p1 v1 rv1 => by
    obtain ⟨k, rfl, rfl, p1⟩ := asB_post p1 rv1
    refine ⟨k, rfl, ?_⟩
    cases k with
    | true => rw [if_pos rfl] at p1 ⊢; exact p1.now r1 _ (.bl _)
    | false => rw [if_neg Bool.false_ne_true] at p1 ⊢; exact ⟨w1, S1, Λ, r1, s0.up l1, p1⟩⟩
theorem de_not (ha : DE X W a ma) : DE X W (.UnaryOp .Not a pos) (iNotV ma) :=
  (pe_not ha).imp fun σ H Q ⟨w, S, Λ, r0, s0, p⟩ => ⟨w, S, Λ, r0, s0, p.bind.imp fun w1 H1 S1 ix l1 r1 p1 v1 rv1 => by
    obtain ⟨k, rfl, rfl, p1⟩ := asB_post p1 rv1
    exact ⟨k, rfl, p1.now r1 _ (.bl _)⟩⟩
theorem de_if (hc : DT X W c tc) (ha : DE X W a ma) (hb : DE X W b mb) : DE X W (.IfExp c a b pos) (iIf tc ma mb) :=
  (pe_ifExp hc ha hb).imp fun σ H Q ⟨w, S, Λ, r0, s0, p⟩ => ⟨w, S, Λ, r0, s0, p.bind.imp fun w1 H1 S1 k l1 r1 p1 => by
    cases k with
    | true => rw [if_pos rfl] at p1 ⊢; exact ⟨w1, S1, Λ, r1, s0.up l1, p1⟩
    | false => rw [if_neg Bool.false_ne_true] at p1 ⊢; exact ⟨w1, S1, Λ, r1, s0.up l1, p1⟩⟩
end

/-! ### subscripts, slices -/
theorem atI_rel {K : KX} {w : Wd} {xs : List V} {ivs : List IV} {i : Int} {iv : IV} (r : RelL K w xs ivs) (e : atI ivs i = some iv) : ∃ v, atI xs i = some v ∧ Rel K w v iv := by
  unfold atI at e ⊢
  rw [r.length]
  cases h : ixN ivs.length i with
  | none => rw [h] at e; cases e
  | some j =>
    rw [h] at e
    exact r.get e
def fIx (x y : IV) (S : Sto) : Out IV := asI y fun i => match x with
  | .str z => chk (z.length ≤ sizeLine) (orBad (atI z.cps.toList i) fun c => .ok (.str ⟨#[c]⟩) S)
  | .tup xs => orBad (atI xs i) fun v => .ok v S
  | x => orBad (lstOf S x) fun xs => orBad (atI xs i) fun v => .ok v S
theorem os_ix {K : KX} {W : WX} : OpS K W (rIx K.k) fIx := fun w S H x y ix iy Q r rx ry p => by
  obtain ⟨i, rfl, rfl, p⟩ := asI_post p ry
  split at p
  · cases rx
    obtain ⟨h1, p⟩ := chk_post p
    obtain ⟨c, h2, p⟩ := orBad_post p
    exact .inr (.inr ⟨_, _, _, rfl, rfl, h1, h2, p.now r _ (.str _)⟩)
  · cases rx with
    | tup h1 h2 =>
      obtain ⟨c, h3, p⟩ := orBad_post p
      obtain ⟨v, h4, h5⟩ := atI_rel h2 h3
      exact .inr (.inl ⟨_, _, _, v, rfl, rfl, same_t r.F h1, h4, p.now r _ h5⟩)
  · obtain ⟨ivs, h0, p⟩ := orBad_post p
    obtain ⟨c, h3, p⟩ := orBad_post p
    obtain ⟨a, xs, rfl, h1, h2⟩ := lstOf_sq h0 r rx
    obtain ⟨v, h4, h5⟩ := atI_rel h2 h3
    exact .inl ⟨_, _, _, v, rfl, rfl, h1, h4, p.now r _ h5⟩
abbrev IO := Slots → Sto → Out (Option Int)
def oM (K : KX) (W : WX) (m : IO) : TO := fun σ H Q => ∃ w S Λ, R K w S H ∧ SR K w σ Λ ∧ Post K W w (m Λ S) fun _ H' _ o => Q o H'
def iNoPart : IO := fun _ S => .ok none S
def iPart (m : IE) : IO := fun Λ S => (m Λ S).bind fun x S1 => asI x fun i => .ok (some i) S1
abbrev DO (X : Cx) (W : WZ) (e : Option Expr) (m : IO) : Prop := PO X e (oM (kx X W) W.x m)
theorem _root_.L2.PO.imp {X : Cx} {e : Option Expr} {t t' : TO} (h : PO X e t) (f : ∀ σ H Q, t' σ H Q → t σ H Q) : PO X e t' := ⟨fun pins s σ H Q I q => h.run pins s σ H Q I (f σ H Q q)⟩
def cutI (xs : List IV) (lo hi : Option Int) : List IV := (xs.drop (HT.sIx xs.length 0 lo)).take (HT.sIx xs.length xs.length hi - HT.sIx xs.length 0 lo)
theorem cut_rel {K : KX} {w : Wd} {xs : List V} {ivs : List IV} (r : RelL K w xs ivs) (lo hi : Option Int) : RelL K w (cutV xs lo hi) (cutI ivs lo hi) := by
  unfold cutV cutI
  rw [r.length]
  exact (r.drop _).take _
def fSl (cell : Bool) (x : IV) (lo hi : Option Int) (S : Sto) : Out IV := match x with
  | .str z => chk (z.length ≤ sizeLine) (.ok (.str (cutS z lo hi)) S)
  | x => orBad (lstOf S x) fun xs => mkL cell (cutI xs lo hi) S
def iSl (cell : Bool) (m : IE) (ml mh : IO) : IE := fun Λ S => (m Λ S).bind fun x S1 => (ml Λ S1).bind fun lo S2 => (mh Λ S2).bind fun hi S3 => fSl cell x lo hi S3
section
variable {X : Cx} {W : WZ} {pos p2 : Pos} {a b e : Expr} {ma mb me : IE} {lo hi : Option Expr} {ml mh : IO}
theorem de_ix (ha : DE X W a ma) (hb : DE X W b mb) (hs : PlainIx b := by exact fun _ _ => rfl) : DE X W (.Subscript a b pos) (iBin fIx ma mb) :=
  (pe_ix ix_seq ha hb hs).imp fun _ _ _ h => eM_bin os_ix h
theorem do_none : DO X W none iNoPart := po_none.imp fun σ H Q ⟨w, S, Λ, r0, s0, p⟩ => p.now r0
theorem do_some (h : DE X W e me) : DO X W (some e) (iPart me) := (po_some h).imp fun σ H Q ⟨w, S, Λ, r0, s0, p⟩ => ⟨w, S, Λ, r0, s0, p.bind.imp fun w1 H1 S1 ix l1 r1 p1 v1 rv1 => by
  obtain ⟨i, rfl, rfl, q⟩ := asI_post p1 rv1
  exact ⟨i, rfl, q.now r1⟩⟩
theorem de_slice (cell : Bool) (he : DE X W e me) (hl : DO X W lo ml) (hh : DO X W hi mh) : DE X W (.Subscript e (.Slice lo hi none p2) pos) (iSl cell me ml mh) :=
  (pe_slice (SlR.or sl_str sl_list) he hl hh).imp fun σ H Q ⟨w, S, Λ, r0, s0, p⟩ => ⟨w, S, Λ, r0, s0, p.bind.imp fun w1 H1 S1 ix l1 r1 p1 v1 rv1 =>
    ⟨w1, S1, Λ, r1, s0.up l1, p1.bind.imp fun w2 H2 S2 o1 l2 r2 p2 => ⟨w2, S2, Λ, r2, s0.up (l1.trans l2), p2.bind.imp fun w3 H3 S3 o2 l3 r3 p3 => by
      have rv3 := rv1.up (l2.trans l3)
      unfold fSl at p3
      split at p3
      · cases rv3
        obtain ⟨h1, q⟩ := chk_post p3
        exact .inl ⟨_, rfl, h1, q.now r3 _ (.str _)⟩
      · obtain ⟨ys, h1, q⟩ := orBad_post p3
        obtain ⟨a, xs, rfl, h2, h3⟩ := lstOf_sq h1 r3 rv3
        exact .inr ⟨a, xs, rfl, h2, (mkL_post q r3 (cut_rel h3 _ _)).2⟩⟩⟩⟩
end

/-! ### calls -/
def spM (K : PySem.W.Frag) (np : Nat) (mf : List IV → Sto → Out IV) : Sp := fun vs H Q E => vs.length = np ∧ ∃ w S ivs, R ⟨K, none⟩ w S H ∧ RelL ⟨K, none⟩ w vs ivs ∧ Post ⟨K, none⟩ (fun c d _ H => E c d H) w (mf ivs S) fun w' H' _ iv => ∀ v, Rel ⟨K, none⟩ w' v iv → Q v H'
def mDef (n : Nat) (body : IS) : List IV → Sto → Out IV := fun ivs S => match body (ivs.map some ++ List.replicate (n - ivs.length) none) S with
  | .ok (.rt iv) S' => .ok iv S'
  | .ok (.nx _) S' => .ok .non S'
  | .ok _ _ => .bad
  | .exc C k _ S' => .exc C k [] S'
  | .bad => .bad
def relab (Λ : Slots) : Out IV → Out IV
  | .exc C n _ S => .exc C n Λ S
  | o => o
def iCall (np : Nat) (mf : List IV → Sto → Out IV) (ma : IA) : IE := fun Λ S => (ma Λ S).bind fun xs S1 => chk (xs.length = np) (relab Λ (mf xs S1))
theorem relab_post {K : KX} {W : WX} {w : Wd} {Λ : Slots} {σ : L2.St} {o : Out IV} {P : Wd → Hp → Sto → IV → Prop} (h : Post K W w (relab Λ o) P) (s : SR K w σ Λ) : Post K (fun c d _ H => W c d σ H) w o P := by
  cases o with
  | ok iv S2 => exact h
  | exc C n L S2 => exact fun w2 H2 a σ2 l2 r2 s2 e => h w2 H2 a σ l2 r2 (s.up l2) e
  | bad => exact h
/-- .. that lets no exception out -/
def iCall0 (mf : List IV → Sto → Out IV) : IE := fun _ S => match mf [] S with
  | .ok iv S2 => .ok iv S2
  | _ => .bad
section
variable {X : Cx} {W : WX} {pos p : Pos} {k : Nat} {f : Addr} {fd : FuncData} {ps : List Str} {mf : List IV → Sto → Out IV} {x : Str} {e : Expr} {es : List Expr} {ma : IA} {np : Nat}
theorem sr_nil {K : KX} {w : Wd} : SR K w [] [] := ⟨rfl, fun i iv e => by simp at e⟩
theorem de_call (F : FnOk X.prog X.w X.K X.mg X.base (L2.CX X.prog X.w) k f fd ps (spM X.K np mf)) (tk : Takes X W) (hr : Room k X.A) (hm : X.mg x = some (.ref f)) (hk : PySem.W.keepIn X.K (.ref f) = true) (hb : Binds X.K fd ps [])
    (ha : DA X ⟨W, none⟩ (e :: es) ma) (hg : Gl X x := by rfl) (hdb : (x == ("__debug__" : Str)) = false := by decide) (he : starEach (e :: es) X.env = (false, eval e X.env) :: starEach es X.env := by rfl) (hpl : (backTo pos (starEach es X.env)).any (·.1) = false := by rfl) :
    DE X ⟨W, none⟩ (.Call (.Name x p) (e :: es) [] pos) (iCall np mf ma) :=
  (pe_callS F hr hg hm hk hb (E := WE W) (fun σ => passAt tk σ) ha hdb he hpl).imp fun σ H Q ⟨w, S, Λ, r0, s0, p⟩ => ⟨w, S, Λ, r0, s0, p.bind.imp fun w1 H1 S1 xs l1 r1 p1 vs rv => by
    obtain ⟨h1, q⟩ := chk_post p1
    exact ⟨rv.length.trans h1, w1, S1, xs, r1, rv, relab_post q (s0.up l1)⟩⟩
theorem de_call0 (F : FnOk X.prog X.w X.K X.mg X.base (L2.CX X.prog X.w) k f fd [] (spM X.K 0 mf)) (tk : Takes X W) (hr : Room k X.A) (hm : X.mg x = some (.ref f)) (hk : PySem.W.keepIn X.K (.ref f) = true) (hb : Binds X.K fd [] [])
    (hg : Gl X x := by rfl) (hdb : (x == ("__debug__" : Str)) = false := by decide) :
    DE X ⟨W, none⟩ (.Call (.Name x p) [] [] pos) (iCall0 mf) :=
  (pe_call0 (dvs := []) F hr hg hm hk hb .nil (E := fun _ _ _ => False) (passes_call tk fun _ _ _ _ z => z.elim) hdb).imp fun σ H Q ⟨w, S, Λ, r0, s0, p⟩ => ⟨rfl, w, S, [], r0, .nil, by
    unfold iCall0 at p
    cases hf : mf [] S with
    | ok iv S2 => rw [hf] at p; exact p
    | exc C n L S2 => rw [hf] at p; exact p.elim
    | bad => rw [hf] at p; exact p⟩
end
end Sm

namespace Sm
open PySem PySem.Spec PyProof.Rows L2

theorem Post.up {K : KX} {W : WX} {w w' : Wd} {α : Type} {o : Out α} {P : Wd → Hp → Sto → α → Prop} (h : Post K W w o P) (l : w.le w') : Post K W w' o P := by
  cases o with
  | ok a S' => exact fun w2 H2 l2 r2 => h w2 H2 (l.trans l2) r2
  | exc C n L S' => exact fun w2 H2 a σ l2 r2 s2 e => h w2 H2 a σ (l.trans l2) r2 s2 e
  | bad => exact h

/-! ### statements -/
def iNext : IS := fun Λ S => .ok (.nx Λ) S
def fSeq (b : IS) (fl : Fl) (S : Sto) : Out Fl := match fl with
  | .nx L => b L S
  | o => .ok o S
def iSeq (a b : IS) : IS := fun Λ S => (a Λ S).bind fun fl S1 => fSeq b fl S1
def iDrop (m : IE) : IS := fun Λ S => (m Λ S).bind fun _ S1 => .ok (.nx Λ) S1
def iRet (m : IE) : IS := fun Λ S => (m Λ S).bind fun x S1 => .ok (.rt x) S1
def iRetN : IS := fun _ S => .ok (.rt .non) S
def iBrk : IS := fun Λ S => .ok (.bk Λ) S
def iCnt : IS := fun Λ S => .ok (.ct Λ) S
def iName (i : Nat) : IG := fun x Λ S => .ok (Λ.set i (some x)) S
def iAsg (m : IE) (g : IG) : IS := fun Λ S => (m Λ S).bind fun x S1 => (g x Λ S1).bind fun L S2 => .ok (.nx L) S2
def iSet (i : Nat) (m : IE) : IS := fun Λ S => (m Λ S).bind fun x S1 => .ok (.nx (Λ.set i (some x))) S1
section
variable {X : Cx} {W : WZ} {pos pos' : Pos} {st : Stmt} {rest : List Stmt} {m u : IS} {e : Expr} {me : IE} {g : IG}
theorem dss_nil : DSs X W [] iNext := pss_nil.imp fun D σ H ⟨w, S, Λ, r0, s0, p⟩ => p.now r0 σ s0
theorem dss_cons (h1 : DS X W st m) (h2 : DSs X W rest u) : DSs X W (st :: rest) (iSeq m u) :=
  (pss_cons h1 h2).imp fun D σ H ⟨w, S, Λ, r0, s0, p⟩ => ⟨w, S, Λ, r0, s0, p.bind.imp fun w1 H1 S1 fl l1 r1 p1 => by
    cases fl with
    | nx L => exact fun σ' s' => ⟨w1, S1, L, r1, s', p1⟩
    | rt iv => exact p1.now r1
    | bk L => exact p1.now r1
    | ct L => exact p1.now r1⟩
theorem dss_one (h1 : DS X W st m) : DSs X W [st] m := pss_one h1
theorem ds_pass : DS X W (.Pass pos) iNext := ps_pass.imp fun D σ H ⟨w, S, Λ, r0, s0, p⟩ => p.now r0 σ s0
theorem ds_break : DS X W (.Break pos) iBrk := ps_break.imp fun D σ H ⟨w, S, Λ, r0, s0, p⟩ => p.now r0 σ s0
theorem ds_continue : DS X W (.Continue pos) iCnt := ps_continue.imp fun D σ H ⟨w, S, Λ, r0, s0, p⟩ => p.now r0 σ s0
theorem ds_expr (he : DE X W e me) (hs : swapsWith e none pos.line X.env = pure false := by rfl) : DS X W (.Expr e pos) (iDrop me) :=
  (ps_expr he hs).imp fun D σ H ⟨w, S, Λ, r0, s0, p⟩ => ⟨w, S, Λ, r0, s0, p.bind.imp fun w1 H1 S1 ix l1 r1 p1 v1 rv1 => p1.now r1 σ (s0.up l1)⟩
theorem ds_ret (he : DE X W e me) : DS X W (.Return (some e) pos) (iRet me) :=
  (ps_ret he).imp fun D σ H ⟨w, S, Λ, r0, s0, p⟩ => ⟨w, S, Λ, r0, s0, p.bind.imp fun w1 H1 S1 ix l1 r1 p1 v1 rv1 => p1.now r1 v1 rv1⟩
theorem ds_retN : DS X W (.Return none pos) iRetN := ps_retN.imp fun D σ H ⟨w, S, Λ, r0, s0, p⟩ => p.now r0 _ .non
theorem ds_if {c : Expr} {a b : List Stmt} {tc : IT} (hc : DT X W c tc) (ha : DSs X W a m) (hb : DSs X W b u) : DS X W (.If c a b pos) (iIf tc m u) :=
  (ps_if hc ha hb).imp fun D σ H ⟨w, S, Λ, r0, s0, p⟩ => ⟨w, S, Λ, r0, s0, p.bind.imp fun w1 H1 S1 k l1 r1 p1 => by
    cases k with
    | true => rw [if_pos rfl] at p1 ⊢; exact ⟨w1, S1, Λ, r1, s0.up l1, p1⟩
    | false => rw [if_neg Bool.false_ne_true] at p1 ⊢; exact ⟨w1, S1, Λ, r1, s0.up l1, p1⟩⟩
theorem dg_name (i : Nat) {x : Str} (hN : X.N.Nodup) (hi : X.N[i]? = some x := by rfl) (hx : Loc X.env.scope x := by first | exact Or.inl rfl | exact Or.inr rfl) (hf : X.fn x = true ∨ X.env.scope.names.lookup x = some .local := by first | exact .inl rfl | exact .inr rfl) : DG X W (.Name x pos) (iName i) :=
  (pg_name hN hi hx hf).imp fun v σ H Q ⟨w, S, Λ, iv, r0, s0, rv, p⟩ => p.now r0 _ (s0.set i rv)
theorem ds_set (i : Nat) {x : Str} (hN : X.N.Nodup) (he : DE X W e me) (hi : X.N[i]? = some x := by rfl) (hx : Loc X.env.scope x := by first | exact Or.inl rfl | exact Or.inr rfl) (hs : swapsWith e (some (.Name x pos')) pos.line X.env = pure false := by rfl)
    (hf : X.fn x = true ∨ X.env.scope.names.lookup x = some .local := by first | exact .inl rfl | exact .inr rfl) : DS X W (.Assign [.Name x pos'] e pos) (iSet i me) :=
  (ps_set hN hi hx he hs hf).imp fun D σ H ⟨w, S, Λ, r0, s0, p⟩ => ⟨w, S, Λ, r0, s0, p.bind.imp fun w1 H1 S1 ix l1 r1 p1 v1 rv1 => p1.now r1 _ ((s0.up l1).set i rv1)⟩
theorem ds_asg {tg : Expr} (he : DE X W e me) (hg : DG X W tg g) (hs : swapsWithSole [tg] e pos.line X.env = pure false := by rfl) (hw : swappedStores [tg] e X.env = pure none := by rfl)
    (h1 : (assignEach [tg] X.env).map (·.2) = [assign tg X.env] := by rfl) : DS X W (.Assign [tg] e pos) (iAsg me g) :=
  (ps_asg he hg hs hw h1).imp fun D σ H ⟨w, S, Λ, r0, s0, p⟩ => ⟨w, S, Λ, r0, s0, p.bind.imp fun w1 H1 S1 ix l1 r1 p1 v1 rv1 => ⟨w1, S1, Λ, ix, r1, s0.up l1, rv1, p1.bind.imp fun w2 H2 S2 L l2 r2 p2 => p2.now r2⟩⟩
/-- a op= e -/
def iAug (i : Nat) (f : IV → IV → Sto → Out IV) (m : IE) : IS := fun Λ S => (iVar i Λ S).bind fun x S0 => (m Λ S0).bind fun y S1 => (f x y S1).bind fun z S2 => .ok (.nx (Λ.set i (some z))) S2
theorem ds_aug (i : Nat) {x : Str} {op : Operator} {r : R2} {f : IV → IV → Sto → Out IV} (hN : X.N.Nodup) (ho : OpR X (inplaceOp op) r) (hs : OpS (kx X W) W.x r f) (he : DE X W e me) (hi : X.N[i]? = some x := by rfl) (hx : Loc X.env.scope x := by first | exact Or.inl rfl | exact Or.inr rfl)
    (hf : X.fn x = true ∨ X.env.scope.names.lookup x = some .local := by first | exact .inl rfl | exact .inr rfl) : DS X W (.AugAssign (.Name x pos') op e pos) (iAug i f me) :=
  (ps_aug hN hi hx he (ti := r) ho hf).imp fun D σ H ⟨w, S, Λ, r0, s0, p⟩ => by
    unfold iAug iVar at p
    split at p
    · rename_i iv el
      obtain ⟨v, h1, h2⟩ := s0.get i iv el
      have p : Post (kx X W) W.x w ((me Λ S).bind fun y S1 => (f iv y S1).bind fun z S2 => Out.ok (Fl.nx (Λ.set i (some z))) S2) (fun w' H' _ fl => FlP (kx X W) w' D H' fl) := p
      exact ⟨v, h1, w, S, Λ, r0, s0, p.bind.imp fun w1 H1 S1 iy l1 r1 p1 v1 rv1 => hs w1 S1 H1 _ _ _ _ _ r1 (h2.up l1) rv1 (p1.bind.imp fun w2 H2 S2 iz l2 r2 p2 v2 rv2 => p2.now r2 _ ((s0.up (l1.trans l2)).set i rv2))⟩
    · exact p.elim
/-- targets in a row; a tuple's -/
abbrev IGs := List IV → Slots → Sto → Out Slots
def iGNil : IGs := fun xs Λ S => match xs with
  | [] => .ok Λ S
  | _ => .bad
def iGCons (g : IG) (r : IGs) : IGs := fun xs Λ S => match xs with
  | x :: xs => (g x Λ S).bind fun L S1 => r xs L S1
  | [] => .bad
def gsM (K : KX) (W : WX) (m : IGs) : TGs := fun vs σ H Q => ∃ w S Λ ivs, R K w S H ∧ SR K w σ Λ ∧ RelL K w vs ivs ∧ Post K W w (m ivs Λ S) fun w' H' _ L => ∀ σ', SR K w' σ' L → Q σ' H'
theorem _root_.L2.PGs.imp {X : Cx} {e : List Expr} {t t' : TGs} (h : PGs X e t) (f : ∀ v σ H Q, t' v σ H Q → t v σ H Q) : PGs X e t' := ⟨fun pins s σ H v u Q I r q => h.run pins s σ H v u Q I r (f v σ H Q q)⟩
abbrev DGs (X : Cx) (W : WZ) (e : List Expr) (m : IGs) : Prop := PGs X e (gsM (kx X W) W.x m)
theorem dgs_nil : DGs X W [] iGNil := pgs_nil.imp fun v σ H Q ⟨w, S, Λ, ivs, r0, s0, rv, p⟩ => by
  cases rv with
  | nil => exact ⟨rfl, Post.now (show Post (kx X W) W.x w (Out.ok Λ S) _ from p) r0 σ s0⟩
  | cons a b => exact p.elim
theorem dgs_cons {es : List Expr} {r : IGs} (h1 : DG X W e g) (h2 : DGs X W es r) (hs : (assignEach (e :: es) X.env).map (·.2) = assign e X.env :: (assignEach es X.env).map (·.2) := by rfl) : DGs X W (e :: es) (iGCons g r) :=
  (pgs_cons h1 h2 hs).imp fun v σ H Q ⟨w, S, Λ, ivs, r0, s0, rv, p⟩ => by
    cases rv with
    | nil => exact p.elim
    | cons a b =>
      have p : Post (kx X W) W.x w ((g _ Λ S).bind fun L S1 => r _ L S1) (fun w' H' _ L => ∀ σ', SR (kx X W) w' σ' L → Q σ' H') := p
      exact ⟨_, _, rfl, w, S, Λ, _, r0, s0, a, p.bind.imp fun w1 H1 S1 L l1 r1 p1 σ' s' => ⟨w1, S1, L, _, r1, s', b.up l1, p1⟩⟩
def iGTup (n : Nat) (gs : IGs) : IG := fun x Λ S => orBad (tupOf x) fun xs => chk (xs.length = n) (gs xs Λ S)
theorem dg_tup {es : List Expr} {k n : Nat} {gs : IGs} (hc : X.calm = true) (h : DGs X W es gs) (hn : (assignEach es X.env).length = n := by rfl) (hst : (assignEach es X.env).findIdx? (·.1) = none := by rfl) : DG X W (.Tuple es k pos) (iGTup n gs) :=
  (pg_tup hc h hn hst).imp fun v σ H Q ⟨w, S, Λ, iv, r0, s0, rv, p⟩ => by
    obtain ⟨ivs, h1, p⟩ := orBad_post p
    obtain ⟨h2, p⟩ := chk_post p
    obtain ⟨a, xs, e1, e2, e3⟩ := tupOf_sq h1 r0 rv
    exact ⟨a, xs, e1, e2, e3.length.trans h2, w, S, Λ, ivs, r0, s0, e3, p⟩
/-- xs[i] = e -/
def iGSub (mo mi : IE) : IG := fun x Λ S => (mo Λ S).bind fun o S1 => (mi Λ S1).bind fun i S2 => asI i fun k => match o with
  | .adr n => (match S2[n]? with
    | some (.lst xs) => orBad (ixN xs.length k) fun j => .ok Λ (S2.set n (.lst (xs.set j x)))
    | _ => .bad)
  | _ => .bad
theorem dg_sub {o i : Expr} {mo mi : IE} (ho : DE X W o mo) (hi : DE X W i mi)
    (ha : ∀ v, assign (.Subscript o i pos) X.env v = (do
      let ov ← holding [v] (eval o X.env)
      let iv ← holding [v, ov] (eval i X.env)
      standAt pos
      holding [v, ov, iv] (setItem ov iv v)
      release [v, ov, iv] []) := by intro _; rfl) : DG X W (.Subscript o i pos) (iGSub mo mi) :=
  (pg_sub ho hi set_list ha).imp fun v σ H Q ⟨w, S, Λ, iv, r0, s0, rv, p⟩ => ⟨w, S, Λ, r0, s0, p.bind.imp fun w1 H1 S1 o1 l1 r1 p1 v1 rv1 => ⟨w1, S1, Λ, r1, s0.up l1, p1.bind.imp fun w2 H2 S2 i2 l2 r2 p2 v2 rv2 => by
    obtain ⟨k, rfl, rfl, q⟩ := asI_post p2 rv2
    have rv1 := rv1.up l2
    cases rv1 with
    | adr hrho =>
      rename_i n a
      cases hq : S2[n]? with
      | none => simp only [hq] at q; exact q.elim
      | some c =>
        simp only [hq] at q
        cases c with
        | lst xs =>
          obtain ⟨j, hj, q⟩ := orBad_post q
          obtain ⟨vs, h1, h2⟩ := r2.cell n _ a hq hrho
          have rw' : R (kx X W) w2 (S2.set n (.lst (xs.set j iv))) (upd H2 a (.lst (vs.set j v))) := r2.write hrho ⟨_, upd_same, h2.set (rv.up (l1.trans l2)) j⟩
          exact ⟨a, vs, k, j, rfl, rfl, h1, by rw [h2.length]; exact hj, q.now rw' σ (s0.up (l1.trans l2))⟩
        | _ => exact q.elim
    | _ => exact q.elim⟩⟩
end

/-! ### what is walked -/
structure Src where
  items : List IV
  keep : Option Nat
def Src.stay (s : Src) (S : Sto) : Prop := match s.keep with
  | none => True
  | some n => S[n]? = some (.lst s.items)
open Classical in
noncomputable def chkP {α : Type} (p : Prop) (o : Out α) : Out α := if p then o else .bad
theorem chkP_pos {α : Type} {p : Prop} {o : Out α} (h : p) : chkP p o = o := if_pos h
theorem chkP_neg {α : Type} {p : Prop} {o : Out α} (h : ¬ p) : chkP p o = .bad := if_neg h
theorem chkP_post {α : Type} {K : KX} {W : WX} {w : Wd} {p : Prop} {o : Out α} {P : Wd → Hp → Sto → α → Prop} (h : Post K W w (chkP p o) P) : p ∧ Post K W w o P := by
  by_cases hp : p
  · rw [chkP_pos hp] at h; exact ⟨hp, h⟩
  · rw [chkP_neg hp] at h; exact h.elim
structure ItR (K : KX) (w0 : Wd) (J : It) (s : Src) : Prop where
  go : ∀ (w : Wd) (S : Sto) (H : Hp) (i : Nat), w0.lr w → R K w S H → s.stay S → i < s.items.length → J.go i H
  stop : ∀ (w : Wd) (S : Sto) (H : Hp) (i : Nat), w0.lr w → R K w S H → s.stay S → s.items.length ≤ i → J.stop i H
  yld : ∀ (w : Wd) (S : Sto) (H : Hp) (i : Nat) (iv : IV) (x : V) (H' : Hp), w0.lr w → R K w S H → s.stay S → s.items[i]? = some iv → J.yld i H x H' → ∃ w', w.le w' ∧ R K w' S H' ∧ Rel K w' x iv
abbrev IW := Slots → Sto → Out Src
def wM (K : KX) (W : WX) (m : IW) : TI := fun σ H Rr => ∃ w S Λ, R K w S H ∧ SR K w σ Λ ∧ Post K W w (m Λ S) fun w' H' S' s => ∀ J, ItR K w' J s → Rr J H'
abbrev DI (X : Cx) (W : WZ) (tg e : Expr) (m : IW) : Prop := PI X tg e (wM (kx X W) W.x m)
theorem _root_.L2.PI.imp {X : Cx} {tg e : Expr} {t t' : TI} (h : PI X tg e t) (f : ∀ σ H Q, t' σ H Q → t σ H Q) : PI X tg e t' := ⟨fun pins s σ H Q I q => h.run pins s σ H Q I (f σ H Q q)⟩
def fSrcL (x : IV) (S : Sto) : Out Src := match x with
  | .adr n => (match S[n]? with
    | some (.lst xs) => .ok ⟨xs, some n⟩ S
    | _ => .bad)
  | x => orBad (lstOf S x) fun xs => .ok ⟨xs, none⟩ S
def iSrcL (m : IE) : IW := fun Λ S => (m Λ S).bind fun x S1 => fSrcL x S1
theorem fSrcL_cases {K : KX} {W : WX} {w : Wd} {S : Sto} {H : Hp} {x : V} {ix : IV} {P : Wd → Hp → Sto → Src → Prop} (h : Post K W w (fSrcL ix S) P) (r : R K w S H) (rx : Rel K w x ix) :
    ∃ a s, x = .ref a ∧ (∃ xs, SqL K.k H a xs) ∧ Post K W w (.ok s S) P ∧ ItR K w (Itl K.k a) s := by
  have mk : ∀ {a : Addr} {s : Src}, (∀ w' S' H', w.lr w' → R K w' S' H' → s.stay S' → ∃ xs, SqL K.k H' a xs ∧ RelL K w' xs s.items) → ItR K w (Itl K.k a) s := fun {a s} f => by
    refine ⟨fun w' S' H' i l r' st hi => ?_, fun w' S' H' i l r' st hi => ?_, fun w' S' H' i iv x H2 l r' st hi hy => ?_⟩
    · obtain ⟨xs, h1, h2⟩ := f w' S' H' l r' st
      obtain ⟨v, h3, _⟩ := h2.get (List.getElem?_eq_getElem hi)
      exact ⟨xs, v, h1, h3⟩
    · obtain ⟨xs, h1, h2⟩ := f w' S' H' l r' st
      exact ⟨xs, h1, by rw [h2.length]; exact hi⟩
    · obtain ⟨xs, h1, h2⟩ := f w' S' H' l r' st
      obtain ⟨e1, e2⟩ := hy
      subst e1
      obtain ⟨v, h3, h4⟩ := h2.get hi
      have := (e2 xs h1).symm.trans h3
      cases this
      exact ⟨w', Wd.le.refl _, r', h4⟩
  unfold fSrcL at h
  split at h
  · cases rx with
    | adr hrho =>
      split at h
      · rename_i n xs hq
        rename_i a _ _
        obtain ⟨vs, h1, h2⟩ := r.cell _ _ _ hq hrho
        refine ⟨_, _, rfl, ⟨vs, .of h1⟩, h, mk fun w' S' H' l r' st => ?_⟩
        obtain ⟨us, h3, h4⟩ := r'.cell _ _ _ (show S'[_]? = some (.lst xs) from st) (l.get hrho)
        exact ⟨us, .of h3, h4⟩
      · exact h.elim
  · rename_i hn
    obtain ⟨xs, e, h⟩ := orBad_post h
    cases ix with
    | lst ys =>
      cases e
      cases rx with
      | lst h1 h2 => exact ⟨_, _, rfl, ⟨_, .of (r.F _ _ h1)⟩, h, mk fun w' S' H' l r' st => ⟨_, .of (r'.F _ _ (l.F _ _ h1)), RelL.mono l _ _ h2⟩⟩
    | wls ys =>
      cases e
      cases rx with
      | wls h1 h2 => exact ⟨_, _, rfl, ⟨_, r.F.seq h1⟩, h, mk fun w' S' H' l r' st => ⟨_, r'.F.seq (l.F.seq h1), RelL.mono l _ _ h2⟩⟩
    | adr n => exact absurd rfl (hn n)
    | _ => cases e
def rangeI (lo : Int) (n : Nat) : List IV := (List.range n).map fun (i : Nat) => .int (lo + i)
theorem itR_range {K : KX} {w : Wd} {lo : Int} {n : Nat} : ItR K w (Itr lo n) ⟨rangeI lo n, none⟩ := by
  refine ⟨fun w' S' H' i l r' st hi => ?_, fun w' S' H' i l r' st hi => ?_, fun w' S' H' i iv x H2 l r' st hi hy => ?_⟩
  · show i < n
    simpa [rangeI] using hi
  · show n ≤ i
    simpa [rangeI] using hi
  · obtain ⟨e1, e2⟩ := hy
    subst e1 e2
    refine ⟨w', Wd.le.refl _, r', ?_⟩
    have hi : (rangeI lo n)[i]? = some iv := hi
    unfold rangeI at hi
    rw [List.getElem?_map] at hi
    obtain ⟨j, h1, h2⟩ := Option.map_eq_some_iff.mp hi
    obtain ⟨hj, h3⟩ := List.getElem?_eq_some_iff.mp h1
    rw [List.getElem_range] at h3
    subst h3 h2
    exact .int _
instance (j : Int) : Decidable (-(2 ^ 62) ≤ j ∧ j < 2 ^ 62) := by infer_instance
def iSrcR1 (m : IE) : IW := fun Λ S => (m Λ S).bind fun x S1 => asI x fun j => chk (-(2 ^ 62) ≤ j ∧ j < 2 ^ 62) (.ok ⟨rangeI 0 j.toNat, none⟩ S1)
def iSrcR2 (m m' : IE) : IW := fun Λ S => (m Λ S).bind fun x S1 => (m' Λ S1).bind fun y S2 => asI x fun i => asI y fun j => chk (-(2 ^ 62) ≤ i ∧ i < 2 ^ 62 ∧ -(2 ^ 62) ≤ j ∧ j < 2 ^ 62) (.ok ⟨rangeI i (j - i).toNat, none⟩ S2)
/-- a text, sign by sign -/
def iSrcS (m : IE) : IW := fun Λ S => (m Λ S).bind fun x S1 => asS x fun z => .ok ⟨z.cps.toList.map fun c => .str ⟨#[c]⟩, none⟩ S1
def iSrcT (m : IE) : IW := fun Λ S => (m Λ S).bind fun x S1 => orBad (tupOf x) fun xs => .ok ⟨xs, none⟩ S1
section
variable {X : Cx} {W : WZ} {tg e e' : Expr} {m m' : IE} {p pos : Pos}
theorem di_list (h : DE X W e m) : DI X W tg e (iSrcL m) := (pi_list h).imp fun σ H Q ⟨w, S, Λ, r0, s0, p⟩ => ⟨w, S, Λ, r0, s0, p.bind.imp fun w1 H1 S1 ix l1 r1 p1 v1 rv1 => by
  obtain ⟨a, s, h1, h2, h3, h4⟩ := fSrcL_cases p1 r1 rv1
  exact ⟨a, h1, h2, h3.now r1 _ h4⟩⟩
theorem di_tup (h : DE X W e m) : DI X W tg e (iSrcT m) := (pi_tup h).imp fun σ H Q ⟨w, S, Λ, r0, s0, p⟩ => ⟨w, S, Λ, r0, s0, p.bind.imp fun w1 H1 S1 ix l1 r1 p1 v1 rv1 => by
  obtain ⟨ivs, h1, q⟩ := orBad_post p1
  obtain ⟨a, xs, e1, e2, e3⟩ := tupOf_sq h1 r1 rv1
  have hF : SqT X.K w1.F a xs ∨ True := .inr trivial
  cases ix with
  | tup ys =>
    cases h1
    cases rv1 with
    | tup k1 k2 =>
      cases e1
      refine ⟨_, rfl, ⟨_, e2⟩, q.now r1 _ ⟨fun w' S' H' i l r' st hi => ?_, fun w' S' H' i l r' st hi => ?_, fun w' S' H' i iv x H2 l r' st hi hy => ?_⟩⟩
      · obtain ⟨v, h3, _⟩ := k2.get (List.getElem?_eq_getElem hi)
        exact ⟨_, v, same_t r'.F (same_t l.F k1), h3⟩
      · exact ⟨_, same_t r'.F (same_t l.F k1), by rw [k2.length]; exact hi⟩
      · obtain ⟨f1, f2⟩ := hy
        subst f1
        obtain ⟨v, h3, h4⟩ := k2.get hi
        have := (f2 _ (same_t r'.F (same_t l.F k1))).symm.trans h3
        cases this
        exact ⟨w', Wd.le.refl _, r', Rel.mono l _ _ h4⟩
  | _ => cases h1⟩
theorem di_range1 (hm : X.mg "range" = none) (ha : DA X W [e] (iCons m iNil)) (hg : Gl X "range" := by rfl) (hs : starEach [e] X.env = [(false, eval e X.env)] := by rfl) : DI X W tg (.Call (.Name "range" p) [e] [] pos) (iSrcR1 m) :=
  (pi_range1 hg hm ha hs).imp fun σ H Q ⟨w, S, Λ, r0, s0, p⟩ => ⟨w, S, Λ, r0, s0, by
    unfold iCons iNil
    cases h : m Λ S with
    | ok x S1 =>
      unfold iSrcR1 at p
      rw [h] at p
      intro w1 H1 l1 r1 vs rv
      cases rv with
      | cons a b =>
        cases b
        obtain ⟨j, rfl, rfl, q⟩ := asI_post (p.up l1) a
        obtain ⟨hj, q⟩ := chk_post q
        exact ⟨j, rfl, hj.1, hj.2, q.now r1 _ itR_range⟩
    | exc C n L S1 => unfold iSrcR1 at p; rw [h] at p; exact p
    | bad => unfold iSrcR1 at p; rw [h] at p; exact p⟩
theorem di_range2 (hm : X.mg "range" = none) (ha : DA X W [e, e'] (iCons m (iCons m' iNil))) (hg : Gl X "range" := by rfl) (hs : starEach [e, e'] X.env = [(false, eval e X.env), (false, eval e' X.env)] := by rfl) (hs2 : starEach [e'] X.env = [(false, eval e' X.env)] := by rfl) : DI X W tg (.Call (.Name "range" p) [e, e'] [] pos) (iSrcR2 m m') :=
  (pi_range2 hg hm ha hs hs2).imp fun σ H Q ⟨w, S, Λ, r0, s0, p⟩ => ⟨w, S, Λ, r0, s0, by
    unfold iCons iNil
    unfold iSrcR2 at p
    cases h : m Λ S with
    | ok x S1 =>
      rw [h] at p
      have p : Post (kx X W) W.x w ((m' Λ S1).bind fun y S2 => asI x fun i => asI y fun j => chk (-(2 ^ 62) ≤ i ∧ i < 2 ^ 62 ∧ -(2 ^ 62) ≤ j ∧ j < 2 ^ 62) (Out.ok (Src.mk (rangeI i (j - i).toNat) none) S2)) (fun w' H' S' s => ∀ J, ItR (kx X W) w' J s → Q J H') := p
      simp only [Out.bind_ok]
      cases h' : m' Λ S1 with
      | ok y S2 =>
        rw [h'] at p
        intro w1 H1 l1 r1 vs rv
        cases rv with
        | cons a b =>
          cases b with
          | cons b c =>
            cases c
            obtain ⟨i, rfl, rfl, q⟩ := asI_post (p.up l1) a
            obtain ⟨j, rfl, rfl, q⟩ := asI_post q b
            obtain ⟨hj, q⟩ := chk_post q
            exact ⟨i, j, rfl, hj, q.now r1 _ itR_range⟩
      | exc C n L S2 => rw [h'] at p; exact p
      | bad => rw [h'] at p; exact p
    | exc C n L S1 => rw [h] at p; exact p
    | bad => rw [h] at p; exact p⟩
end
end Sm

namespace Sm
open PySem PySem.Spec PyProof.Rows L2

/-! ### for -/
noncomputable def iIter (s : Src) (g : IG) (b : IS) : List IV → Slots → Sto → Out Fl
  | [], Λ, S => chkP (s.stay S) (.ok (.nx Λ) S)
  | x :: xs, Λ, S => chkP (s.stay S) ((g x Λ S).bind fun Λ1 S1 => (b Λ1 S1).bind fun fl S2 => match fl with
    | .nx L => iIter s g b xs L S2
    | .ct L => iIter s g b xs L S2
    | .bk L => .ok (.nx L) S2
    | .rt v => .ok (.rt v) S2)
noncomputable def iFor (ms : IW) (g : IG) (b : IS) : IS := fun Λ S => (ms Λ S).bind fun s S1 => iIter s g b s.items Λ S1
theorem for_M {K : KX} {W : WX} {ms : IW} {g : IG} {b : IS} {D : Ends} {σ : L2.St} {H : Hp} (h : sM K W (iFor ms g b) D σ H) : tFor (wM K W ms) (gM K W g) (sM K W b) D σ H := by
  obtain ⟨w, S, Λ, r0, s0, p⟩ := h
  refine ⟨w, S, Λ, r0, s0, p.bind.imp fun w1 H1 S1 s l1 r1 p1 J hJ => ?_⟩
  refine ⟨fun i m σ H => m = s.items.length - i ∧ i ≤ s.items.length ∧ ∃ w2 S2 L, w1.le w2 ∧ R K w2 S2 H ∧ SR K w2 σ L ∧ Post K W w2 (iIter s g b (s.items.drop i) L S2) fun w' H' _ fl => FlP K w' D H' fl,
    ⟨s.items.length, by simp, Nat.zero_le _, w1, S1, Λ, Wd.le.refl _, r1, s0.up l1, by rw [List.drop_zero]; exact p1⟩, ?_⟩
  rintro i m σ2 H2 ⟨rfl, hi, w2, S2, L, l2, r2, s2, p2⟩
  by_cases hlt : i < s.items.length
  · rw [List.drop_eq_getElem_cons hlt] at p2
    obtain ⟨st, p2⟩ := chkP_post (show Post K W w2 (chkP (s.stay S2) _) _ from p2)
    refine .inr ⟨hJ.go w2 S2 H2 i l2.1 r2 st hlt, fun σ' H' => i + 1 ≤ s.items.length ∧ ∃ w3 S3 L3, w1.le w3 ∧ R K w3 S3 H' ∧ SR K w3 σ' L3 ∧ Post K W w3 (iIter s g b (s.items.drop (i + 1)) L3 S3) fun w' H' _ fl => FlP K w' D H' fl,
      fun σ' H' h' => ⟨s.items.length - (i + 1), by omega, rfl, h'.1, h'.2⟩, fun x H' y => ?_⟩
    obtain ⟨w3, l3, r3, rv⟩ := hJ.yld w2 S2 H2 i _ x H' l2.1 r2 st (List.getElem?_eq_getElem hlt) y
    refine ⟨w3, S2, L, _, r3, s2.up l3, rv, (p2.up l3).bind.imp fun w4 H4 S4 L4 l4 r4 p4 σ4 s4 => ⟨w4, S4, L4, r4, s4, p4.bind.imp fun w5 H5 S5 fl l5 r5 p5 => ?_⟩⟩
    have lA := l2.trans (l3.trans (l4.trans l5))
    cases fl with
    | nx L5 => exact fun σ5 s5 => ⟨hlt, w5, S5, L5, lA, r5, s5, p5⟩
    | ct L5 => exact fun σ5 s5 => ⟨hlt, w5, S5, L5, lA, r5, s5, p5⟩
    | bk L5 => exact Post.now (show Post K W w5 (Out.ok (Fl.nx L5) S5) (fun w' H' _ fl => FlP K w' D H' fl) from p5) r5
    | rt v => exact Post.now (show Post K W w5 (Out.ok (Fl.rt v) S5) (fun w' H' _ fl => FlP K w' D H' fl) from p5) r5
  · have e : i = s.items.length := by omega
    subst e
    rw [List.drop_length] at p2
    obtain ⟨st, p2⟩ := chkP_post (show Post K W w2 (chkP (s.stay S2) _) _ from p2)
    exact .inl ⟨hJ.stop w2 S2 H2 _ l2.1 r2 st (Nat.le_refl _), p2.now r2 σ2 s2⟩
section
variable {X : Cx} {W : WZ} {pos : Pos} {tg iter : Expr} {body : List Stmt} {ms : IW} {g : IG} {b : IS}
theorem ds_for (hp : PassesOwn (model X.prog X.w) X.A X.env X.xe) (hc : X.calm = true) (hi : DI X W tg iter ms) (hg : DG X W tg g) (hb : DSs X W body b) (hs : ∀ x, foldedSetIterable iter X.env x = pure x := by intro _; rfl) : DS X W (.For tg iter body [] pos) (iFor ms g b) :=
  (ps_for hp hc hi hg hb hs).imp fun D σ H h => for_M h
end

/-! ### while -/
def iWh (c : IT) (b : IS) : Nat → Slots → Sto → Out Fl
  | 0, _, _ => .bad
  | n + 1, Λ, S => (c Λ S).bind fun k S1 => if k = true then (b Λ S1).bind fun fl S2 => match fl with
      | .nx L => iWh c b n L S2
      | .ct L => iWh c b n L S2
      | .bk L => .ok (.nx L) S2
      | .rt v => .ok (.rt v) S2
    else .ok (.nx Λ) S1
open Classical in
noncomputable def iWhile (c : IT) (b : IS) : IS := fun Λ S => if h : ∃ n, iWh c b n Λ S ≠ .bad then iWh c b h.choose Λ S else .bad
theorem iWh_mono {c : IT} {b : IS} : ∀ (n m : Nat) (Λ : Slots) (S : Sto), iWh c b n Λ S ≠ .bad → n ≤ m → iWh c b m Λ S = iWh c b n Λ S
  | 0, _, _, _, h, _ => absurd rfl h
  | n + 1, 0, _, _, _, l => by omega
  | n + 1, m + 1, Λ, S, h, l => by
    unfold iWh at h ⊢
    cases hc : c Λ S with
    | ok k S1 =>
      rw [hc] at h
      simp only [Out.bind_ok] at h ⊢
      cases k with
      | true =>
        rw [if_pos rfl] at h ⊢
        cases hb : b Λ S1 with
        | ok fl S2 =>
          rw [hb] at h
          simp only [Out.bind_ok] at h ⊢
          cases fl with
          | nx L => exact iWh_mono n m L S2 h (by omega)
          | ct L => exact iWh_mono n m L S2 h (by omega)
          | bk L => rfl
          | rt v => rfl
        | exc C k L S2 => rfl
        | bad => rfl
      | false => rfl
    | exc C k L S1 => rfl
    | bad => rfl
theorem iWhile_of {c : IT} {b : IS} {n : Nat} {Λ : Slots} {S : Sto} {o : Out Fl} (h : iWh c b n Λ S = o) (hb : o ≠ .bad) : iWhile c b Λ S = o := by
  have hx : ∃ n, iWh c b n Λ S ≠ .bad := ⟨n, by rw [h]; exact hb⟩
  unfold iWhile
  rw [dif_pos hx]
  have h1 := hx.choose_spec
  rcases Nat.le_total n hx.choose with l | l
  · rw [iWh_mono n _ Λ S (by rw [h]; exact hb) l, h]
  · rw [← iWh_mono _ n Λ S h1 l, h]
theorem while_M {K : KX} {W : WX} {c : IT} {b : IS} {D : Ends} {σ : L2.St} {H : Hp} (h : sM K W (iWhile c b) D σ H) : tWhile (tM K W c) (sM K W b) D σ H := by
  obtain ⟨w, S, Λ, r0, s0, p⟩ := h
  unfold iWhile at p
  split at p
  · rename_i hx
    generalize hx.choose = n at p
    refine ⟨fun m σ H => ∃ w2 S2 L, R K w2 S2 H ∧ SR K w2 σ L ∧ Post K W w2 (iWh c b m L S2) fun w' H' _ fl => FlP K w' D H' fl, ⟨n, w, S, Λ, r0, s0, p⟩, ?_⟩
    rintro m σ2 H2 ⟨w2, S2, L, r2, s2, p2⟩
    cases m with
    | zero => exact p2.elim
    | succ m =>
      unfold iWh at p2
      refine ⟨w2, S2, L, r2, s2, p2.bind.imp fun w3 H3 S3 k l3 r3 p3 => ?_⟩
      cases k with
      | true =>
        rw [if_pos rfl] at p3 ⊢
        refine ⟨fun σ' H' => ∃ w4 S4 L4, R K w4 S4 H' ∧ SR K w4 σ' L4 ∧ Post K W w4 (iWh c b m L4 S4) fun w' H' _ fl => FlP K w' D H' fl, fun σ' H' h' => ⟨m, Nat.lt_succ_self m, h'⟩,
          w3, S3, L, r3, s2.up l3, p3.bind.imp fun w5 H5 S5 fl l5 r5 p5 => ?_⟩
        cases fl with
        | nx L5 => exact fun σ5 s5 => ⟨w5, S5, L5, r5, s5, p5⟩
        | ct L5 => exact fun σ5 s5 => ⟨w5, S5, L5, r5, s5, p5⟩
        | bk L5 => exact Post.now (show Post K W w5 (Out.ok (Fl.nx L5) S5) (fun w' H' _ fl => FlP K w' D H' fl) from p5) r5
        | rt v => exact Post.now (show Post K W w5 (Out.ok (Fl.rt v) S5) (fun w' H' _ fl => FlP K w' D H' fl) from p5) r5
      | false =>
        rw [if_neg Bool.false_ne_true] at p3 ⊢
        exact p3.now r3 σ2 (s2.up l3)
  · exact p.elim
section
variable {X : Cx} {W : WZ} {pos : Pos} {c : Expr} {body : List Stmt} {tc : IT} {b : IS}
theorem ds_while (hp : PassesOwn (model X.prog X.w) X.A X.env X.xe) (hc : DT X W c tc) (hb : DSs X W body b) : DS X W (.While c body [] pos) (iWhile tc b) :=
  (ps_while hp hc hb).imp fun D σ H h => while_M h
end

/-! ### list comprehensions -/
def W0 : WX := fun _ _ _ _ => False
def noX {α : Type} : Out α → Out α
  | .exc _ _ _ _ => .bad
  | o => o
@[simp] theorem noX_ok {α : Type} (a : α) (S : Sto) : noX (.ok a S) = .ok a S := rfl
@[simp] theorem noX_bad {α : Type} : noX (.bad : Out α) = .bad := rfl
def wipeI (Λ : Slots) : List Nat → Slots
  | [] => Λ
  | v :: vs => (wipeI Λ vs).set v none
theorem sr_wipe {K : KX} {w : Wd} {σ : L2.St} {Λ : Slots} (s : SR K w σ Λ) : ∀ vs : List Nat, SR K w (wipe σ vs) (wipeI Λ vs)
  | [] => s
  | v :: vs => (sr_wipe s vs).setN v none
theorem wipe_get {σ : L2.St} {j : Nat} : ∀ {vs : List Nat}, (wipe σ vs)[j]? = if j ∈ vs then σ[j]?.map (fun _ => none) else σ[j]?
  | [] => by simp [wipe]
  | v :: vs => by
    unfold wipe
    by_cases h : v = j
    · subst h
      rw [if_pos List.mem_cons_self]
      by_cases hl : v < (wipe σ vs).length
      · rw [List.getElem?_set_self hl]
        rw [wipe_length] at hl
        rw [List.getElem?_eq_getElem hl]
        rfl
      · have hl' := hl
        rw [wipe_length] at hl'
        rw [List.getElem?_eq_none (by rw [List.length_set]; omega), List.getElem?_eq_none (by omega)]
        rfl
    · rw [List.getElem?_set_ne h, wipe_get (vs := vs)]
      have : (j ∈ v :: vs) ↔ j ∈ vs := by
        rw [List.mem_cons]
        exact ⟨fun z => z.elim (fun e => absurd e.symm h) id, .inr⟩
      by_cases hj : j ∈ vs
      · rw [if_pos hj, if_pos (this.mpr hj)]
      · rw [if_neg hj, if_neg fun z => hj (this.mp z)]
theorem wipe_set {σ : L2.St} {i : Nat} {u : Option V} {vs : List Nat} (h : i ∈ vs) : wipe (σ.set i u) vs = wipe σ vs := by
  refine List.ext_getElem? fun j => ?_
  rw [wipe_get, wipe_get]
  by_cases hj : j ∈ vs
  · rw [if_pos hj, if_pos hj]
    by_cases e : i = j
    · subst e
      by_cases hl : i < σ.length
      · rw [List.getElem?_set_self hl, List.getElem?_eq_getElem hl]; rfl
      · rw [List.getElem?_eq_none (by rw [List.length_set]; omega), List.getElem?_eq_none (by omega)]
    · rw [List.getElem?_set_ne e]
  · rw [if_neg hj, if_neg hj]
    have e : i ≠ j := fun e => hj (e ▸ h)
    rw [List.getElem?_set_ne e]
theorem wipe_wipe {σ : L2.St} : ∀ {vs ws : List Nat}, (∀ v ∈ ws, v ∈ vs) → wipe (wipe σ ws) vs = wipe σ vs
  | vs, [], _ => rfl
  | vs, w :: ws, h => by
    show wipe ((wipe σ ws).set w none) vs = wipe σ vs
    rw [wipe_set (h w List.mem_cons_self), wipe_wipe fun v hv => h v (List.mem_cons_of_mem _ hv)]
/-- a block's target -/
structure GC (K : KX) (vs : List Nat) (g : TG) (gi : IV → Slots → Option Slots) : Prop where
  run : ∀ (w : Wd) (S : Sto) (H : Hp) (σ : L2.St) (Λ : Slots) (x : V) (ix : IV) (L : Slots) (Q : L2.St → Hp → Prop), R K w S H → SR K w σ Λ → Rel K w x ix → gi ix Λ = some L → (∀ σ', SR K w σ' L → wipe σ' vs = wipe σ vs → Q σ' H) → g x σ H Q
def giN (j : Nat) (x : IV) (Λ : Slots) : Option Slots := some (Λ.set j (some x))
theorem gc_name {K : KX} {vs : List Nat} {j : Nat} (h : j ∈ vs) : GC K vs (gName j) (giN j) :=
  ⟨fun w S H σ Λ x ix L Q r s rx e k => by
    cases e
    exact k _ (s.set j rx) (wipe_set h)⟩
def giT2 (i j : Nat) (x : IV) (Λ : Slots) : Option Slots := match x with
  | .tup [a, b] => some ((Λ.set i (some a)).set j (some b))
  | _ => none
theorem gc_tup2 {K : KX} {vs : List Nat} {i j : Nat} (hi : i ∈ vs) (hj : j ∈ vs) : GC K vs (gTup K.k 2 (gCons (gName i) (gCons (gName j) gNil))) (giT2 i j) :=
  ⟨fun w S H σ Λ x ix L Q r s rx e k => by
    unfold giT2 at e
    split at e
    · cases e
      cases rx with
      | tup h1 h2 =>
        cases h2 with
        | cons a b =>
          cases b with
          | cons b c =>
            cases c
            exact ⟨_, _, rfl, same_t r.F h1, rfl, _, _, rfl, _, _, rfl, rfl, k _ ((s.set i a).set j b) (by rw [wipe_set hj, wipe_set hi])⟩
    · cases e⟩
noncomputable def iLcGo (s : Src) (gi : IV → Slots → Option Slots) (tt : IT) (te : IE) : List IV → Slots → Sto → List IV → Out (List IV)
  | [], _, S, acc => chkP (s.stay S) (.ok acc S)
  | x :: xs, Λ, S, acc => chkP (s.stay S) (orBad (gi x Λ) fun L => (noX (tt L S)).bind fun b S1 => if b = true then (noX (te L S1)).bind fun y S2 => chk (acc.length < sizeLine) (iLcGo s gi tt te xs Λ S2 (acc ++ [y])) else iLcGo s gi tt te xs Λ S1 acc)
noncomputable def iLc (cell : Bool) (ms : IW) (gi : IV → Slots → Option Slots) (tt : IT) (te : IE) (vs : List Nat) : IE := fun Λ S => (ms Λ S).bind fun s S1 => (iLcGo s gi tt te s.items (wipeI Λ vs) S1 []).bind fun acc S2 => mkL cell acc S2
def iYes : IT := fun _ S => .ok true S
abbrev DTs (X : Cx) (W : WZ) (e : List Expr) (m : IT) : Prop := PTs X e (tM (kx X W) W.x m)
theorem noX_post {α : Type} {K : KX} {w w' : Wd} {o : Out α} {P : Wd → Hp → Sto → α → Prop} (h : ∀ a S, noX o = .ok a S → ∀ w2 H2, w.le w2 → R K w2 S H2 → P w2 H2 S a) (hb : noX o ≠ .bad) : Post K W0 w o P := by
  cases o with
  | ok a S => exact h a S rfl
  | exc C n L S => exact absurd rfl hb
  | bad => exact absurd rfl hb
theorem lc_M {K : KX} {W : WX} {cell : Bool} {ms : IW} {g : TG} {gi : IV → Slots → Option Slots} {tt : IT} {te : IE} {vs : List Nat} {σ : L2.St} {H : Hp} {Q : VK} (hg : GC K vs g gi) (h : eM K W (iLc cell ms gi tt te vs) σ H Q) :
    tLc (wM K W ms) g (tM K W0 tt) (eM K W0 te) vs σ H Q := by
  obtain ⟨w, S, Λ, r0, s0, p⟩ := h
  refine ⟨w, S, Λ, r0, s0, p.bind.imp fun w1 H1 S1 s l1 r1 p1 J hJ => ?_⟩
  intro D hD
  have hG : w1.G D = none := by
    cases q : w1.G D with
    | none => rfl
    | some u => rw [r1.G _ _ q] at hD; cases hD
  have s1 := sr_wipe (s0.up l1) vs
  -- the word at turn i: the new list at D is a ghost
  let Z : Nat → Hp → Prop := fun i H => i ≤ s.items.length ∧ ∃ (rho : List Addr) (F : Hp) (S2 : Sto) (xs : List V) (acc : List IV), w1.le ⟨rho, F, w1.G⟩ ∧ R K ⟨rho, F, upd w1.G D (.lst xs)⟩ S2 H ∧ RelL K ⟨rho, F, w1.G⟩ xs acc ∧
    Post K W ⟨rho, F, w1.G⟩ ((iLcGo s gi tt te (s.items.drop i) (wipeI Λ vs) S2 acc).bind fun acc S2 => mkL cell acc S2) fun w' H' _ iv => ∀ v, Rel K w' v iv → Q v H'
  refine ⟨fun i m H => m = s.items.length - i ∧ Z i H, ⟨s.items.length, by simp, Nat.zero_le _, w1.rho, w1.F, S1, [], [], Wd.le.refl w1, r1.ghost hD, .nil, by rw [List.drop_zero]; exact p1⟩, ?_⟩
  rintro i m H2 ⟨rfl, hi, rho, F, S2, xs, acc, l2, r2, rl, p2⟩
  have l2' : w1.lr ⟨rho, F, upd w1.G D (.lst xs)⟩ := ⟨l2.rho, l2.F⟩
  by_cases hlt : i < s.items.length
  · rw [List.drop_eq_getElem_cons hlt] at p2
    have st : s.stay S2 := by
      by_cases hs : s.stay S2
      · exact hs
      · exact (show Post K W ⟨rho, F, w1.G⟩ ((chkP (s.stay S2) _).bind _) _ from p2) |> fun z => by rw [chkP_neg hs] at z; exact z.elim
    have p2 : Post K W ⟨rho, F, w1.G⟩ ((orBad (gi s.items[i] (wipeI Λ vs)) fun L => (noX (tt L S2)).bind fun b S1 => if b = true then (noX (te L S1)).bind fun y S2 => chk (acc.length < sizeLine) (iLcGo s gi tt te (s.items.drop (i + 1)) (wipeI Λ vs) S2 (acc ++ [y])) else iLcGo s gi tt te (s.items.drop (i + 1)) (wipeI Λ vs) S1 acc).bind fun acc S2 => mkL cell acc S2) (fun w' H' _ iv => ∀ v, Rel K w' v iv → Q v H') := by
      have z := (show Post K W ⟨rho, F, w1.G⟩ ((chkP (s.stay S2) _).bind _) _ from p2)
      rw [chkP_pos st] at z
      exact z
    refine .inr ⟨hJ.go _ S2 H2 i l2' r2 st hlt, Z (i + 1), fun H' z => ⟨s.items.length - (i + 1), by omega, rfl, z⟩, fun x H' y => ?_⟩
    obtain ⟨⟨rho3, F3, G3⟩, l3, r3, rv⟩ := hJ.yld _ S2 H2 i _ x H' l2' r2 st (List.getElem?_eq_getElem hlt) y
    have hG3 : G3 = upd w1.G D (.lst xs) := l3.G
    subst hG3
    have l23 : w1.le ⟨rho3, F3, w1.G⟩ := ⟨⟨(l2'.trans l3.1).rho, (l2'.trans l3.1).F⟩, rfl⟩
    have lp3 : Wd.le ⟨rho, F, w1.G⟩ ⟨rho3, F3, w1.G⟩ := ⟨⟨l3.rho, l3.F⟩, rfl⟩
    cases hgi : gi s.items[i] (wipeI Λ vs) with
    | none => rw [hgi] at p2; exact p2.elim
    | some L =>
      rw [hgi, orBad_some] at p2
      have sw : SR K ⟨rho3, F3, upd w1.G D (.lst xs)⟩ (wipe σ vs) (wipeI Λ vs) := s1.mono (l2'.trans l3.1)
      refine hg.run _ S2 H' _ _ x _ L _ r3 sw rv hgi fun σ' s' hw => ⟨by rw [hw, wipe_wipe fun _ hv => hv], ?_⟩
      refine ⟨_, S2, L, r3, s', noX_post (w' := ⟨rho, F, w1.G⟩) (fun b S3 e3 w4 H4 l4 r4 => ?_) fun hb => ?_⟩
      · rw [e3, Out.bind_ok] at p2
        obtain ⟨rho4, F4, G4⟩ := w4
        have hG4 : G4 = upd w1.G D (.lst xs) := l4.G
        subst hG4
        have lp4 : Wd.le ⟨rho, F, w1.G⟩ ⟨rho4, F4, w1.G⟩ := lp3.trans ⟨⟨l4.rho, l4.F⟩, rfl⟩
        cases b with
        | true =>
          rw [if_pos rfl] at p2 ⊢
          refine ⟨_, S3, L, r4, s'.up l4, noX_post (w' := ⟨rho, F, w1.G⟩) (fun y S5 e5 w5 H5 l5 r5 v5 rv5 => ?_) fun hb => ?_⟩
          · rw [e5, Out.bind_ok] at p2
            obtain ⟨rho5, F5, G5⟩ := w5
            have hG5 : G5 = upd w1.G D (.lst xs) := l5.G
            subst hG5
            have lp5 : Wd.le ⟨rho, F, w1.G⟩ ⟨rho5, F5, w1.G⟩ := lp4.trans ⟨⟨l5.rho, l5.F⟩, rfl⟩
            have hz : acc.length < sizeLine := by
              by_cases hz : acc.length < sizeLine
              · exact hz
              · rw [chk_neg hz] at p2; exact p2.elim
            rw [chk_pos hz] at p2
            refine ⟨xs, r5.G D _ upd_same, by rw [rl.length]; exact hz, hlt, rho5, F5, S5, xs ++ [v5], acc ++ [y], l2.trans lp5, r5.ghostW, (rl.up lp5).append (.one (Rel.mono (w := ⟨rho5, F5, upd w1.G D (.lst xs)⟩) (w' := ⟨rho5, F5, w1.G⟩) ⟨⟨[], by simp⟩, Same.refl _⟩ _ _ rv5)), p2.up lp5⟩
          · rw [hb] at p2; exact p2.elim
        | false =>
          rw [if_neg Bool.false_ne_true] at p2 ⊢
          exact ⟨hlt, rho4, F4, S3, xs, acc, l2.trans lp4, r4, rl.up lp4, p2.up lp4⟩
      · rw [hb] at p2; exact p2.elim
  · have e : i = s.items.length := by omega
    subst e
    rw [List.drop_length] at p2
    have st : s.stay S2 := by
      by_cases hs : s.stay S2
      · exact hs
      · exact (show Post K W ⟨rho, F, w1.G⟩ ((chkP (s.stay S2) _).bind _) _ from p2) |> fun z => by rw [chkP_neg hs] at z; exact z.elim
    have p2 : Post K W ⟨rho, F, w1.G⟩ (mkL cell acc S2) (fun w' H' _ iv => ∀ v, Rel K w' v iv → Q v H') := by
      have z := (show Post K W ⟨rho, F, w1.G⟩ ((chkP (s.stay S2) _).bind _) _ from p2)
      rw [chkP_pos st] at z
      exact z
    refine .inl ⟨hJ.stop _ S2 H2 _ l2' r2 st (Nat.le_refl _), ?_⟩
    have hF : F D = none := r2.dis D _ upd_same
    cases cell with
    | true =>
      obtain ⟨h1, q⟩ := chk_post (show Post K W ⟨rho, F, w1.G⟩ (mkC acc S2) _ from p2)
      have r5 := r2.ghostC (c := .lst acc) hG fun w' l' => ⟨xs, r2.G D _ upd_same, RelL.mono (w := ⟨rho, F, w1.G⟩) ⟨l'.rho, l'.F⟩ _ _ rl⟩
      refine q ⟨rho ++ [D], F, w1.G⟩ H2 ⟨⟨⟨[D], rfl⟩, Same.refl _⟩, rfl⟩ r5 _ (.adr ?_)
      show (rho ++ [D])[S2.length]? = some D
      have hlen : rho.length = S2.length := r2.len
      rw [← hlen, List.getElem?_append_right (Nat.le_refl _), Nat.sub_self]
      rfl
    | false =>
      obtain ⟨h1, q⟩ := chk_post (show Post K W ⟨rho, F, w1.G⟩ (mkF acc S2) _ from p2)
      have lf : Wd.le ⟨rho, F, w1.G⟩ ⟨rho, upd F D (.lst xs), w1.G⟩ := ⟨⟨⟨[], by simp⟩, fun b u e => by
        show upd F D (.lst xs) b = some u
        rw [upd_ne (ne_of_none e hF)]; exact e⟩, rfl⟩
      exact q ⟨rho, upd F D (.lst xs), w1.G⟩ H2 lf (r2.ghostF hG) _ (.lst upd_same (rl.up lf))
section
variable {X : Cx} {W : WZ} {pos spos : Pos} {elt tg iter : Expr} {ifs : List Expr} {scope : Scope} {own : List (Str × Nat)} {ms : IW} {g : TG} {gi : IV → Slots → Option Slots} {tt : IT} {te : IE}
theorem dts_nil : DTs X W [] iYes := pts_nil.imp fun σ H Q ⟨w, S, Λ, r0, s0, p⟩ => p.now r0
theorem dts_one {c : Expr} {t : IT} (h : DT X W c t) : DTs X W [c] t := pts_one h
theorem de_lc (cell : Bool) (hc : X.calm = true) (hN : X.N.Nodup) (hi : DI X W tg iter ms) (ok : BlkOk X.N X.env.scope scope own)
    (hg : ∀ (s : Shared) (H : Hp) (C : Addr) (cl : List (Str × Addr)) (fp : List Addr), PG (X.blk s H scope (compEnvC scope cl C X.env) fp) tg g) (hgc : GC (kx X W) (own.map (·.2)) g gi) (ht : ∀ (s : Shared) (H : Hp) (C : Addr) (cl : List (Str × Addr)) (fp : List Addr), DTs (X.blk s H scope (compEnvC scope cl C X.env) fp) ⟨W0, W.ex⟩ ifs tt)
    (he : ∀ (s : Shared) (H : Hp) (C : Addr) (cl : List (Str × Addr)) (fp : List Addr), DE (X.blk s H scope (compEnvC scope cl C X.env) fp) ⟨W0, W.ex⟩ elt te) (hs : ∀ x, foldedSetIterable iter X.env x = pure x := by intro _; rfl) :
    DE X W (.ListComp elt [⟨tg, iter, ifs, 0⟩] scope pos) (iLc cell ms gi tt te (own.map (·.2))) :=
  (pe_lc hc hN hi ok hg ht he hs).imp fun σ H Q h => lc_M hgc h
theorem ds_setLc (cell : Bool) (i : Nat) {y : Str} {py : Pos} (hc : X.calm = true) (hN : X.N.Nodup) (hi : DI X W tg iter ms) (ok : BlkOk X.N X.env.scope scope own)
    (hg : ∀ (s : Shared) (H : Hp) (C : Addr) (cl : List (Str × Addr)) (fp : List Addr), PG (X.blk s H scope (compEnvC scope cl C X.env) fp) tg g) (hgc : GC (kx X W) (own.map (·.2)) g gi) (ht : ∀ (s : Shared) (H : Hp) (C : Addr) (cl : List (Str × Addr)) (fp : List Addr), DTs (X.blk s H scope (compEnvC scope cl C X.env) fp) ⟨W0, W.ex⟩ ifs tt)
    (he : ∀ (s : Shared) (H : Hp) (C : Addr) (cl : List (Str × Addr)) (fp : List Addr), DE (X.blk s H scope (compEnvC scope cl C X.env) fp) ⟨W0, W.ex⟩ elt te)
    (hy : X.N[i]? = some y := by rfl) (hyl : X.env.scope.names.lookup y = some .local := by rfl)
    (hsw : swapsWith (.ListComp elt [⟨tg, iter, ifs, 0⟩] scope pos) (some (.Name y py)) spos.line X.env = pure true := by exact sw_true rfl rfl rfl (by decide +kernel)) (hs : ∀ x, foldedSetIterable iter X.env x = pure x := by intro _; rfl) :
    DS X W (.Assign [.Name y py] (.ListComp elt [⟨tg, iter, ifs, 0⟩] scope pos) spos) (iSet i (iLc cell ms gi tt te (own.map (·.2)))) :=
  (ps_setLc hc hN hy hyl hsw hi ok hg ht he hs).imp fun D σ H ⟨w, S, Λ, r0, s0, p⟩ => lc_M (cell := cell) hgc ⟨w, S, Λ, r0, s0, p.bind.imp fun w1 H1 S1 ix l1 r1 p1 v1 rv1 => p1.now r1 _ ((s0.up l1).set i rv1)⟩
end

/-! ### a def -/
section
variable {P : Program} {w : World} {K : PySem.W.Frag} {mg : Str → Option Value} {base : Heap}
/-- what a def's body is shown in -/
abbrev DX (P : Program) (w : World) (K : PySem.W.Frag) (mg : Str → Option Value) (base : Heap) (N : List Str) (qual : Str) (sc : Scope) (f : Addr) (cdv : Value) (A : Around) (outer : List Env) (s : Shared) (H : Hp) (E : XK) : Cx :=
  cxOf (L2.CX P w) P w K mg base N qual sc f cdv A outer s H E
abbrev WEx (E : XK) : WX := fun c d _ H => E c d H
theorem start_sr {K : KX} {w : Wd} {N : List Str} {vs : List V} {ivs : List IV} (r : RelL K w vs ivs) : SR K w (L2.start N vs) (ivs.map some ++ List.replicate (N.length - ivs.length) none) := by
  unfold L2.start
  rw [r.length]
  refine ⟨by simp [r.length], fun i iv e => ?_⟩
  by_cases hi : i < ivs.length
  · rw [List.getElem?_append_left (by simpa using hi), List.getElem?_map] at e
    obtain ⟨jv, e1, e2⟩ := Option.map_eq_some_iff.mp e
    cases e2
    obtain ⟨v, h1, h2⟩ := r.get e1
    exact ⟨v, by rw [List.getElem?_append_left (by rw [List.length_map, r.length]; exact hi), List.getElem?_map, h1]; rfl, h2⟩
  · rw [List.getElem?_append_right (by simpa using Nat.le_of_not_lt hi)] at e
    obtain ⟨h1, h2⟩ := List.getElem?_eq_some_iff.mp e
    rw [List.getElem_replicate] at h2
    cases h2
theorem ok_def {x qual : Str} {st : Stmt} {f : Addr} {fd : FuncData} {N ps : List Str} {k : Nat} {body : IS} (F : Fun K x qual st f fd) (Sc : FnScope N ps (defScope st))
    (hb : ∀ (cdv : Value) (A : Around) (outer : List Env) (s : Shared) (H : Hp) (E : XK), Room k (A.deeper (envOfC qual (defScope st) s.heap.objs.size f cdv)) →
      Takes (DX P w K mg base N qual (defScope st) f cdv A outer s H E) (WEx E) → PassesOwn (model P w) (DX P w K mg base N qual (defScope st) f cdv A outer s H E).A (DX P w K mg base N qual (defScope st) f cdv A outer s H E).env (DX P w K mg base N qual (defScope st) f cdv A outer s H E).xe →
      DSs (DX P w K mg base N qual (defScope st) f cdv A outer s H E) ⟨WEx E, none⟩ (defBody st) body) : FnOk P w K mg base (L2.CX P w) (k + 1) f fd ps (spM K ps.length (mDef N.length body)) := by
  refine F.okX Sc (fun vs H Q E h => h.1) fun cdv A outer s H vs Q E hr h => ?_
  obtain ⟨hl, w0, S, ivs, r0, rl, p⟩ := h
  refine ⟨_, hb cdv A outer s H E hr (takes_of rfl rfl rfl rfl) (passes_of rfl), w0, S, _, r0, start_sr rl, ?_⟩
  unfold mDef at p
  cases e : body (ivs.map some ++ List.replicate (N.length - ivs.length) none) S with
  | ok fl S' =>
    simp only [e] at p
    intro w' H' l r
    cases fl with
    | nx L => exact fun σ' s' => p w' H' l r _ .non
    | rt iv => exact p w' H' l r
    | bk L => exact p.elim
    | ct L => exact p.elim
  | exc C n L S' =>
    simp only [e] at p
    exact fun w' H' a σ' l r s' ea => p w' H' a [] l r sr_nil ea
  | bad =>
    simp only [e] at p
    exact p
/-- the same result told otherwise -/
theorem ok_eq {f : Addr} {fd : FuncData} {ps : List Str} {k np : Nat} {m m' : List IV → Sto → Out IV} (F : FnOk P w K mg base (L2.CX P w) k f fd ps (spM K np m)) (h : ∀ xs S, xs.length = np → m' xs S ≠ .bad → m xs S = m' xs S) : FnOk P w K mg base (L2.CX P w) k f fd ps (spM K np m') :=
  F.imp fun vs H Q E ⟨h1, w0, S, ivs, r0, rl, p⟩ => ⟨h1, w0, S, ivs, r0, rl, by
    rw [h ivs S (rl.length.symm.trans h1) fun z => by rw [z] at p; exact p.elim]
    exact p⟩
end
end Sm

namespace Sm
open PySem PySem.Spec PyProof.Rows L2

section
variable {X : Cx} {W : WZ} {p pos : Pos} {e : Expr} {es : List Expr} {ma : IA} {x : Str} {id T : String} {r : List V → Hp → VK → Prop} {f : List IV → Sto → Out IV}
theorem de_cb (hc : CallR X (.builtin id) r) (hs : CaS (kx X W) W.x r f) (hm : X.mg x = none) (hv : bootBuiltins x = some (.builtin id)) (ha : DA X W (e :: es) ma) (hg : Gl X x := by rfl) (hn : x ≠ "__name__" := by decide) (hdb : (x == ("__debug__" : Str)) = false := by decide)
    (he : starEach (e :: es) X.env = (false, eval e X.env) :: starEach es X.env := by rfl) (hpl : (backTo pos (starEach es X.env)).any (·.1) = false := by rfl) : DE X W (.Call (.Name x p) (e :: es) [] pos) (iCa f ma) :=
  (pe_callB hc hg hm hv ha hn hdb he hpl).imp fun σ H Q h => eM_ca hs h
theorem de_ct (hc : CallR X (.type T) r) (hs : CaS (kx X W) W.x r f) (hm : X.mg x = none) (hv : bootBuiltins x = some (.type T)) (ha : DA X W (e :: es) ma) (hg : Gl X x := by rfl) (hn : x ≠ "__name__" := by decide) (hdb : (x == ("__debug__" : Str)) = false := by decide)
    (he : starEach (e :: es) X.env = (false, eval e X.env) :: starEach es X.env := by rfl) (hpl : (backTo pos (starEach es X.env)).any (·.1) = false := by rfl) : DE X W (.Call (.Name x p) (e :: es) [] pos) (iCa f ma) :=
  (pe_callTy hc hg hm hv ha hn hdb he hpl).imp fun σ H Q h => eM_ca hs h
end

section
variable {K : KX} {W : WX} {w : Wd} {α : Type} {P : Wd → Hp → Sto → α → Prop}
/-- one argument, two arguments -/
def a1 {α : Type} (xs : List IV) (k : IV → Out α) : Out α := match xs with
  | [x] => k x
  | _ => .bad
def a2 {α : Type} (xs : List IV) (k : IV → IV → Out α) : Out α := match xs with
  | [x, y] => k x y
  | _ => .bad
theorem a1_post {xs : List IV} {vs : List V} {k : IV → Out α} (h : Post K W w (a1 xs k) P) (r : RelL K w vs xs) : ∃ v x, vs = [v] ∧ xs = [x] ∧ Rel K w v x ∧ Post K W w (k x) P := by
  unfold a1 at h
  split at h
  · cases r with
    | cons a b => cases b; exact ⟨_, _, rfl, rfl, a, h⟩
  · exact h.elim
theorem a2_post {xs : List IV} {vs : List V} {k : IV → IV → Out α} (h : Post K W w (a2 xs k) P) (r : RelL K w vs xs) : ∃ v x u y, vs = [v, u] ∧ xs = [x, y] ∧ Rel K w v x ∧ Rel K w u y ∧ Post K W w (k x y) P := by
  unfold a2 at h
  split at h
  · cases r with
    | cons a b =>
      cases b with
      | cons b c => cases c; exact ⟨_, _, _, _, rfl, rfl, a, b, h⟩
  · exact h.elim
end

/-! ### len, abs, int, max, min, list -/
def lenN (S : Sto) (x : IV) : Option Nat := match x with
  | .str s => if s.length ≤ sizeLine then some s.length else none
  | x => (seqOf S x).map List.length
theorem lenN_rel {K : KX} {w : Wd} {S : Sto} {H : Hp} {v : V} {x : IV} {n : Nat} (r : R K w S H) (rx : Rel K w v x) (e : lenN S x = some n) : LenV K.k v H n := by
  unfold lenN at e
  split at e
  · cases rx
    split at e
    · cases e; exact ⟨by assumption, rfl⟩
    · cases e
  · obtain ⟨ys, h1, h2⟩ := Option.map_eq_some_iff.mp e
    obtain ⟨a, xs, rfl, h3, h4⟩ := seqOf_sq h1 r rx
    rcases h3 with h3 | h3
    · exact .inl ⟨xs, h3, by rw [h4.length, h2]⟩
    · exact .inr ⟨xs, h3, by rw [h4.length, h2]⟩
def fLen (xs : List IV) (S : Sto) : Out IV := a1 xs fun x => orBad (lenN S x) fun n => .ok (.int n) S
theorem cs_len {K : KX} {W : WX} : CaS K W (fun xs H Q => ∃ x n, xs = [x] ∧ LenV K.k x H n ∧ Q (.int n) H) fLen := fun w S H xs ix Q r rx p => by
  obtain ⟨v, x, rfl, rfl, rv, p⟩ := a1_post p rx
  obtain ⟨n, e, p⟩ := orBad_post p
  exact ⟨v, n, rfl, lenN_rel r rv e, p.now r _ (.int _)⟩
def fAbs (xs : List IV) (S : Sto) : Out IV := a1 xs fun x => asI x fun i => .ok (.int (if i < 0 then -i else i)) S
theorem cs_abs {K : KX} {W : WX} : CaS K W (fun xs H Q => ∃ i, xs = [.int i] ∧ Q (.int (if i < 0 then -i else i)) H) fAbs := fun w S H xs ix Q r rx p => by
  obtain ⟨v, x, rfl, rfl, rv, p⟩ := a1_post p rx
  obtain ⟨i, rfl, rfl, p⟩ := asI_post p rv
  exact ⟨i, rfl, p.now r _ (.int _)⟩
def fInt (xs : List IV) (S : Sto) : Out IV := a1 xs fun x => match x with
  | .int i => .ok (.int i) S
  | .bl k => .ok (.int (if k then 1 else 0)) S
  | _ => .bad
theorem cs_int {K : KX} {W : WX} : CaS K W (fun xs H Q => (∃ i, xs = [.int i] ∧ Q (.int i) H) ∨ ∃ k, xs = [.bl k] ∧ Q (.int (if k then 1 else 0)) H) fInt := fun w S H xs ix Q r rx p => by
  obtain ⟨v, x, rfl, rfl, rv, p⟩ := a1_post p rx
  cases rv with
  | int i => exact .inl ⟨i, rfl, (show Post K W w (Out.ok (IV.int i) S) _ from p).now r _ (Rel.int _)⟩
  | bl k => exact .inr ⟨k, rfl, (show Post K W w (Out.ok (IV.int (if k then 1 else 0)) S) _ from p).now r _ (Rel.int _)⟩
  | _ => exact p.elim
def fMax2 (xs : List IV) (S : Sto) : Out IV := a2 xs fun x y => asI x fun i => asI y fun j => .ok (.int (if j > i then j else i)) S
def fMin2 (xs : List IV) (S : Sto) : Out IV := a2 xs fun x y => asI x fun i => asI y fun j => .ok (.int (if j < i then j else i)) S
theorem cs_max2 {K : KX} {W : WX} : CaS K W (fun xs H Q => ∃ i j, xs = [.int i, .int j] ∧ Q (.int (if j > i then j else i)) H) fMax2 := fun w S H xs ix Q r rx p => by
  obtain ⟨v, x, u, y, rfl, rfl, rv, ru, p⟩ := a2_post p rx
  obtain ⟨i, rfl, rfl, p⟩ := asI_post p rv
  obtain ⟨j, rfl, rfl, p⟩ := asI_post p ru
  exact ⟨i, j, rfl, p.now r _ (.int _)⟩
theorem cs_min2 {K : KX} {W : WX} : CaS K W (fun xs H Q => ∃ i j, xs = [.int i, .int j] ∧ Q (.int (if j < i then j else i)) H) fMin2 := fun w S H xs ix Q r rx p => by
  obtain ⟨v, x, u, y, rfl, rfl, rv, ru, p⟩ := a2_post p rx
  obtain ⟨i, rfl, rfl, p⟩ := asI_post p rv
  obtain ⟨j, rfl, rfl, p⟩ := asI_post p ru
  exact ⟨i, j, rfl, p.now r _ (.int _)⟩
def fList (cell : Bool) (xs : List IV) (S : Sto) : Out IV := a1 xs fun x => orBad (seqOf S x) fun ys => mkL cell ys S
theorem cs_list {K : KX} {W : WX} (cell : Bool) : CaS K W (fun xs H Q => ∃ p ys, xs = [.ref p] ∧ (SqL K.k H p ys ∨ SqT K.k H p ys) ∧ ∀ l, H l = none → Q (.ref l) (upd H l (.lst ys))) (fList cell) := fun w S H xs ix Q r rx p => by
  obtain ⟨v, x, rfl, rfl, rv, p⟩ := a1_post p rx
  obtain ⟨ys, e, p⟩ := orBad_post p
  obtain ⟨a, vs, rfl, h1, h2⟩ := seqOf_sq e r rv
  exact ⟨a, vs, rfl, h1, (mkL_post p r h2).2⟩

/-! ### isinstance of built-in classes -/
def tyN (S : Sto) (x : IV) : Option String := match x with
  | .non => some "NoneType"
  | .bl _ => some "bool"
  | .int _ => some "int"
  | .str _ => some "str"
  | .lst _ => some "list"
  | .tup _ => some "tuple"
  | .adr n => match S[n]? with
    | some (.lst _) => some "list"
    | some (.dic _) => some "dict"
    | _ => none
  | _ => none
theorem tyN_rel {K : KX} {w : Wd} {S : Sto} {H : Hp} {v : V} {x : IV} {t : String} (r : R K w S H) (rx : Rel K w v x) (e : tyN S x = some t) : TyX K.k H v (.type t) := by
  cases x with
  | non => cases rx; cases e; exact .base .non
  | bl b => cases rx; cases e; exact .base (.bl _)
  | int b => cases rx; cases e; exact .base (.int _)
  | str b => cases rx; cases e; exact .base (.str _)
  | lst ys =>
    cases e
    cases rx with
    | lst h1 h2 => exact .base (.lst (r.F _ _ h1))
  | tup ys =>
    cases e
    cases rx with
    | tup h1 h2 =>
      rcases same_t r.F h1 with (h | ⟨o, h⟩) | ⟨o, its, n, h, hc, _⟩
      · exact .base (.tup h)
      · exact .fTuple h
      · exact .kTuple h hc
  | adr n =>
    cases rx with
    | adr hrho =>
      unfold tyN at e
      cases q : S[n]? with
      | none => simp only [q] at e; cases e
      | some c =>
        simp only [q] at e
        cases c with
        | lst ys =>
          cases e
          obtain ⟨xs, h2, h3⟩ := r.cell n _ _ q hrho
          exact .base (.lst h2)
        | dic ys =>
          cases e
          obtain ⟨xs, h2, h3⟩ := r.cell n _ _ q hrho
          exact .base (.dK h2)
        | _ => cases e
  | _ => cases e
/-- the types that come up here -/
def kitN (t n : String) : Option Bool := kitB t n
def fIsi (xs : List IV) (S : Sto) : Out IV := a2 xs fun x c => match c with
  | .ty n => orBad (tyN S x) fun t => orBad (kitN t n) fun b => .ok (.bl b) S
  | _ => .bad
theorem cs_isi {K : KX} {W : WX} : CaS K W (rIsi K.k) fIsi := fun w S H xs ix Q r rx p => by
  obtain ⟨v, x, u, y, rfl, rfl, rv, ru, p⟩ := a2_post p rx
  cases ru with
  | ty n =>
    obtain ⟨t, e1, p⟩ := orBad_post p
    obtain ⟨b, e2, p⟩ := orBad_post p
    exact ⟨v, _, _, _, b, rfl, .ty n, tyN_rel r rv e1, kit_ty e2, p.now r _ (.bl _)⟩
  | _ => exact p.elim
theorem de_ty {X : Cx} {W : WZ} {x : Str} {pos : Pos} {T : String} (hm : X.mg x = none) (hv : bootBuiltins x = some (.type T)) (hg : Gl X x := by rfl) (hn : x ≠ "__name__" := by decide) (hd : (x == ("__debug__" : Str)) = false := by decide) : DE X W (.Name x pos) (iC (.ty T)) :=
  de_c (pe_bltn hg hm hv (v := .ty T) rfl hn hd) fun _ => .ty T
/-- a module's text -/
theorem de_gstr {X : Cx} {W : WZ} {x z : Str} {pos : Pos} {t : Tok} (hm : X.mg x = some (.str z t)) (hg : Gl X x := by rfl) (hd : (x == ("__debug__" : Str)) = false := by decide) : DE X W (.Name x pos) (iC (.str z)) :=
  de_c (pe_glob hg hm (v := .str z) ⟨t, rfl⟩ hd) fun _ => .str z
/-- a module's tuple of texts -/
theorem de_gtup {X : Cx} {W : WZ} {x : Str} {pos : Pos} {a : Addr} {o : Obj} {its : Array Value} {n : Nat} {zs : List Str} (hm : X.mg x = some (.ref a)) (hk : X.K.lookup a = some o) (hc : o.cls = .type "tuple") (hd' : o.data = .seq its n) (hz : its.size ≤ sizeLine) (hv : Vals (zs.map V.str) its.toList) (hg : Gl X x := by rfl) (hd : (x == ("__debug__" : Str)) = false := by decide) :
    DE X W (.Name x pos) (iC (.tup (zs.map IV.str))) :=
  de_c (pe_glob hg hm (v := .ref a) rfl hd) fun w => .tup (.inr ⟨o, its, n, hk, hc, hd', hz, hv⟩) (by
    clear hv
    induction zs with
    | nil => exact .nil
    | cons z zs ih => exact .cons (.str z) ih)

/-! ### methods of built-in types -/
def hasTy (T : String) (S : Sto) (x : IV) : Bool := match x with
  | .str _ => T == "str"
  | x => T == "list" && (lstOf S x).isSome
theorem hasTy_rel {K : KX} {w : Wd} {S : Sto} {H : Hp} {v : V} {x : IV} {T : String} (r : R K w S H) (rx : Rel K w v x) (e : hasTy T S x = true) : tyV K.k T v H := by
  unfold hasTy at e
  split at e
  · cases rx
    exact beq_iff_eq.mp e
  · obtain ⟨e1, e2⟩ := Bool.and_eq_true_iff.mp e
    obtain ⟨ys, h⟩ := Option.isSome_iff_exists.mp e2
    obtain ⟨a, xs, rfl, h3, h4⟩ := lstOf_sq h r rx
    exact .inl ⟨beq_iff_eq.mp e1, xs, h3⟩
def iBM (T : String) (f : IV → List IV → Sto → Out IV) (mo : IE) (ma : IA) : IE := fun Λ S => (mo Λ S).bind fun o S1 => chk (hasTy T S1 o = true) ((ma Λ S1).bind fun xs S2 => f o xs S2)
section
variable {X : Cx} {W : WZ} {pos apos : Pos} {o e : Expr} {es : List Expr} {mo : IE} {ma : IA} {T id : String} {name : Str} {r : V → List V → Hp → VK → Prop} {f : IV → List IV → Sto → Out IV}
theorem de_bm (pa : PlainAttrs T) (slot : Slot T name id) (hty : typeOf (.builtin id) = pure (.type "method_descriptor")) (hm : MtR X id r) (hs : MtS (kx X W) W.x r f) (ho : DE X W o mo) (ha : DA X W (e :: es) ma)
    (hbase : attributeBase o name X.env (eval o X.env) = eval o X.env := by rfl)
    (hfew : ((backTo pos (starEach (e :: es) X.env)).all (fun x => !x.1) && (backToKw pos (keywordEach [] X.env)).all (fun x => x.1.isSome)
      && decide ((e :: es).length + ([] : List Keyword).length + (if ([] : List Keyword).isEmpty then 0 else 1) < 30)) = true := by rfl)
    (hline : (apos.endLine == pos.line) = true := by rfl) (hst : starEach (e :: es) X.env = (false, eval e X.env) :: starEach es X.env := by rfl) (hplain : (backTo pos (starEach es X.env)).any (·.1) = false := by rfl) :
    DE X W (.Call (.Attribute o name apos) (e :: es) [] pos) (iBM T f mo ma) :=
  (pe_bm pa slot hty hm ho ha hbase hfew hline hst hplain).imp fun σ H Q ⟨w, S, Λ, r0, s0, p⟩ => ⟨w, S, Λ, r0, s0, p.bind.imp fun w1 H1 S1 ix l1 r1 p1 v1 rv1 => by
    obtain ⟨h1, p1⟩ := chk_post p1
    exact ⟨hasTy_rel r1 rv1 h1, w1, S1, Λ, r1, s0.up l1, p1.bind.imp fun w2 H2 S2 xs l2 r2 p2 vs rvs => hs w2 S2 H2 _ _ _ _ _ r2 (rv1.up l2) rvs p2⟩⟩
theorem de_bm0 (pa : PlainAttrs T) (slot : Slot T name id) (hty : typeOf (.builtin id) = pure (.type "method_descriptor")) (hm : MtR X id r) (hs : MtS (kx X W) W.x r f) (ho : DE X W o mo)
    (hbase : attributeBase o name X.env (eval o X.env) = eval o X.env := by rfl) (hline : (apos.endLine == pos.line) = true := by rfl) : DE X W (.Call (.Attribute o name apos) [] [] pos) (iBM T f mo iNil) :=
  (pe_bm0 pa slot hty hm ho hbase hline).imp fun σ H Q ⟨w, S, Λ, r0, s0, p⟩ => ⟨w, S, Λ, r0, s0, p.bind.imp fun w1 H1 S1 ix l1 r1 p1 v1 rv1 => by
    obtain ⟨h1, p1⟩ := chk_post p1
    exact ⟨hasTy_rel r1 rv1 h1, hs w1 S1 H1 _ _ _ _ _ r1 rv1 .nil p1⟩⟩
end
/-- a list in the store, to be changed -/
def onL {α : Type} (S : Sto) (x : IV) (k : Nat → List IV → Out α) : Out α := match x with
  | .adr n => (match S[n]? with
    | some (.lst xs) => k n xs
    | _ => .bad)
  | _ => .bad
theorem onL_post {α : Type} {K : KX} {W : WX} {w : Wd} {S : Sto} {H : Hp} {v : V} {x : IV} {k : Nat → List IV → Out α} {P : Wd → Hp → Sto → α → Prop} (h : Post K W w (onL S x k) P) (r : R K w S H) (rx : Rel K w v x) :
    ∃ n xs a vs, S[n]? = some (.lst xs) ∧ w.rho[n]? = some a ∧ v = .ref a ∧ H a = some (.lst vs) ∧ RelL K w vs xs ∧ Post K W w (k n xs) P := by
  unfold onL at h
  split at h
  · cases rx with
    | adr hrho =>
      split at h
      · rename_i q
        obtain ⟨vs, h2, h3⟩ := r.cell _ _ _ q hrho
        exact ⟨_, _, _, vs, q, hrho, rfl, h2, h3, h⟩
      · exact h.elim
  · exact h.elim
def fApp (o : IV) (xs : List IV) (S : Sto) : Out IV := a1 xs fun y => onL S o fun n ys => chk (ys.length < sizeLine) (.ok .non (S.set n (.lst (ys ++ [y]))))
theorem ms_app {K : KX} {W : WX} : MtS K W rAppend fApp := fun w S H x xs io ix Q r ro rx p => by
  obtain ⟨v, y, rfl, rfl, rv, p⟩ := a1_post p rx
  obtain ⟨n, ys, a, vs, h1, h2, rfl, h3, h4, p⟩ := onL_post p r ro
  obtain ⟨c, p⟩ := chk_post p
  exact ⟨a, vs, v, rfl, rfl, h3, by rw [h4.length]; exact c, p.now (r.write h2 ⟨_, upd_same, h4.append (.one rv)⟩) _ .non⟩
/-- xs.extend(ys) -/
def fExt (o : IV) (xs : List IV) (S : Sto) : Out IV := a1 xs fun y => onL S o fun n ys => orBad (lstX S y) fun zs => chk (ys.length + zs.length ≤ sizeLine) (.ok .non (S.set n (.lst (ys ++ zs))))
theorem ms_ext {K : KX} {W : WX} : MtS K W rExtend fExt := fun w S H x xs io ix Q r ro rx p => by
  obtain ⟨v, y, rfl, rfl, rv, p⟩ := a1_post p rx
  obtain ⟨n, ys, a, vs, h1, h2, rfl, h3, h4, p⟩ := onL_post p r ro
  obtain ⟨zs, e, p⟩ := orBad_post p
  obtain ⟨b, us, rfl, h5, h6⟩ := lstX_sq e r rv
  obtain ⟨c, p⟩ := chk_post p
  exact ⟨a, b, vs, us, rfl, rfl, h3, h5, by rw [h4.length, h6.length]; exact c, p.now (r.write h2 ⟨_, upd_same, h4.append h6⟩) _ .non⟩
def strsOf : List IV → Option (List Str)
  | [] => some []
  | .str s :: xs => (strsOf xs).map (s :: ·)
  | _ => none
theorem strsOf_rel {K : KX} {w : Wd} : ∀ {xs : List IV} {vs : List V} {ss : List Str}, strsOf xs = some ss → RelL K w vs xs → vs = ss.map V.str
  | [], _, _, e, r => by cases e; cases r; rfl
  | x :: xs, _, ss, e, r => by
    cases r with
    | cons a b =>
      cases x with
      | str s =>
        obtain ⟨ts, h1, h2⟩ := Option.map_eq_some_iff.mp (show (strsOf xs).map (s :: ·) = some ss from e)
        subst h2
        cases a
        rw [strsOf_rel h1 b]
        rfl
      | _ => cases e
def fJoin (o : IV) (xs : List IV) (S : Sto) : Out IV := asS o fun a => a1 xs fun y => orBad (seqOf S y) fun ys => orBad (strsOf ys) fun zs => chk ((zs.map (·.length)).sum + zs.length * a.length ≤ 16777216) (.ok (.str (PySem.Txt.join a zs)) S)
theorem ms_join {K : KX} {W : WX} : MtS K W (fun x xs H Q => ∃ a p ys, x = V.str a ∧ xs = [V.ref p] ∧ (SqL K.k H p (ys.map V.str) ∨ SqT K.k H p (ys.map V.str)) ∧ (ys.map fun x => x.length).sum + ys.length * a.length ≤ 16777216 ∧ Q (.str (PySem.Txt.join a ys)) H) fJoin := fun w S H x xs io ix Q r ro rx p => by
  obtain ⟨a, rfl, rfl, p⟩ := asS_post p ro
  obtain ⟨v, y, rfl, rfl, rv, p⟩ := a1_post p rx
  obtain ⟨ys, e1, p⟩ := orBad_post p
  obtain ⟨zs, e2, p⟩ := orBad_post p
  obtain ⟨c, p⟩ := chk_post p
  obtain ⟨b, vs, rfl, h1, h2⟩ := seqOf_sq e1 r rv
  have := strsOf_rel e2 h2
  subst this
  exact ⟨a, b, zs, rfl, rfl, h1, c, p.now r _ (.str _)⟩

/-! ### C.m(..), m a static method -/
structure SMet (K : PySem.W.Frag) (C : Addr) (m : Str) (p g : Addr) : Prop where
  ga : PySem.W.specialIn K (.ref C) "__getattribute__" = some (some (.builtin "type.__getattribute__"))
  ty : PySem.W.typeIn K (.ref C) = some (.type "type")
  rd : PySem.W.readsIn K C (.type "type") = true
  at_ : PySem.W.findCls K (.ref C) (.type "type") m = some (.get (.builtin "staticmethod.__get__") (.ref p) .none (.ref C))
  rc : ∃ rest, PySem.W.recIn K p "staticmethod" = some (.ref g :: rest)
section
variable {X : Cx} {W : WX} {pos apos p0 : Pos} {k : Nat} {C p f : Addr} {fd : FuncData} {ps : List Str} {mf : List IV → Sto → Out IV} {x m : Str} {e : Expr} {es : List Expr} {ma : IA} {np : Nat} {pl : Sem Bool}
theorem de_smeth (T : SMet X.K C m p f) (F : FnOk X.prog X.w X.K X.mg X.base (L2.CX X.prog X.w) k f fd ps (spM X.K np mf)) (tk : Takes X W) (hr : Room k X.A) (hm : X.mg x = some (.ref C)) (hk : PySem.W.keepIn X.K (.ref f) = true) (hb : Binds X.K fd ps [])
    (ha : DA X ⟨W, none⟩ (e :: es) ma) (hg : Gl X x := by rfl) (hdb : (x == ("__debug__" : Str)) = false := by decide)
    (hst : starEach (e :: es) X.env = (false, eval e X.env) :: starEach es X.env := by rfl) (hpl : (backTo pos (starEach es X.env)).any (·.1) = false := by rfl)
    (ht : eval (.Call (.Attribute (.Name x p0) m apos) (e :: es) [] pos) X.env = (do
      let ov ← eval (.Name x p0) X.env
      standAt apos.atName
      let (f, first) ← holding [ov] (getMethod ov m pl)
      callWith pos f first (backTo pos (starEach (e :: es) X.env)) (backToKw pos (keywordEach [] X.env))) := by rfl) :
    DE X ⟨W, none⟩ (.Call (.Attribute (.Name x p0) m apos) (e :: es) [] pos) (iCall np mf ma) := by
  refine ⟨fun pins s σ H Q I h => ?_⟩
  obtain ⟨w, S, Λ, r0, s0, p0⟩ := h
  refine PySem.W.methodCall_KW (pl := pl) (ld_glob I hg hm ?_ hdb) ht
  obtain ⟨m', fr⟩ := I.fr
  obtain ⟨rest, hrc⟩ := T.rc
  refine PySem.W.method_of_cls fr I.ok.mod.kin T.ga (PySem.W.cls_sm fr I.ok.mod.kin T.ty T.rd T.at_ hrc rfl ?_)
  have I1 := I.tok (s.toks + 1)
  have hq := ha.run pos pins _ σ H (fun vs H1 => spM X.K np mf vs H1 Q (WE W σ)) I1 ⟨w, S, Λ, r0, s0, p0.bind.imp fun w1 H1 S1 xs l1 r1 p1 vs rv => by
    obtain ⟨h1, q⟩ := chk_post p1
    exact ⟨rv.length.trans h1, w1, S1, xs, r1, rv, relab_post q (s0.up l1)⟩⟩
  refine PySem.W.callWith_K (h₀ := X.base) (first := []) I.ok.mod.kin hk (thn hq fun us s1 z => ?_) hst hpl
  obtain ⟨vs, H1, I2, r, q⟩ := z
  exact ⟨I2.kIn, run_fnS F hr hb (passAt tk σ) I2 r q⟩
end
end Sm

namespace Sm
open PySem PySem.Spec PyProof.Rows L2
section
variable {X : Cx} {W : WZ} {pos : Pos} {a b c : Expr} {ma mb mc : IE}
theorem dt_chain {op op' : CmpOp} {r r' : R2} {f g : IV → IV → Sto → Out IV} (ho : OpR X (compareOp op) r) (hs : OpS (kx X W) W.x r f) (ho' : OpR X (compareOp op') r') (hs' : OpS (kx X W) W.x r' g) (ha : DE X W a ma) (hb : DE X W b mb) (hc : DE X W c mc)
    (hm : lastMarks [op, op'] [b, c] = false := by with_unfolding_all rfl) : DT X W (.Compare a [op, op'] [b, c] pos) (iTest (iChain f g ma mb mc)) :=
  (pt_chain ho ho' ha hb hc hm).imp fun σ H Q ⟨w, S, Λ, r0, s0, p⟩ => eM_chain hs hs' ⟨w, S, Λ, r0, s0, p.bind.imp fun w1 H1 S1 ix l1 r1 p1 v1 rv1 => by
    obtain ⟨k, rfl, rfl, q⟩ := asB_post p1 rv1
    exact ⟨k, rfl, q.now r1⟩⟩
theorem de_chain {op op' : CmpOp} {r r' : R2} {f g : IV → IV → Sto → Out IV} (ho : OpR X (compareOp op) r) (hs : OpS (kx X W) W.x r f) (ho' : OpR X (compareOp op') r') (hs' : OpS (kx X W) W.x r' g) (ha : DE X W a ma) (hb : DE X W b mb) (hc : DE X W c mc)
    (hm : lastMarks [op, op'] [b, c] = false := by with_unfolding_all rfl) : DE X W (.Compare a [op, op'] [b, c] pos) (iChain f g ma mb mc) :=
  (pe_chain ho ho' ha hb hc hm).imp fun σ H Q h => eM_chain hs hs' h
end
section
variable {P : Program} {w : World} {K : PySem.W.Frag} {mg : Str → Option Value} {base : Heap}
/-- a def that stands at a global name, and keeps what m tells -/
def Cal (P : Program) (w : World) (K : PySem.W.Frag) (mg : Str → Option Value) (base : Heap) (x : Str) (k : Nat) (ps : List Str) (m : List IV → Sto → Out IV) : Prop :=
  ∃ (f : Addr) (fd : FuncData), mg x = some (.ref f) ∧ PySem.W.keepIn K (.ref f) = true ∧ L2.Binds K fd ps [] ∧ FnOk P w K mg base (L2.CX P w) k f fd ps (spM K ps.length m)
def Loc (K : PySem.W.Frag) (mg : Str → Option Value) (x : Str) (st : Stmt) (ps : List Str) : Prop := ∃ (f : Addr) (fd : FuncData), mg x = some (.ref f) ∧ Fun K x x st f fd ∧ L2.Binds K fd ps []
theorem cal_def {x : Str} {st : Stmt} {N ps : List Str} {k : Nat} {body : IS} (L : Loc K mg x st ps) (Sc : FnScope N ps (defScope st))
    (hb : ∀ (f : Addr) (cdv : Value) (A : Around) (outer : List Env) (s : Shared) (H : Hp) (E : XK), Room k (A.deeper (envOfC x (defScope st) s.heap.objs.size f cdv)) →
      Takes (DX P w K mg base N x (defScope st) f cdv A outer s H E) (WEx E) → PassesOwn (model P w) (DX P w K mg base N x (defScope st) f cdv A outer s H E).A (DX P w K mg base N x (defScope st) f cdv A outer s H E).env (DX P w K mg base N x (defScope st) f cdv A outer s H E).xe →
      DSs (DX P w K mg base N x (defScope st) f cdv A outer s H E) ⟨WEx E, none⟩ (defBody st) body) : Cal P w K mg base x (k + 1) ps (mDef N.length body) := by
  obtain ⟨f, fd, h1, h2, h3⟩ := L
  exact ⟨f, fd, h1, h2.kp, h3, ok_def h2 Sc (hb f)⟩
theorem Cal.eq {x : Str} {k : Nat} {ps : List Str} {m m' : List IV → Sto → Out IV} (c : Cal P w K mg base x k ps m) (h : ∀ xs S, xs.length = ps.length → m' xs S ≠ .bad → m xs S = m' xs S) : Cal P w K mg base x k ps m' := by
  obtain ⟨f, fd, h1, h2, h3, h4⟩ := c
  exact ⟨f, fd, h1, h2, h3, ok_eq h4 h⟩
end
section
variable {X : Cx} {W : WX} {pos p : Pos} {k : Nat} {ps : List Str} {mf : List IV → Sto → Out IV} {x : Str} {e : Expr} {es : List Expr} {ma : IA}
theorem de_callC {np : Nat} (c : Cal X.prog X.w X.K X.mg X.base x k ps mf) (tk : Takes X W) (hr : Room k X.A) (ha : DA X ⟨W, none⟩ (e :: es) ma) (hg : Gl X x := by rfl) (hnp : ps.length = np := by rfl) (hdb : (x == ("__debug__" : Str)) = false := by decide)
    (he : starEach (e :: es) X.env = (false, eval e X.env) :: starEach es X.env := by rfl) (hpl : (backTo pos (starEach es X.env)).any (·.1) = false := by rfl) : DE X ⟨W, none⟩ (.Call (.Name x p) (e :: es) [] pos) (iCall np mf ma) := by
  obtain ⟨f, fd, h1, h2, h3, h4⟩ := c
  rw [← hnp]
  exact de_call h4 tk hr h1 h2 h3 ha hg hdb he hpl
theorem de_callC0 (c : Cal X.prog X.w X.K X.mg X.base x k [] mf) (tk : Takes X W) (hr : Room k X.A) (hg : Gl X x := by rfl) (hdb : (x == ("__debug__" : Str)) = false := by decide) : DE X ⟨W, none⟩ (.Call (.Name x p) [] [] pos) (iCall0 mf) := by
  obtain ⟨f, fd, h1, h2, h3, h4⟩ := c
  exact de_call0 h4 tk hr h1 h2 h3 hg hdb
theorem takesW0 {X : Cx} : Takes X W0 := fun _ _ x => by
  obtain ⟨_, _, _, _, _, _, _, _, _, _, _, _, _, _, _, _, z⟩ := x
  exact z.elim
/-- a static method's promise -/
def SCal (P : Program) (w : World) (K : PySem.W.Frag) (mg : Str → Option Value) (base : Heap) (x m : Str) (k : Nat) (ps : List Str) (mf : List IV → Sto → Out IV) : Prop :=
  ∃ (C p f : Addr) (fd : FuncData), mg x = some (.ref C) ∧ SMet K C m p f ∧ PySem.W.keepIn K (.ref f) = true ∧ L2.Binds K fd ps [] ∧ FnOk P w K mg base (L2.CX P w) k f fd ps (spM K ps.length mf)
theorem de_scal {np : Nat} {m : Str} {p0 apos : Pos} {pl : Sem Bool} (c : SCal X.prog X.w X.K X.mg X.base x m k ps mf) (tk : Takes X W) (hr : Room k X.A) (ha : DA X ⟨W, none⟩ (e :: es) ma) (hg : Gl X x := by rfl) (hnp : ps.length = np := by rfl) (hdb : (x == ("__debug__" : Str)) = false := by decide)
    (hst : starEach (e :: es) X.env = (false, eval e X.env) :: starEach es X.env := by rfl) (hpl : (backTo pos (starEach es X.env)).any (·.1) = false := by rfl)
    (ht : eval (.Call (.Attribute (.Name x p0) m apos) (e :: es) [] pos) X.env = (do
      let ov ← eval (.Name x p0) X.env
      standAt apos.atName
      let (f, first) ← holding [ov] (getMethod ov m pl)
      callWith pos f first (backTo pos (starEach (e :: es) X.env)) (backToKw pos (keywordEach [] X.env))) := by rfl) :
    DE X ⟨W, none⟩ (.Call (.Attribute (.Name x p0) m apos) (e :: es) [] pos) (iCall np mf ma) := by
  obtain ⟨C, q, f, fd, h1, h2, h3, h4, h5⟩ := c
  rw [← hnp]
  exact de_smeth h2 h5 tk hr h1 h3 h4 ha hg hdb hst hpl ht
end
def SLoc (K : PySem.W.Frag) (mg : Str → Option Value) (x m : Str) (qual : Str) (st : Stmt) (ps : List Str) : Prop := ∃ (C p f : Addr) (fd : FuncData), mg x = some (.ref C) ∧ SMet K C m p f ∧ Fun K m qual st f fd ∧ L2.Binds K fd ps []
section
variable {P : Program} {w : World} {K : PySem.W.Frag} {mg : Str → Option Value} {base : Heap}
theorem scal_def {x m qual : Str} {st : Stmt} {N ps : List Str} {k : Nat} {body : IS} (L : SLoc K mg x m qual st ps) (Sc : FnScope N ps (defScope st))
    (hb : ∀ (f : Addr) (cdv : Value) (A : Around) (outer : List Env) (s : Shared) (H : Hp) (E : XK), Room k (A.deeper (envOfC qual (defScope st) s.heap.objs.size f cdv)) →
      Takes (DX P w K mg base N qual (defScope st) f cdv A outer s H E) (WEx E) → PassesOwn (model P w) (DX P w K mg base N qual (defScope st) f cdv A outer s H E).A (DX P w K mg base N qual (defScope st) f cdv A outer s H E).env (DX P w K mg base N qual (defScope st) f cdv A outer s H E).xe →
      DSs (DX P w K mg base N qual (defScope st) f cdv A outer s H E) ⟨WEx E, none⟩ (defBody st) body) : SCal P w K mg base x m (k + 1) ps (mDef N.length body) := by
  obtain ⟨C, p, f, fd, h1, h2, h3, h4⟩ := L
  exact ⟨C, p, f, fd, h1, h2, h3.kp, h4, ok_def h3 Sc (hb f)⟩
end
/-- a module's tuple of texts -/
def GTup (K : PySem.W.Frag) (mg : Str → Option Value) (x : Str) (zs : List Str) : Prop :=
  ∃ (a : Addr) (o : Obj) (its : Array Value) (n : Nat), mg x = some (.ref a) ∧ K.lookup a = some o ∧ o.cls = .type "tuple" ∧ o.data = .seq its n ∧ its.size ≤ sizeLine ∧ Vals (zs.map V.str) its.toList
theorem de_gtupC {X : Cx} {W : WZ} {x : Str} {pos : Pos} {zs : List Str} (h : GTup X.K X.mg x zs) (hg : Gl X x := by rfl) (hd : (x == ("__debug__" : Str)) = false := by decide) : DE X W (.Name x pos) (iC (.tup (zs.map IV.str))) := by
  obtain ⟨a, o, its, n, h1, h2, h3, h4, h5, h6⟩ := h
  exact de_gtup h1 h2 h3 h4 h5 h6 hg hd
/-! ### a text, sign by sign -/
section
variable {X : Cx} {W : WZ} {tg e : Expr} {m : IE}
theorem di_str (h : DE X W e m) : DI X W tg e (iSrcS m) := (pi_str h).imp fun σ H Q ⟨w, S, Λ, r0, s0, p⟩ => ⟨w, S, Λ, r0, s0, p.bind.imp fun w1 H1 S1 ix l1 r1 p1 v1 rv1 => by
  obtain ⟨z, rfl, rfl, q⟩ := asS_post p1 rv1
  have hz : ∀ i : Nat, z.cps[i]? = z.cps.toList[i]? := fun i => by simp
  refine ⟨z, rfl, q.now r1 _ ⟨fun w' S' H' i l r' st hi => ?_, fun w' S' H' i l r' st hi => ?_, fun w' S' H' i iv x H2 l r' st hi hy => ?_⟩⟩
  · show i < z.cps.size
    simpa using hi
  · show z.cps.size ≤ i
    simpa using hi
  · obtain ⟨f1, c, f2, f3⟩ := hy
    subst f1 f3
    have hi : (z.cps.toList.map fun c => IV.str ⟨#[c]⟩)[i]? = some iv := hi
    rw [List.getElem?_map, ← hz, f2] at hi
    cases hi
    exact ⟨w', Wd.le.refl _, r', .str _⟩⟩
end
end Sm

/-! evaluation -/
namespace Sm
open PySem PySem.Spec PyProof.Rows L2
variable {Λ L : Slots} {S S' : Sto}
@[simp] theorem iVar_s {i : Nat} {x : IV} (h : Λ[i]? = some (some x)) : iVar i Λ S = .ok x S := by unfold iVar; rw [h]
@[simp] theorem iC_e (x : IV) : iC x Λ S = .ok x S := rfl
@[simp] theorem iBin_e (f : IV → IV → Sto → Out IV) (a b : IE) : iBin f a b Λ S = (a Λ S).bind fun x S1 => (b Λ S1).bind fun y S2 => f x y S2 := rfl
@[simp] theorem iUn_e (f : IV → Sto → Out IV) (a : IE) : iUn f a Λ S = (a Λ S).bind fun x S1 => f x S1 := rfl
@[simp] theorem iNil_e : iNil Λ S = .ok [] S := rfl
@[simp] theorem iCons_e (a : IE) (b : IA) : iCons a b Λ S = (a Λ S).bind fun x S1 => (b Λ S1).bind fun xs S2 => .ok (x :: xs) S2 := rfl
@[simp] theorem iCa_e (f : List IV → Sto → Out IV) (a : IA) : iCa f a Λ S = (a Λ S).bind fun x S1 => f x S1 := rfl
@[simp] theorem asI_i {α : Type} (i : Int) (k : Int → Out α) : asI (.int i) k = k i := rfl
@[simp] theorem asS_s {α : Type} (i : Str) (k : Str → Out α) : asS (.str i) k = k i := rfl
@[simp] theorem asB_b {α : Type} (i : Bool) (k : Bool → Out α) : asB (.bl i) k = k i := rfl
@[simp] theorem a1_1 {α : Type} (x : IV) (k : IV → Out α) : a1 [x] k = k x := rfl
@[simp] theorem a2_2 {α : Type} (x y : IV) (k : IV → IV → Out α) : a2 [x, y] k = k x y := rfl
@[simp] theorem iTest_e (m : IE) : iTest m Λ S = (m Λ S).bind fun x S1 => asB x fun b => .ok b S1 := rfl
@[simp] theorem iTru_e (m : IE) : iTru m Λ S = (m Λ S).bind fun x S1 => orBad (truB S1 x) fun b => .ok b S1 := rfl
@[simp] theorem truB_bl (b : Bool) : truB S (.bl b) = some b := rfl
@[simp] theorem truB_non : truB S .non = some false := rfl
@[simp] theorem iAnd_e (c d : IT) : iAnd c d Λ S = (c Λ S).bind fun b S1 => if b = true then d Λ S1 else .ok false S1 := rfl
@[simp] theorem iOr_e (c d : IT) : iOr c d Λ S = (c Λ S).bind fun b S1 => if b = true then .ok true S1 else d Λ S1 := rfl
@[simp] theorem iNot_e (c : IT) : iNot c Λ S = (c Λ S).bind fun b S1 => .ok (!b) S1 := rfl
@[simp] theorem iAndV_e (c d : IE) : iAndV c d Λ S = (c Λ S).bind fun x S1 => asB x fun b => if b = true then d Λ S1 else .ok (.bl false) S1 := rfl
@[simp] theorem iOrV_e (c d : IE) : iOrV c d Λ S = (c Λ S).bind fun x S1 => asB x fun b => if b = true then .ok (.bl true) S1 else d Λ S1 := rfl
@[simp] theorem iNotV_e (c : IE) : iNotV c Λ S = (c Λ S).bind fun x S1 => asB x fun b => .ok (.bl (!b)) S1 := rfl
@[simp] theorem iIf_e {α : Type} (c : IT) (a b : Slots → Sto → Out α) : iIf c a b Λ S = (c Λ S).bind fun k S1 => if k = true then a Λ S1 else b Λ S1 := rfl
@[simp] theorem iChain_e (f g : IV → IV → Sto → Out IV) (a b c : IE) : iChain f g a b c Λ S = (a Λ S).bind fun x S1 => (b Λ S1).bind fun y S2 => (f x y S2).bind fun z S3 => asB z fun k => if k = true then (c Λ S3).bind fun u S4 => g y u S4 else .ok (.bl false) S3 := rfl
@[simp] theorem iSl_e (cell : Bool) (m : IE) (ml mh : IO) : iSl cell m ml mh Λ S = (m Λ S).bind fun x S1 => (ml Λ S1).bind fun lo S2 => (mh Λ S2).bind fun hi S3 => fSl cell x lo hi S3 := rfl
@[simp] theorem iNoPart_e : iNoPart Λ S = .ok none S := rfl
@[simp] theorem iPart_e (m : IE) : iPart m Λ S = (m Λ S).bind fun x S1 => asI x fun i => .ok (some i) S1 := rfl
@[simp] theorem iLst_e (cell : Bool) (m : IA) : iLst cell m Λ S = (m Λ S).bind fun xs S1 => mkL cell xs S1 := rfl
@[simp] theorem iTup_e (m : IA) : iTup m Λ S = (m Λ S).bind fun xs S1 => mkT xs S1 := rfl
@[simp] theorem mkL_t (xs : List IV) : mkL true xs S = chk (xs.length ≤ sizeLine) (.ok (.adr S.length) (S ++ [.lst xs])) := rfl
@[simp] theorem mkL_f (xs : List IV) : mkL false xs S = chk (xs.length ≤ sizeLine) (.ok (.lst xs) S) := rfl
@[simp] theorem mkT_e (xs : List IV) : mkT xs S = chk (xs.length ≤ sizeLine) (.ok (.tup xs) S) := rfl
@[simp] theorem iNext_e : iNext Λ S = .ok (.nx Λ) S := rfl
@[simp] theorem iSeq_e (a b : IS) : iSeq a b Λ S = (a Λ S).bind fun fl S1 => fSeq b fl S1 := rfl
@[simp] theorem fSeq_nx (b : IS) : fSeq b (.nx L) S = b L S := rfl
@[simp] theorem fSeq_rt (b : IS) (v : IV) : fSeq b (.rt v) S = .ok (.rt v) S := rfl
@[simp] theorem fSeq_bk (b : IS) : fSeq b (.bk L) S = .ok (.bk L) S := rfl
@[simp] theorem fSeq_ct (b : IS) : fSeq b (.ct L) S = .ok (.ct L) S := rfl
@[simp] theorem iDrop_e (m : IE) : iDrop m Λ S = (m Λ S).bind fun _ S1 => .ok (.nx Λ) S1 := rfl
@[simp] theorem iRet_e (m : IE) : iRet m Λ S = (m Λ S).bind fun x S1 => .ok (.rt x) S1 := rfl
@[simp] theorem iRetN_e : iRetN Λ S = .ok (.rt .non) S := rfl
@[simp] theorem iBrk_e : iBrk Λ S = .ok (.bk Λ) S := rfl
@[simp] theorem iCnt_e : iCnt Λ S = .ok (.ct Λ) S := rfl
@[simp] theorem iName_e (i : Nat) (x : IV) : iName i x Λ S = .ok (Λ.set i (some x)) S := rfl
@[simp] theorem iAsg_e (m : IE) (g : IG) : iAsg m g Λ S = (m Λ S).bind fun x S1 => (g x Λ S1).bind fun L S2 => .ok (.nx L) S2 := rfl
@[simp] theorem iSet_e (i : Nat) (m : IE) : iSet i m Λ S = (m Λ S).bind fun x S1 => .ok (.nx (Λ.set i (some x))) S1 := rfl
@[simp] theorem iGSub_e (mo mi : IE) (x : IV) : iGSub mo mi x Λ S = (mo Λ S).bind fun o S1 => (mi Λ S1).bind fun i S2 => asI i fun k => onL S2 o fun n xs => orBad (ixN xs.length k) fun j => .ok Λ (S2.set n (.lst (xs.set j x))) := rfl
theorem onL_s {α : Type} {n : Nat} {xs : List IV} {k : Nat → List IV → Out α} (h : S[n]? = some (.lst xs)) : onL S (.adr n) k = k n xs := by unfold onL; simp only [h]
@[simp] theorem iFor_e (ms : IW) (g : IG) (b : IS) : iFor ms g b Λ S = (ms Λ S).bind fun s S1 => iIter s g b s.items Λ S1 := rfl
@[simp] theorem iSrcR1_e (m : IE) : iSrcR1 m Λ S = (m Λ S).bind fun x S1 => asI x fun j => chk (-(2 ^ 62) ≤ j ∧ j < 2 ^ 62) (.ok ⟨rangeI 0 j.toNat, none⟩ S1) := rfl
@[simp] theorem iSrcS_e (m : IE) : iSrcS m Λ S = (m Λ S).bind fun x S1 => asS x fun z => .ok ⟨z.cps.toList.map fun c => .str ⟨#[c]⟩, none⟩ S1 := rfl
@[simp] theorem iSrcL_e (m : IE) : iSrcL m Λ S = (m Λ S).bind fun x S1 => fSrcL x S1 := rfl
@[simp] theorem fSrcL_l (xs : List IV) : fSrcL (.lst xs) S = .ok ⟨xs, none⟩ S := rfl
@[simp] theorem fSrcL_w (xs : List IV) : fSrcL (.wls xs) S = .ok ⟨xs, none⟩ S := rfl
@[simp] theorem iLc_e (cell : Bool) (ms : IW) (gi : IV → Slots → Option Slots) (tt : IT) (te : IE) (vs : List Nat) : iLc cell ms gi tt te vs Λ S = (ms Λ S).bind fun s S1 => (iLcGo s gi tt te s.items (wipeI Λ vs) S1 []).bind fun acc S2 => mkL cell acc S2 := rfl
@[simp] theorem iYes_e : iYes Λ S = .ok true S := rfl
@[simp] theorem giN_e (j : Nat) (x : IV) : giN j x Λ = some (Λ.set j (some x)) := rfl
@[simp] theorem iCall_e (np : Nat) (mf : List IV → Sto → Out IV) (a : IA) : iCall np mf a Λ S = (a Λ S).bind fun xs S1 => chk (xs.length = np) (relab Λ (mf xs S1)) := rfl
@[simp] theorem relab_ok (v : IV) : relab Λ (.ok v S) = .ok v S := rfl
@[simp] theorem relab_bad : relab Λ .bad = .bad := rfl
theorem iCall0_ok {mf : List IV → Sto → Out IV} {v : IV} (h : mf [] S = .ok v S') : iCall0 mf Λ S = .ok v S' := by unfold iCall0; rw [h]
@[simp] theorem iBM_e (T : String) (f : IV → List IV → Sto → Out IV) (mo : IE) (ma : IA) : iBM T f mo ma Λ S = (mo Λ S).bind fun o S1 => chk (hasTy T S1 o = true) ((ma Λ S1).bind fun xs S2 => f o xs S2) := rfl
@[simp] theorem fI_i (C : Int → Int → Prop) [∀ i j, Decidable (C i j)] (g : Int → Int → Int) (i j : Int) : fI C g (.int i) (.int j) S = chk (C i j) (.ok (.int (g i j)) S) := rfl
@[simp] theorem fB_i (g : Int → Int → Bool) (i j : Int) : fB g (.int i) (.int j) S = .ok (.bl (g i j)) S := rfl
@[simp] theorem fAdd_i (i j : Int) : fAdd (.int i) (.int j) S = .ok (.int (i + j)) S := rfl
@[simp] theorem fAdd_s (a b : Str) : fAdd (.str a) (.str b) S = chk (a.length + b.length ≤ sizeLine) (.ok (.str (a ++ b)) S) := rfl
@[simp] theorem fAdd_l (a b : List IV) : fAdd (.lst a) (.lst b) S = mkF (a ++ b) S := rfl
@[simp] theorem mkF_e (a : List IV) : mkF a S = chk (a.length ≤ sizeLine) (.ok (.lst a) S) := rfl
@[simp] theorem fIx_l (xs : List IV) (i : Int) : fIx (.lst xs) (.int i) S = orBad (atI xs i) fun v => .ok v S := rfl
@[simp] theorem fIx_w (xs : List IV) (i : Int) : fIx (.wls xs) (.int i) S = orBad (atI xs i) fun v => .ok v S := rfl
@[simp] theorem fIx_t (xs : List IV) (i : Int) : fIx (.tup xs) (.int i) S = orBad (atI xs i) fun v => .ok v S := rfl
@[simp] theorem fIx_s (z : Str) (i : Int) : fIx (.str z) (.int i) S = chk (z.length ≤ sizeLine) (orBad (atI z.cps.toList i) fun c => .ok (.str ⟨#[c]⟩) S) := rfl
theorem fIx_a {n : Nat} {xs : List IV} {i : Int} (h : S[n]? = some (.lst xs)) : fIx (.adr n) (.int i) S = orBad (atI xs i) fun v => .ok v S := by
  show orBad (lstOf S (.adr n)) _ = _
  unfold lstOf
  simp only [h]
  rfl
@[simp] theorem fInt_i (i : Int) : fInt [.int i] S = .ok (.int i) S := rfl
@[simp] theorem fInt_b (i : Bool) : fInt [.bl i] S = .ok (.int (if i then 1 else 0)) S := rfl
@[simp] theorem fAbs_i (i : Int) : fAbs [.int i] S = .ok (.int (if i < 0 then -i else i)) S := rfl
@[simp] theorem fLen_e (x : IV) : fLen [x] S = orBad (lenN S x) fun n => .ok (.int n) S := rfl
@[simp] theorem lenN_s (s : Str) : lenN S (.str s) = if s.length ≤ sizeLine then some s.length else none := rfl
@[simp] theorem lenN_l (s : List IV) : lenN S (.lst s) = some s.length := rfl
@[simp] theorem lenN_w (s : List IV) : lenN S (.wls s) = some s.length := rfl
@[simp] theorem lenN_t (s : List IV) : lenN S (.tup s) = some s.length := rfl
@[simp] theorem fMax2_i (i j : Int) : fMax2 [.int i, .int j] S = .ok (.int (if j > i then j else i)) S := rfl
@[simp] theorem fMin2_i (i j : Int) : fMin2 [.int i, .int j] S = .ok (.int (if j < i then j else i)) S := rfl
@[simp] theorem fIsi_e (x : IV) (n : String) : fIsi [x, .ty n] S = orBad (tyN S x) fun t => orBad (kitN t n) fun b => .ok (.bl b) S := rfl
@[simp] theorem tyN_non : tyN S .non = some "NoneType" := rfl
@[simp] theorem tyN_bl (b : Bool) : tyN S (.bl b) = some "bool" := rfl
@[simp] theorem tyN_int (b : Int) : tyN S (.int b) = some "int" := rfl
@[simp] theorem tyN_str (b : Str) : tyN S (.str b) = some "str" := rfl
@[simp] theorem tyN_lst (b : List IV) : tyN S (.lst b) = some "list" := rfl
@[simp] theorem tyN_tup (b : List IV) : tyN S (.tup b) = some "tuple" := rfl
@[simp] theorem fIn_e (x y : IV) : fIn x y S = orBad (inB S x y) fun b => .ok (.bl b) S := rfl
@[simp] theorem fNotIn_e (x y : IV) : fNotIn x y S = orBad (inB S x y) fun b => .ok (.bl (!b)) S := rfl
@[simp] theorem fEq_e (x y : IV) : fEq x y S = orBad (eqB S x y) fun b => .ok (.bl b) S := rfl
@[simp] theorem fNe_e (x y : IV) : fNe x y S = orBad (eqB S x y) fun b => .ok (.bl (!b)) S := rfl
@[simp] theorem eqB_i (i j : Int) : eqB S (.int i) (.int j) = some (decide (i = j)) := rfl
@[simp] theorem eqB_s (i j : Str) : eqB S (.str i) (.str j) = some (decide (i = j)) := rfl
@[simp] theorem eqB_b (i j : Bool) : eqB S (.bl i) (.bl j) = some (decide (i = j)) := rfl
@[simp] theorem gIsN_e (x : IV) : gIsN x .non S = .ok (.bl (isN x)) S := rfl
@[simp] theorem gNotN_e (x : IV) : gNotN x .non S = .ok (.bl (!isN x)) S := rfl
@[simp] theorem fSl_s (cell : Bool) (z : Str) (lo hi : Option Int) : fSl cell (.str z) lo hi S = chk (z.length ≤ sizeLine) (.ok (.str (cutS z lo hi)) S) := rfl
@[simp] theorem fSl_l (cell : Bool) (z : List IV) (lo hi : Option Int) : fSl cell (.lst z) lo hi S = mkL cell (cutI z lo hi) S := rfl
theorem mDef_e (n : Nat) (b : IS) (xs : List IV) : mDef n b xs S = match b (xs.map some ++ List.replicate (n - xs.length) none) S with
  | .ok (.rt iv) S' => .ok iv S'
  | .ok (.nx _) S' => .ok .non S'
  | .ok _ _ => .bad
  | .exc C k _ S' => .exc C k [] S'
  | .bad => .bad := rfl
theorem mDef_rt {n : Nat} {b : IS} {xs : List IV} {v : IV} (h : b (xs.map some ++ List.replicate (n - xs.length) none) S = .ok (.rt v) S') : mDef n b xs S = .ok v S' := by unfold mDef; simp only [h]
theorem atI_n {α : Type} {xs : List α} {i : Nat} {v : α} (h : xs[i]? = some v) : atI xs (i : Int) = some v := atI_nat h
@[simp] theorem atI_0 {α : Type} (x : α) (xs : List α) : atI (x :: xs) 0 = some x := atI_nat (xs := x :: xs) (j := 0) rfl
@[simp] theorem atI_1 {α : Type} (x y : α) (xs : List α) : atI (x :: y :: xs) 1 = some y := atI_nat (xs := x :: y :: xs) (j := 1) rfl
@[simp] theorem atI_2 {α : Type} (x y z : α) (xs : List α) : atI (x :: y :: z :: xs) 2 = some z := atI_nat (xs := x :: y :: z :: xs) (j := 2) rfl
theorem atI_lt {α : Type} {xs : List α} {i : Int} (h0 : 0 ≤ i) (h : i < xs.length) : ∃ v, atI xs i = some v ∧ v ∈ xs := by
  obtain ⟨n, rfl⟩ := Int.eq_ofNat_of_zero_le h0
  have hn : n < xs.length := by exact_mod_cast h
  exact ⟨xs[n], atI_nat (List.getElem?_eq_getElem hn), List.getElem_mem hn⟩
@[simp] theorem ixN_0 (n : Nat) : ixN (n + 1) 0 = some 0 := by unfold ixN; rw [if_pos (by omega), if_pos (by omega)]; rfl
@[simp] theorem ixN_1 (n : Nat) : ixN (n + 2) 1 = some 1 := by unfold ixN; rw [if_pos (by omega), if_pos (by omega)]; rfl
@[simp] theorem ixN_2 (n : Nat) : ixN (n + 3) 2 = some 2 := by unfold ixN; rw [if_pos (by omega), if_pos (by omega)]; rfl
end Sm

/-! texts as lists of signs; == of lists of texts -/
namespace Sm
open PySem PySem.Spec PyProof.Rows L2
/-- the signs of a text -/
abbrev sg (s : Str) : List Nat := s.cps.toList
theorem sg_inj {a b : Str} (h : sg a = sg b) : a = b := by
  cases a; cases b
  exact congrArg Str.mk (Array.toList_inj.mp h)
theorem sg_len (s : Str) : (sg s).length = s.length := by simp [sg, Str.length]
theorem sg_app (a b : Str) : sg (a ++ b) = sg a ++ sg b := by
  show (a.cps ++ b.cps).toList = _
  simp [sg]
theorem len_app (a b : Str) : (a ++ b).length = a.length + b.length := by rw [← sg_len, sg_app, List.length_append, sg_len, sg_len]
theorem sg_one (c : Nat) : sg ⟨#[c]⟩ = [c] := rfl
theorem sg_mk (l : List Nat) : sg ⟨l.toArray⟩ = l := by simp [sg]
theorem sg_cut (z : Str) (lo hi : Option Int) : sg (cutS z lo hi) = ((sg z).drop (HT.sIx z.length 0 lo)).take (HT.sIx z.length z.length hi - HT.sIx z.length 0 lo) := by
  unfold cutS
  rw [sg_mk]
theorem mem_cut {z : Str} {lo hi : Option Int} {c : Nat} (h : c ∈ sg (cutS z lo hi)) : c ∈ sg z := by
  rw [sg_cut] at h
  exact List.mem_of_mem_drop (List.mem_of_mem_take h)
theorem len_cut (z : Str) (lo hi : Option Int) : (cutS z lo hi).length ≤ z.length := cutS_length z lo hi
theorem fold_glue : ∀ (zs : List Str) (acc : Array Nat), (zs.foldl (fun acc p => acc ++ (Str.mk #[]).cps ++ p.cps) acc).toList = acc.toList ++ (zs.map sg).flatten
  | [], acc => by simp
  | z :: zs, acc => by
    rw [List.foldl_cons, fold_glue zs, List.map_cons, List.flatten_cons]
    simp [sg]
theorem sg_join0 (zs : List Str) : sg (PySem.Txt.join ⟨#[]⟩ zs) = (zs.map sg).flatten := by
  show ((zs.drop 1).foldl _ (zs.headD Str.empty).cps).toList = _
  cases zs with
  | nil => rfl
  | cons z zs =>
    show (zs.foldl (fun acc p => acc ++ (Str.mk #[]).cps ++ p.cps) z.cps).toList = _
    rw [fold_glue]
    rfl
theorem empty_eq : ("" : Str) = ⟨#[]⟩ := by decide +kernel
/-- all signs are known ones -/
def okS (s : Str) : Prop := ∀ c ∈ sg s, c < 1114112
theorem okS_b {s : Str} (h : okS s) : PyData.strOk s = true := by
  unfold PyData.strOk
  rw [← Array.all_toList]
  exact List.all_eq_true.mpr fun c hc => decide_eq_true (h c hc)
theorem okS_app {a b : Str} (ha : okS a) (hb : okS b) : okS (a ++ b) := fun c hc => by
  rw [sg_app] at hc
  exact (List.mem_append.mp hc).elim (ha c) (hb c)
theorem okS_cut {z : Str} {lo hi : Option Int} (h : okS z) : okS (cutS z lo hi) := fun c hc => h c (mem_cut hc)
theorem okS_join0 {zs : List Str} (h : ∀ z ∈ zs, okS z) : okS (PySem.Txt.join ⟨#[]⟩ zs) := fun c hc => by
  rw [sg_join0] at hc
  obtain ⟨l, hl, hc⟩ := List.mem_flatten.mp hc
  obtain ⟨z, hz, e⟩ := List.mem_map.mp hl
  subst e
  exact h z hz c hc
/-! ### lists of texts as data -/
theorem viewL_strs {f : IV → Option PyData} (hf : ∀ s, f (.str s) = some (.str s)) : ∀ zs : List Str, viewL f (zs.map IV.str) = some (zs.map PyData.str)
  | [] => rfl
  | z :: zs => by
    show viewL f (.str z :: zs.map IV.str) = _
    unfold viewL
    rw [hf, viewL_strs hf zs]
    rfl
theorem canLay_strs : ∀ {zs : List Str}, (∀ z ∈ zs, okS z) → PyData.canLayAll0 (zs.map PyData.str) = true
  | [], _ => by simp [PyData.canLayAll0]
  | z :: zs, h => by
    show PyData.canLayAll0 (.str z :: zs.map PyData.str) = true
    rw [PyData.canLayAll0, PyData.canLay0, okS_b (h z List.mem_cons_self), canLay_strs fun y hy => h y (List.mem_cons_of_mem _ hy)]
    rfl
theorem depth_strs : ∀ zs : List Str, PyData.depthAll (zs.map PyData.str) = 0
  | [] => by simp [PyData.depthAll]
  | z :: zs => by
    show PyData.depthAll (.str z :: zs.map PyData.str) = 0
    rw [PyData.depthAll, PyData.depth, depth_strs zs]
    rfl
theorem eqv_strs : ∀ zs ys : List Str, PyData.eqvAll (zs.map PyData.str) (ys.map PyData.str) = decide (zs = ys)
  | [], [] => by simp [PyData.eqvAll]
  | [], y :: ys => by simp [PyData.eqvAll]
  | z :: zs, [] => by simp [PyData.eqvAll]
  | z :: zs, y :: ys => by
    show PyData.eqvAll (.str z :: zs.map PyData.str) (.str y :: ys.map PyData.str) = _
    rw [PyData.eqvAll, PyData.eqv, eqv_strs zs ys]
    by_cases h1 : z = y
    · subst h1
      by_cases h2 : zs = ys
      · subst h2; simp
      · simp [h2]
    · simp [h1]
theorem shaped_strs {zs : List Str} (h : ∀ z ∈ zs, okS z) : SeqAt.shaped (.list (zs.map PyData.str)) = true := by
  unfold SeqAt.shaped
  rw [PyData.canLay0, PyData.depth, canLay_strs h, depth_strs]
  rfl
theorem eqB_lst {S : Sto} {x y : List IV} {d e : PyData} (h1 : view 8 S (.lst x) = some d) (h2 : view 8 S (.lst y) = some e) (s1 : SeqAt.shaped d = true) (s2 : SeqAt.shaped e = true) : eqB S (.lst x) (.lst y) = some (PyData.eqv d e) := by
  show (match view 8 S (.lst x), view 8 S (.lst y) with
    | some d, some e => if SeqAt.shaped d = true ∧ SeqAt.shaped e = true then some (PyData.eqv d e) else none
    | _, _ => none) = _
  rw [h1, h2]
  show (if SeqAt.shaped d = true ∧ SeqAt.shaped e = true then some (PyData.eqv d e) else none) = _
  rw [if_pos ⟨s1, s2⟩]
theorem view_strs {S : Sto} (n : Nat) (zs : List Str) : view (n + 2) S (.lst (zs.map IV.str)) = some (.list (zs.map PyData.str)) := by
  show (viewL (view (n + 1) S) (zs.map IV.str)).map PyData.list = _
  rw [viewL_strs fun s => rfl]
  rfl
theorem eqB_strs {S : Sto} {zs ys : List Str} (hz : ∀ z ∈ zs, okS z) (hy : ∀ z ∈ ys, okS z) : eqB S (.lst (zs.map IV.str)) (.lst (ys.map IV.str)) = some (decide (zs = ys)) := by
  rw [eqB_lst (view_strs 6 zs) (view_strs 6 ys) (shaped_strs hz) (shaped_strs hy), PyData.eqv, eqv_strs]
/-! ### in a list of texts -/
theorem scVs_strs : ∀ zs : List Str, scVs (zs.map IV.str) = some (zs.map V.str)
  | [] => rfl
  | z :: zs => by
    show scVs (.str z :: zs.map IV.str) = _
    unfold scVs
    rw [scVs_strs zs]
    rfl
theorem inV_strs (s : Str) (zs : List Str) : inV (.str s) (zs.map V.str) = decide (s ∈ zs) := by
  unfold inV
  induction zs with
  | nil => rfl
  | cons z zs ih =>
    rw [List.map_cons, List.any_cons, ih]
    by_cases h : s = z
    · subst h; simp [eqV]
    · have : (z == s) = false := by simpa using fun e => h e.symm
      simp [eqV, this, h]
theorem inB_lst {S : Sto} (s : Str) (zs : List Str) : inB S (.str s) (.lst (zs.map IV.str)) = some (decide (s ∈ zs)) := by
  show ((scVs (zs.map IV.str)).map fun us => inV (.str s) us) = _
  rw [scVs_strs]
  show some (inV (.str s) (zs.map V.str)) = _
  rw [inV_strs]
theorem inB_tup {S : Sto} (s : Str) (zs : List Str) : inB S (.str s) (.tup (zs.map IV.str)) = some (decide (s ∈ zs)) := by
  show ((scVs (zs.map IV.str)).map fun us => inV (.str s) us) = _
  rw [scVs_strs]
  show some (inV (.str s) (zs.map V.str)) = _
  rw [inV_strs]
theorem inB_sg {S : Sto} (c : Nat) (z : Str) : inB S (.str ⟨#[c]⟩) (.str z) = some (decide (c ∈ sg z)) := rfl
/-! ### rangeI -/
theorem rangeI_len (lo : Int) (n : Nat) : (rangeI lo n).length = n := by simp [rangeI]
theorem chkP_true {α : Type} {p : Prop} {o : Out α} (h : p) : chkP p o = o := chkP_pos h
theorem stay_none (xs : List IV) (S : Sto) : (Src.mk xs none).stay S := trivial
end Sm

/-! the end of a law's proof -/
namespace Sm
open PySem PySem.Spec PyProof.Rows L2
section
variable {K : PySem.W.Frag} {mg : Str → Option Value} {h : Heap}
theorem loc_mk {x : Str} {st : Stmt} {ps : List Str} {f : Addr} {od an : Option Addr} {sl : Array (Option Value)} {oc kV dc pm cd ct : Value} (X : K.In h) (G : h.Ns mainGlobals mg)
    (a : PySem.W.nsIn K mainGlobals x = some (some (.ref f))) (l : K.lookup f = some ⟨oc, od, .func (PySem.W.fnOf x x (defArgs st) (defBody st) (defScope st) .none kV dc pm an cd ct), sl⟩) (c : PySem.W.codeIn K cd x = true) (k : PySem.W.keepIn K (.ref f) = true)
    (hb : ∀ (kV doc pm : Value) (an : Option Addr) (cdv ct : Value) (us : List Value), us.length = ps.length → bindArgs (PySem.W.fnOf x x (defArgs st) (defBody st) (defScope st) .none kV doc pm an cdv ct) ⟨us, []⟩ = pure (ps.zip us)) : Loc K mg x st ps :=
  have F := fun_mk (st := st) l c k
  ⟨f, _, PySem.W.mg_of X G a, F, F.binds hb⟩
theorem sloc_mk {x m qual : Str} {st : Stmt} {ps : List Str} {C p f : Addr} {od an : Option Addr} {sl : Array (Option Value)} {oc kV dc pm cd ct : Value} {rest : List Value} (X : K.In h) (G : h.Ns mainGlobals mg)
    (a : PySem.W.nsIn K mainGlobals x = some (some (.ref C))) (l : K.lookup f = some ⟨oc, od, .func (PySem.W.fnOf m qual (defArgs st) (defBody st) (defScope st) .none kV dc pm an cd ct), sl⟩) (c : PySem.W.codeIn K cd qual = true) (k : PySem.W.keepIn K (.ref f) = true)
    (ga : PySem.W.specialIn K (.ref C) "__getattribute__" = some (some (.builtin "type.__getattribute__"))) (ty : PySem.W.typeIn K (.ref C) = some (.type "type")) (rd : PySem.W.readsIn K C (.type "type") = true)
    (at_ : PySem.W.findCls K (.ref C) (.type "type") m = some (.get (.builtin "staticmethod.__get__") (.ref p) .none (.ref C))) (rc : PySem.W.recIn K p "staticmethod" = some (.ref f :: rest))
    (hb : ∀ (kV doc pm : Value) (an : Option Addr) (cdv ct : Value) (us : List Value), us.length = ps.length → bindArgs (PySem.W.fnOf m qual (defArgs st) (defBody st) (defScope st) .none kV doc pm an cdv ct) ⟨us, []⟩ = pure (ps.zip us)) : SLoc K mg x m qual st ps :=
  have F := fun_mk (st := st) l c k
  ⟨C, p, f, _, PySem.W.mg_of X G a, ⟨ga, ty, rd, at_, _, rc⟩, F, F.binds hb⟩
theorem gtup_mk {x : Str} {zs : List Str} {a : Addr} {od : Option Addr} {its : Array Value} {n : Nat} {sl : Array (Option Value)} (X : K.In h) (G : h.Ns mainGlobals mg) (ha : PySem.W.nsIn K mainGlobals x = some (some (.ref a)))
    (l : K.lookup a = some ⟨.type "tuple", od, .seq its n, sl⟩) (hz : its.size ≤ sizeLine) (v : Vals (zs.map V.str) its.toList) : GTup K mg x zs :=
  ⟨a, _, its, n, PySem.W.mg_of X G ha, l, rfl, rfl, hz, v⟩
/-- a def whose function is known -/
theorem law_mk {x y : Str} {st : Stmt} {f fa : Addr} {od an : Option Addr} {sl : Array (Option Value)} {oc kV dc pm cd ct : Value} (X : K.In h) (G : h.Ns mainGlobals mg) (hfa : mg x = some (.ref fa))
    (a : PySem.W.nsIn K mainGlobals x = some (some (.ref f))) (l : K.lookup f = some ⟨oc, od, .func (PySem.W.fnOf x x (defArgs st) (defBody st) (defScope st) .none kV dc pm an cd ct), sl⟩) (c : PySem.W.codeIn K cd x = true) (k : PySem.W.keepIn K (.ref f) = true)
    (hb : ∀ (kV doc pm : Value) (an : Option Addr) (cdv ct u : Value), bindArgs (PySem.W.fnOf x x (defArgs st) (defBody st) (defScope st) .none kV doc pm an cdv ct) ⟨[u], []⟩ = pure [(y, u)])
    {P : Program} {w : World} {n : Nat} {m : List IV → Sto → Out IV} (H : ∀ (fd : FuncData), Fun K x x st fa fd → ∀ base : Heap, K.In base → base.Ns mainGlobals mg → FnOk P w K mg base (L2.CX P w) n fa fd [y] (spM K 1 m)) :
    ∃ fd : FuncData, (∀ (s : Shared) (v : Value), BindsTo s fd ⟨[v], []⟩ [(y, v)]) ∧ ∀ base : Heap, K.In base → base.Ns mainGlobals mg → FnOk P w K mg base (L2.CX P w) n fa fd [y] (spM K 1 m) := by
  have e := hfa.symm.trans (PySem.W.mg_of X G a)
  cases e
  have F := fun_mk (st := st) l c k
  exact ⟨_, fun s v => .of_eq (hb _ _ _ _ _ _ v), H _ F⟩
end
def goodStrs : List Str → List Value → Bool
  | [], [] => true
  | z :: zs, .str x _ :: its => decide (z = x) && goodStrs zs its
  | _, _ => false
theorem vals_of_b : ∀ {zs : List Str} {its : List Value}, goodStrs zs its = true → Vals (zs.map V.str) its
  | [], [], _ => .nil
  | z :: zs, .str x t :: its, h => by
    obtain ⟨h1, h2⟩ := Bool.and_eq_true_iff.mp (show (decide (z = x) && goodStrs zs its) = true from h)
    have := of_decide_eq_true h1
    subst this
    exact .cons ⟨t, rfl⟩ (vals_of_b h2)
/-- a law's promise, from what its mirror tells of every script -/
theorem sp_law {K : PySem.W.Frag} {m : List IV → Sto → Out IV} {n : Nat} (hm : ∀ ns : List Int, ns.length ≤ n → ∃ S', m [.wls (ns.map IV.int)] [] = .ok (.bl true) S') {H : Hp} {a : Addr} {ns : List Int} (hl : ns.length ≤ n) (hS : SqL K H a (ns.map V.int)) :
    spM K 1 m [.ref a] H (fun v _ => v = .bl true) fun _ _ _ => False := by
  obtain ⟨S', e⟩ := hm ns hl
  have rl : ∀ {w : Wd} (l : List Int), RelL ⟨K, none⟩ w (l.map V.int) (l.map IV.int) := fun {w} l => by
    induction l with
    | nil => exact .nil
    | cons x l ih => exact .cons (.int x) ih
  refine ⟨rfl, ⟨[], H, fun _ => none⟩, [], [.wls (ns.map IV.int)], ?_, .one (.wls hS (rl ns)), ?_⟩
  · refine ⟨rfl, List.nodup_nil, fun n c a h => ?_, fun n a h => ?_, Same.refl _, fun b o h => ?_, fun b o h => ?_⟩
    · simp at h
    · simp at h
    · have h : (none : Option HO) = some o := h
      cases h
    · have h : (none : Option HO) = some o := h
      cases h
  · rw [e]
    intro w' H' l r v rv
    cases rv
    rfl
end Sm

set_option maxHeartbeats 4000000
namespace K01
open PySem PySem.Spec PyProof.Rows L2 Sm
def topS (i : Nat) : Stmt := PySem.Challenge.pw_patchedplaces_k01_names.main.body.getD i (.Pass ⟨0, 0, 0, 0⟩)
def c_LETTERS : Str := "abcdefghijklmnopqrstuvwxyz"
def c_KEYWORDS : List Str := ["ahead", "all", "as", "at", "call", "class", "def", "either", "end", "for", "from", "\x69mport", "keep", "module", "none", "often", "once", "or", "outside", "patch", "set", "stand", "start", "stop", "table", "test", "using", "with"]
section
variable {P : Program} {w : World} {K : PySem.W.Frag} {mg : Str → Option Value} {base : Heap}
abbrev s_is_word : Stmt := topS 9
abbrev n_is_word : List Str := ["text", "char"]
theorem sc_is_word : FnScope n_is_word ["text"] (defScope s_is_word) := ⟨rfl, rfl, rfl, by decide +kernel, rfl, by decide +kernel, by decide +kernel⟩
noncomputable def b_is_word : IS := (iSeq (iIf (iOr (iNot (iTru (iCa fIsi (iCons (iVar 0) (iCons (iC (.ty "str")) iNil))))) (iNot (iTest (iChain fLe fLe (iC (.int 1)) (iCa fLen (iCons (iVar 0) iNil)) (iC (.int 8)))))) (iRet (iC (.bl false))) iNext) (iSeq (iFor (iSrcS (iVar 0)) (iName 1) (iIf (iTest (iBin fNotIn (iVar 1) (iC (.str c_LETTERS)))) (iRet (iC (.bl false))) iNext)) (iRet (iC (.bl true)))))
noncomputable def m_is_word : List IV → Sto → Out IV := mDef 2 b_is_word
theorem ok_is_word {tk_LETTERS : Tok} (L : Loc K mg "is_word" s_is_word ["text"]) (gs_LETTERS : mg "LETTERS" = some (.str c_LETTERS tk_LETTERS)) (z_str : mg "str" = none) (z_isinstance : mg "isinstance" = none) (z_len : mg "len" = none) : Cal P w K mg base "is_word" 1 ["text"] m_is_word :=
  cal_def (N := n_is_word) L sc_is_word fun f cdv A outer s H E hr tk po => (dss_cons (ds_if (dt_w (dw_or (dt_not (dt_tru (de_cb call_isi cs_isi z_isinstance (by decide +kernel) (da_cons (de_var 0) (da_cons (de_ty z_str (by decide +kernel)) da_nil))))) (dw_or1 (dt_not (dt_chain op_le os_B op_le os_B de_int (de_cb call_len cs_len z_len (by decide +kernel) (da_cons (de_var 0) da_nil)) de_int))))) (dss_one (ds_ret de_bl)) dss_nil) (dss_cons (ds_for po rfl (di_str (de_var 0)) (dg_name 1 sc_is_word.nd) (dss_one (ds_if (dt_cmp op_notInA os_notIn (de_var 1) (de_gstr gs_LETTERS)) (dss_one (ds_ret de_bl)) dss_nil))) (dss_one (ds_ret de_bl))))
abbrev s_name_fits : Stmt := topS 10
abbrev n_name_fits : List Str := ["text"]
theorem sc_name_fits : FnScope n_name_fits ["text"] (defScope s_name_fits) := ⟨rfl, rfl, rfl, by decide +kernel, rfl, by decide +kernel, by decide +kernel⟩
noncomputable def b_name_fits : IS := (iRet (iAndV (iCall 1 m_is_word (iCons (iVar 0) iNil)) (iBin fNotIn (iVar 0) (iC (.tup (c_KEYWORDS.map IV.str))))))
noncomputable def m_name_fits : List IV → Sto → Out IV := mDef 1 b_name_fits
theorem ok_name_fits  (L : Loc K mg "name_fits" s_name_fits ["text"]) (gt_KEYWORDS : GTup K mg "KEYWORDS" c_KEYWORDS) (c_is_word : Cal P w K mg base "is_word" 1 ["text"] m_is_word) : Cal P w K mg base "name_fits" 2 ["text"] m_name_fits :=
  cal_def (N := n_name_fits) L sc_name_fits fun f cdv A outer s H E hr tk po => (dss_one (ds_ret (de_and (de_callC c_is_word tk (hr.mono (by decide)) (da_cons (de_var 0) da_nil)) (de_one (de_cmp op_notInA os_notIn (de_var 0) (de_gtupC gt_KEYWORDS))))))
abbrev s_Project_is_name : Stmt := inClass (topS 23) 5
abbrev n_Project_is_name : List Str := ["text"]
theorem sc_Project_is_name : FnScope n_Project_is_name ["text"] (defScope s_Project_is_name) := ⟨rfl, rfl, rfl, by decide +kernel, rfl, by decide +kernel, by decide +kernel⟩
noncomputable def b_Project_is_name : IS := (iRet (iCall 1 m_name_fits (iCons (iVar 0) iNil)))
noncomputable def m_Project_is_name : List IV → Sto → Out IV := mDef 1 b_Project_is_name
theorem ok_Project_is_name  (L : SLoc K mg "Project" "is_name" "Project.is_name" s_Project_is_name ["text"]) (c_name_fits : Cal P w K mg base "name_fits" 2 ["text"] m_name_fits) : SCal P w K mg base "Project" "is_name" 3 ["text"] m_Project_is_name :=
  scal_def (N := n_Project_is_name) L sc_Project_is_name fun f cdv A outer s H E hr tk po => (dss_one (ds_ret (de_callC c_name_fits tk (hr.mono (by decide)) (da_cons (de_var 0) da_nil))))
abbrev s__law_source : Stmt := topS 25
abbrev n__law_source : List Str := ["_law_script", "_law_place", "_law_cell", "_law_digits"]
theorem sc__law_source : FnScope n__law_source ["_law_script", "_law_place"] (defScope s__law_source) := ⟨rfl, rfl, rfl, by decide +kernel, rfl, by decide +kernel, by decide +kernel⟩
noncomputable def b__law_source : IS := (iSeq (iSet 2 (iIf (iTest (iBin fLt (iVar 1) (iCa fLen (iCons (iVar 0) iNil)))) (iBin fIx (iVar 0) (iVar 1)) (iC (.int 0)))) (iSeq (iSet 3 (iIf (iTest (iBin fGe (iCa fAbs (iCons (iVar 2) iNil)) (iBin fPow (iC (.int 10)) (iC (.int 18))))) (iCa fAbs (iCons (iVar 2) iNil)) (iC (.int 0)))) (iRet (iLst true (iCons (iVar 3) (iCons (iBin fAdd (iBin fAdd (iBin fMod (iCa fInt (iCons (iVar 2) iNil)) (iC (.int 2147483587))) (iBin fMul (iC (.int 7919)) (iVar 1))) (iC (.int 11))) (iCons (iC (.int 0)) iNil)))))))
noncomputable def m__law_source : List IV → Sto → Out IV := mDef 4 b__law_source
theorem ok__law_source  (L : Loc K mg "_law_source" s__law_source ["_law_script", "_law_place"]) (z_int : mg "int" = none) (z_abs : mg "abs" = none) (z_len : mg "len" = none) : Cal P w K mg base "_law_source" 1 ["_law_script", "_law_place"] m__law_source :=
  cal_def (N := n__law_source) L sc__law_source fun f cdv A outer s H E hr tk po => (dss_cons (ds_set 2 sc__law_source.nd (de_if (dt_cmp op_lt os_B (de_var 1) (de_cb call_len cs_len z_len (by decide +kernel) (da_cons (de_var 0) da_nil))) (de_ix (de_var 0) (de_var 1)) de_int)) (dss_cons (ds_set 3 sc__law_source.nd (de_if (dt_cmp op_ge os_B (de_cb call_abs cs_abs z_abs (by decide +kernel) (da_cons (de_var 2) da_nil)) (de_bin op_pow os_I de_int de_int)) (de_cb call_abs cs_abs z_abs (by decide +kernel) (da_cons (de_var 2) da_nil)) de_int)) (dss_one (ds_ret (de_lst true (da_cons (de_var 3) (da_cons (de_bin op_addA os_add (de_bin op_addA os_add (de_bin op_mod os_I (de_ct call_int1 cs_int z_int (by decide +kernel) (da_cons (de_var 2) da_nil)) de_int) (de_bin op_mul os_I de_int (de_var 1))) de_int) (da_cons de_int da_nil))))))))
abbrev s__law_draw : Stmt := topS 26
abbrev n__law_draw : List Str := ["_law_s", "_law_many", "_law_digit", "_law_high"]
theorem sc__law_draw : FnScope n__law_draw ["_law_s", "_law_many"] (defScope s__law_draw) := ⟨rfl, rfl, rfl, by decide +kernel, rfl, by decide +kernel, by decide +kernel⟩
noncomputable def b__law_draw : IS := (iSeq (iIf (iTest (iBin fGt (iBin fIx (iVar 0) (iC (.int 0))) (iC (.int 0)))) (iSeq (iSet 2 (iBin fMod (iCa fInt (iCons (iBin fIx (iVar 0) (iC (.int 0))) iNil)) (iVar 1))) (iSeq (iAsg (iBin fDiv (iBin fIx (iVar 0) (iC (.int 0))) (iVar 1)) (iGSub (iVar 0) (iC (.int 0)))) (iRet (iVar 2)))) iNext) (iSeq (iAsg (iBin fAdd (iBin fIx (iVar 0) (iC (.int 2))) (iC (.int 1))) (iGSub (iVar 0) (iC (.int 2)))) (iSeq (iAsg (iBin fMod (iCa fInt (iCons (iBin fAdd (iBin fAdd (iBin fMul (iBin fIx (iVar 0) (iC (.int 1))) (iC (.int 39373))) (iBin fMul (iBin fMul (iBin fIx (iVar 0) (iC (.int 2))) (iBin fIx (iVar 0) (iC (.int 2)))) (iC (.int 30011)))) (iC (.int 1013))) iNil)) (iC (.int 2147483563))) (iGSub (iVar 0) (iC (.int 1)))) (iSeq (iSet 3 (iBin fDiv (iBin fIx (iVar 0) (iC (.int 1))) (iC (.int 128)))) (iRet (iBin fMod (iBin fMod (iCa fInt (iCons (iBin fAdd (iBin fMul (iVar 3) (iVar 3)) (iBin fIx (iVar 0) (iC (.int 1)))) iNil)) (iC (.int 2147399993))) (iVar 1)))))))
noncomputable def m__law_draw : List IV → Sto → Out IV := mDef 4 b__law_draw
theorem ok__law_draw  (L : Loc K mg "_law_draw" s__law_draw ["_law_s", "_law_many"]) (z_int : mg "int" = none) : Cal P w K mg base "_law_draw" 1 ["_law_s", "_law_many"] m__law_draw :=
  cal_def (N := n__law_draw) L sc__law_draw fun f cdv A outer s H E hr tk po => (dss_cons (ds_if (dt_cmp op_gt os_B (de_ix (de_var 0) de_int) de_int) (dss_cons (ds_set 2 sc__law_draw.nd (de_bin op_mod os_I (de_ct call_int1 cs_int z_int (by decide +kernel) (da_cons (de_ix (de_var 0) de_int) da_nil)) (de_var 1))) (dss_cons (ds_asg (de_bin op_fdiv os_I (de_ix (de_var 0) de_int) (de_var 1)) (dg_sub (de_var 0) de_int)) (dss_one (ds_ret (de_var 2))))) dss_nil) (dss_cons (ds_asg (de_bin op_addA os_add (de_ix (de_var 0) de_int) de_int) (dg_sub (de_var 0) de_int)) (dss_cons (ds_asg (de_bin op_mod os_I (de_ct call_int1 cs_int z_int (by decide +kernel) (da_cons (de_bin op_addA os_add (de_bin op_addA os_add (de_bin op_mul os_I (de_ix (de_var 0) de_int) de_int) (de_bin op_mul os_I (de_bin op_mul os_I (de_ix (de_var 0) de_int) (de_ix (de_var 0) de_int)) de_int)) de_int) da_nil)) de_int) (dg_sub (de_var 0) de_int)) (dss_cons (ds_set 3 sc__law_draw.nd (de_bin op_fdiv os_I (de_ix (de_var 0) de_int) de_int)) (dss_one (ds_ret (de_bin op_mod os_I (de_bin op_mod os_I (de_ct call_int1 cs_int z_int (by decide +kernel) (da_cons (de_bin op_addA os_add (de_bin op_mul os_I (de_var 3) (de_var 3)) (de_ix (de_var 0) de_int)) da_nil)) de_int) (de_var 1))))))))
abbrev s__law_kept : Stmt := topS 27
abbrev n__law_kept : List Str := ["_law_kept_here"]
theorem sc__law_kept : FnScope n__law_kept [] (defScope s__law_kept) := ⟨rfl, rfl, rfl, by decide +kernel, rfl, by decide +kernel, by decide +kernel⟩
noncomputable def b__law_kept : IS := (iSeq (iSet 0 (iLst false (iCons (iC (.str "ahead")) (iCons (iC (.str "all")) (iCons (iC (.str "as")) (iCons (iC (.str "at")) (iCons (iC (.str "call")) (iCons (iC (.str "class")) (iCons (iC (.str "def")) (iCons (iC (.str "either")) (iCons (iC (.str "end")) (iCons (iC (.str "for")) (iCons (iC (.str "from")) iNil))))))))))))) (iSeq (iSet 0 (iBin fAdd (iVar 0) (iLst false (iCons (iC (.str "\x69mport")) (iCons (iC (.str "keep")) (iCons (iC (.str "module")) (iCons (iC (.str "none")) (iCons (iC (.str "often")) (iCons (iC (.str "once")) (iCons (iC (.str "or")) (iCons (iC (.str "outside")) (iCons (iC (.str "patch")) iNil)))))))))))) (iRet (iBin fAdd (iVar 0) (iLst false (iCons (iC (.str "set")) (iCons (iC (.str "stand")) (iCons (iC (.str "start")) (iCons (iC (.str "stop")) (iCons (iC (.str "table")) (iCons (iC (.str "test")) (iCons (iC (.str "using")) (iCons (iC (.str "with")) iNil)))))))))))))
noncomputable def m__law_kept : List IV → Sto → Out IV := mDef 1 b__law_kept
theorem ok__law_kept  (L : Loc K mg "_law_kept" s__law_kept [])  : Cal P w K mg base "_law_kept" 1 [] m__law_kept :=
  cal_def (N := n__law_kept) L sc__law_kept fun f cdv A outer s H E hr tk po => (dss_cons (ds_set 0 sc__law_kept.nd (de_lst false (da_cons de_str (da_cons de_str (da_cons de_str (da_cons de_str (da_cons de_str (da_cons de_str (da_cons de_str (da_cons de_str (da_cons de_str (da_cons de_str (da_cons de_str da_nil))))))))))))) (dss_cons (ds_set 0 sc__law_kept.nd (de_bin op_addA os_add (de_var 0) (de_lst false (da_cons de_str (da_cons de_str (da_cons de_str (da_cons de_str (da_cons de_str (da_cons de_str (da_cons de_str (da_cons de_str (da_cons de_str da_nil)))))))))))) (dss_one (ds_ret (de_bin op_addA os_add (de_var 0) (de_lst false (da_cons de_str (da_cons de_str (da_cons de_str (da_cons de_str (da_cons de_str (da_cons de_str (da_cons de_str (da_cons de_str da_nil))))))))))))))
abbrev s__law_letters : Stmt := topS 28
abbrev n__law_letters : List Str := ["_law_s", "_law_size", "_law_letters_here", "_law_k"]
theorem sc__law_letters : FnScope n__law_letters ["_law_s", "_law_size"] (defScope s__law_letters) := ⟨rfl, rfl, rfl, by decide +kernel, rfl, by decide +kernel, by decide +kernel⟩
noncomputable def b__law_letters : IS := (iSeq (iSet 2 (iC (.str "abcdefghijklmnopqrstuvwxyz"))) (iRet (iBM "str" fJoin (iC (.str "")) (iCons (iLc false (iSrcR1 (iVar 1)) (giN 3) iYes (iBin fIx (iVar 2) (iCall 2 m__law_draw (iCons (iVar 0) (iCons (iC (.int 26)) iNil)))) [3]) iNil))))
noncomputable def m__law_letters : List IV → Sto → Out IV := mDef 4 b__law_letters
theorem ok__law_letters  (L : Loc K mg "_law_letters" s__law_letters ["_law_s", "_law_size"]) (z_range : mg "range" = none) (c__law_draw : Cal P w K mg base "_law_draw" 1 ["_law_s", "_law_many"] m__law_draw) : Cal P w K mg base "_law_letters" 2 ["_law_s", "_law_size"] m__law_letters :=
  cal_def (N := n__law_letters) L sc__law_letters fun f cdv A outer s H E hr tk po => (dss_cons (ds_set 2 sc__law_letters.nd de_str) (dss_one (ds_ret (de_bm PySem.F.plainAttrs_str PySem.F.slot_str_join PySem.F.type_str_join mt_join ms_join de_str (da_cons (de_lc (own := [("_law_k", 3)]) false rfl sc__law_letters.nd (di_range1 z_range (da_cons (de_var 1) da_nil)) (blkOk_by (own := [("_law_k", 3)]) (N := n__law_letters) (sc := defScope s__law_letters) (by decide +kernel)) (fun _ _ _ _ _ => pg_name (i := 3) sc__law_letters.nd rfl (Or.inl rfl)) (gc_name (by decide)) (fun _ _ _ _ _ => dts_nil) (fun _ _ _ _ _ => (de_ix (de_var 2) (de_callC c__law_draw takesW0 (hr.mono (by decide)) (da_cons (de_var 0) (da_cons de_int da_nil)))))) da_nil)))))
abbrev s__law_signs : Stmt := topS 29
abbrev n__law_signs : List Str := ["_law_signs_here"]
theorem sc__law_signs : FnScope n__law_signs [] (defScope s__law_signs) := ⟨rfl, rfl, rfl, by decide +kernel, rfl, by decide +kernel, by decide +kernel⟩
noncomputable def b__law_signs : IS := (iSeq (iSet 0 (iC (.str " !\"#$&'()*+,-./0123456789:;<=>?@ABCDEFGHIJKLMNOPQRSTUVWXYZ[\\]^_"))) (iRet (iBin fAdd (iVar 0) (iC (.str "`abcdefghijklmnopqrstuvwxyz{|}~\n")))))
noncomputable def m__law_signs : List IV → Sto → Out IV := mDef 1 b__law_signs
theorem ok__law_signs  (L : Loc K mg "_law_signs" s__law_signs [])  : Cal P w K mg base "_law_signs" 1 [] m__law_signs :=
  cal_def (N := n__law_signs) L sc__law_signs fun f cdv A outer s H E hr tk po => (dss_cons (ds_set 0 sc__law_signs.nd de_str) (dss_one (ds_ret (de_bin op_addA os_add (de_var 0) de_str))))
abbrev s__law_value : Stmt := topS 30
abbrev n__law_value : List Str := ["_law_s", "_law_kind", "_law_word", "_law_at", "_law_turned"]
theorem sc__law_value : FnScope n__law_value ["_law_s"] (defScope s__law_value) := ⟨rfl, rfl, rfl, by decide +kernel, rfl, by decide +kernel, by decide +kernel⟩
noncomputable def b__law_value : IS := (iSeq (iSet 1 (iCall 2 m__law_draw (iCons (iVar 0) (iCons (iC (.int 6)) iNil)))) (iSeq (iIf (iTest (iBin fEq (iVar 1) (iC (.int 0)))) (iRet (iCall 2 m__law_letters (iCons (iVar 0) (iCons (iCall 2 m__law_draw (iCons (iVar 0) (iCons (iC (.int 10)) iNil))) iNil)))) iNext) (iSeq (iIf (iTest (iBin fEq (iVar 1) (iC (.int 1)))) (iSeq (iSet 2 (iBin fIx (iCall0 m__law_kept) (iCall 2 m__law_draw (iCons (iVar 0) (iCons (iC (.int 28)) iNil))))) (iSeq (iSet 3 (iCall 2 m__law_draw (iCons (iVar 0) (iCons (iBin fAdd (iCa fLen (iCons (iVar 2) iNil)) (iC (.int 1))) iNil)))) (iSeq (iSet 4 (iCall 2 m__law_draw (iCons (iVar 0) (iCons (iC (.int 3)) iNil)))) (iSeq (iIf (iTest (iBin fEq (iVar 4) (iC (.int 0)))) (iRet (iVar 2)) iNext) (iRet (iBin fAdd (iBin fAdd (iSl false (iVar 2) iNoPart (iPart (iVar 3))) (iCall 2 m__law_letters (iCons (iVar 0) (iCons (iC (.int 1)) iNil)))) (iSl false (iVar 2) (iPart (iBin fSub (iBin fAdd (iVar 3) (iVar 4)) (iC (.int 1)))) iNoPart))))))) iNext) (iSeq (iIf (iTest (iBin fEq (iVar 1) (iC (.int 2)))) (iSeq (iSet 2 (iCall 2 m__law_letters (iCons (iVar 0) (iCons (iBin fAdd (iC (.int 1)) (iCall 2 m__law_draw (iCons (iVar 0) (iCons (iC (.int 8)) iNil)))) iNil)))) (iSeq (iSet 3 (iCall 2 m__law_draw (iCons (iVar 0) (iCons (iCa fLen (iCons (iVar 2) iNil)) iNil)))) (iRet (iBin fAdd (iBin fAdd (iSl false (iVar 2) iNoPart (iPart (iVar 3))) (iBin fIx (iCall0 m__law_signs) (iCall 2 m__law_draw (iCons (iVar 0) (iCons (iC (.int 95)) iNil))))) (iSl false (iVar 2) (iPart (iBin fAdd (iVar 3) (iC (.int 1)))) iNoPart))))) iNext) (iSeq (iIf (iTest (iBin fEq (iVar 1) (iC (.int 3)))) (iRet (iCall 2 m__law_letters (iCons (iVar 0) (iCons (iCall 2 m__law_draw (iCons (iVar 0) (iCons (iC (.int 41)) iNil))) iNil)))) iNext) (iSeq (iSet 2 (iCall 2 m__law_letters (iCons (iVar 0) (iCons (iBin fAdd (iC (.int 1)) (iCall 2 m__law_draw (iCons (iVar 0) (iCons (iC (.int 8)) iNil)))) iNil)))) (iRet (iBin fIx (iLst false (iCons (iVar 2) (iCons (iC .non) (iCons (iC (.bl true)) (iCons (iC (.int 7)) (iCons (iLst false (iCons (iVar 2) iNil)) (iCons (iTup (iCons (iVar 2) iNil)) (iCons (iLst false iNil) (iCons (iC (.str "")) (iCons (iLst false (iCons (iLst false (iCons (iVar 2) iNil)) (iCons (iC (.int 0)) iNil))) iNil)))))))))) (iCall 2 m__law_draw (iCons (iVar 0) (iCons (iC (.int 9)) iNil)))))))))))
noncomputable def m__law_value : List IV → Sto → Out IV := mDef 5 b__law_value
theorem ok__law_value  (L : Loc K mg "_law_value" s__law_value ["_law_s"]) (z_len : mg "len" = none) (c__law_draw : Cal P w K mg base "_law_draw" 1 ["_law_s", "_law_many"] m__law_draw) (c__law_letters : Cal P w K mg base "_law_letters" 2 ["_law_s", "_law_size"] m__law_letters) (c__law_signs : Cal P w K mg base "_law_signs" 1 [] m__law_signs) (c__law_kept : Cal P w K mg base "_law_kept" 1 [] m__law_kept) : Cal P w K mg base "_law_value" 3 ["_law_s"] m__law_value :=
  cal_def (N := n__law_value) L sc__law_value fun f cdv A outer s H E hr tk po => (dss_cons (ds_set 1 sc__law_value.nd (de_callC c__law_draw tk (hr.mono (by decide)) (da_cons (de_var 0) (da_cons de_int da_nil)))) (dss_cons (ds_if (dt_cmp (op_eqA hr.units) os_eq (de_var 1) de_int) (dss_one (ds_ret (de_callC c__law_letters tk (hr.mono (by decide)) (da_cons (de_var 0) (da_cons (de_callC c__law_draw tk (hr.mono (by decide)) (da_cons (de_var 0) (da_cons de_int da_nil))) da_nil))))) dss_nil) (dss_cons (ds_if (dt_cmp (op_eqA hr.units) os_eq (de_var 1) de_int) (dss_cons (ds_set 2 sc__law_value.nd (de_ix (de_callC0 c__law_kept tk (hr.mono (by decide))) (de_callC c__law_draw tk (hr.mono (by decide)) (da_cons (de_var 0) (da_cons de_int da_nil))))) (dss_cons (ds_set 3 sc__law_value.nd (de_callC c__law_draw tk (hr.mono (by decide)) (da_cons (de_var 0) (da_cons (de_bin op_addA os_add (de_cb call_len cs_len z_len (by decide +kernel) (da_cons (de_var 2) da_nil)) de_int) da_nil)))) (dss_cons (ds_set 4 sc__law_value.nd (de_callC c__law_draw tk (hr.mono (by decide)) (da_cons (de_var 0) (da_cons de_int da_nil)))) (dss_cons (ds_if (dt_cmp (op_eqA hr.units) os_eq (de_var 4) de_int) (dss_one (ds_ret (de_var 2))) dss_nil) (dss_one (ds_ret (de_bin op_addA os_add (de_bin op_addA os_add (de_slice false (de_var 2) do_none (do_some (de_var 3))) (de_callC c__law_letters tk (hr.mono (by decide)) (da_cons (de_var 0) (da_cons de_int da_nil)))) (de_slice false (de_var 2) (do_some (de_bin op_subT os_I (de_bin op_addA os_add (de_var 3) (de_var 4)) de_int)) do_none)))))))) dss_nil) (dss_cons (ds_if (dt_cmp (op_eqA hr.units) os_eq (de_var 1) de_int) (dss_cons (ds_set 2 sc__law_value.nd (de_callC c__law_letters tk (hr.mono (by decide)) (da_cons (de_var 0) (da_cons (de_bin op_addA os_add de_int (de_callC c__law_draw tk (hr.mono (by decide)) (da_cons (de_var 0) (da_cons de_int da_nil)))) da_nil)))) (dss_cons (ds_set 3 sc__law_value.nd (de_callC c__law_draw tk (hr.mono (by decide)) (da_cons (de_var 0) (da_cons (de_cb call_len cs_len z_len (by decide +kernel) (da_cons (de_var 2) da_nil)) da_nil)))) (dss_one (ds_ret (de_bin op_addA os_add (de_bin op_addA os_add (de_slice false (de_var 2) do_none (do_some (de_var 3))) (de_ix (de_callC0 c__law_signs tk (hr.mono (by decide))) (de_callC c__law_draw tk (hr.mono (by decide)) (da_cons (de_var 0) (da_cons de_int da_nil))))) (de_slice false (de_var 2) (do_some (de_bin op_addA os_add (de_var 3) de_int)) do_none)))))) dss_nil) (dss_cons (ds_if (dt_cmp (op_eqA hr.units) os_eq (de_var 1) de_int) (dss_one (ds_ret (de_callC c__law_letters tk (hr.mono (by decide)) (da_cons (de_var 0) (da_cons (de_callC c__law_draw tk (hr.mono (by decide)) (da_cons (de_var 0) (da_cons de_int da_nil))) da_nil))))) dss_nil) (dss_cons (ds_set 2 sc__law_value.nd (de_callC c__law_letters tk (hr.mono (by decide)) (da_cons (de_var 0) (da_cons (de_bin op_addA os_add de_int (de_callC c__law_draw tk (hr.mono (by decide)) (da_cons (de_var 0) (da_cons de_int da_nil)))) da_nil)))) (dss_one (ds_ret (de_ix (de_lst false (da_cons (de_var 2) (da_cons de_non (da_cons de_bl (da_cons de_int (da_cons (de_lst false (da_cons (de_var 2) da_nil)) (da_cons (de_tup (da_cons (de_var 2) da_nil)) (da_cons (de_lst false da_nil) (da_cons de_str (da_cons (de_lst false (da_cons (de_lst false (da_cons (de_var 2) da_nil)) (da_cons de_int da_nil))) da_nil)))))))))) (de_callC c__law_draw tk (hr.mono (by decide)) (da_cons (de_var 0) (da_cons de_int da_nil))))))))))))
abbrev s__law_due : Stmt := topS 31
abbrev n__law_due : List Str := ["_law_value_here", "_law_wrong", "_law_sign"]
theorem sc__law_due : FnScope n__law_due ["_law_value_here"] (defScope s__law_due) := ⟨rfl, rfl, rfl, by decide +kernel, rfl, by decide +kernel, by decide +kernel⟩
noncomputable def b__law_due : IS := (iSeq (iIf (iOr (iNot (iTru (iCa fIsi (iCons (iVar 0) (iCons (iC (.ty "str")) iNil))))) (iNot (iTest (iChain fLe fLe (iC (.int 1)) (iCa fLen (iCons (iVar 0) iNil)) (iC (.int 8)))))) (iRet (iC (.bl false))) iNext) (iSeq (iSet 1 (iLc false (iSrcS (iVar 0)) (giN 2) (iTest (iBin fNotIn (iVar 2) (iC (.str "abcdefghijklmnopqrstuvwxyz")))) (iVar 2) [2])) (iRet (iAndV (iBin fEq (iVar 1) (iLst false iNil)) (iBin fNotIn (iVar 0) (iCall0 m__law_kept))))))
noncomputable def m__law_due : List IV → Sto → Out IV := mDef 3 b__law_due
theorem ok__law_due  (L : Loc K mg "_law_due" s__law_due ["_law_value_here"]) (z_str : mg "str" = none) (z_isinstance : mg "isinstance" = none) (z_len : mg "len" = none) (c__law_kept : Cal P w K mg base "_law_kept" 1 [] m__law_kept) : Cal P w K mg base "_law_due" 2 ["_law_value_here"] m__law_due :=
  cal_def (N := n__law_due) L sc__law_due fun f cdv A outer s H E hr tk po => (dss_cons (ds_if (dt_w (dw_or (dt_not (dt_tru (de_cb call_isi cs_isi z_isinstance (by decide +kernel) (da_cons (de_var 0) (da_cons (de_ty z_str (by decide +kernel)) da_nil))))) (dw_or1 (dt_not (dt_chain op_le os_B op_le os_B de_int (de_cb call_len cs_len z_len (by decide +kernel) (da_cons (de_var 0) da_nil)) de_int))))) (dss_one (ds_ret de_bl)) dss_nil) (dss_cons (ds_setLc (own := [("_law_sign", 2)]) false 1 rfl sc__law_due.nd (di_str (de_var 0)) (blkOk_by (own := [("_law_sign", 2)]) (N := n__law_due) (sc := defScope s__law_due) (by decide +kernel)) (fun _ _ _ _ _ => pg_name (i := 2) sc__law_due.nd rfl (Or.inl rfl)) (gc_name (by decide)) (fun _ _ _ _ _ => dts_one (dt_cmp op_notInA os_notIn (de_var 2) de_str)) (fun _ _ _ _ _ => (de_var 2))) (dss_one (ds_ret (de_and (de_cmp (op_eqA hr.units) os_eq (de_var 1) (de_lst false da_nil)) (de_one (de_cmp op_notInA os_notIn (de_var 0) (de_callC0 c__law_kept tk (hr.mono (by decide))))))))))
abbrev s_law : Stmt := topS 32
abbrev n_law : List Str := ["_law_script", "_law_place", "_law_value_here", "_law_told"]
theorem sc_law : FnScope n_law ["_law_script"] (defScope s_law) := ⟨rfl, rfl, rfl, by decide +kernel, rfl, by decide +kernel, by decide +kernel⟩
noncomputable def b_law : IS := (iSeq (iFor (iSrcR1 (iCa fMax2 (iCons (iC (.int 1)) (iCons (iCa fMin2 (iCons (iC (.int 63)) (iCons (iCa fLen (iCons (iVar 0) iNil)) iNil))) iNil)))) (iName 1) (iSeq (iSet 2 (iCall 1 m__law_value (iCons (iCall 2 m__law_source (iCons (iVar 0) (iCons (iVar 1) iNil))) iNil))) (iSeq (iSet 3 (iCall 1 m_Project_is_name (iCons (iVar 2) iNil))) (iIf (iOr (iNot (iTru (iCa fIsi (iCons (iVar 3) (iCons (iC (.ty "bool")) iNil))))) (iTest (iBin fNe (iVar 3) (iCall 1 m__law_due (iCons (iVar 2) iNil))))) (iRet (iC (.bl false))) iNext)))) (iRet (iC (.bl true))))
noncomputable def m_law : List IV → Sto → Out IV := mDef 4 b_law
theorem ok_law  {f : Addr} {fd : FuncData} (F : Fun K "law" "law" s_law f fd) (z_range : mg "range" = none) (z_len : mg "len" = none) (z_min : mg "min" = none) (z_max : mg "max" = none) (z_bool : mg "bool" = none) (z_isinstance : mg "isinstance" = none) (c__law_due : Cal P w K mg base "_law_due" 2 ["_law_value_here"] m__law_due) (c_Project_is_name : SCal P w K mg base "Project" "is_name" 3 ["text"] m_Project_is_name) (c__law_source : Cal P w K mg base "_law_source" 1 ["_law_script", "_law_place"] m__law_source) (c__law_value : Cal P w K mg base "_law_value" 3 ["_law_s"] m__law_value) : FnOk P w K mg base (L2.CX P w) 4 f fd ["_law_script"] (spM K 1 m_law) :=
  ok_def (N := n_law) F sc_law fun cdv A outer s H E hr tk po => (dss_cons (ds_for po rfl (di_range1 z_range (da_cons (de_cb (call_max2 rfl) cs_max2 z_max (by decide +kernel) (da_cons de_int (da_cons (de_cb (call_min2 rfl) cs_min2 z_min (by decide +kernel) (da_cons de_int (da_cons (de_cb call_len cs_len z_len (by decide +kernel) (da_cons (de_var 0) da_nil)) da_nil))) da_nil))) da_nil)) (dg_name 1 sc_law.nd) (dss_cons (ds_set 2 sc_law.nd (de_callC c__law_value tk (hr.mono (by decide)) (da_cons (de_callC c__law_source tk (hr.mono (by decide)) (da_cons (de_var 0) (da_cons (de_var 1) da_nil))) da_nil))) (dss_cons (ds_set 3 sc_law.nd (de_scal c_Project_is_name tk (hr.mono (by decide)) (da_cons (de_var 2) da_nil))) (dss_one (ds_if (dt_w (dw_or (dt_not (dt_tru (de_cb call_isi cs_isi z_isinstance (by decide +kernel) (da_cons (de_var 3) (da_cons (de_ty z_bool (by decide +kernel)) da_nil))))) (dw_or1 (dt_cmp (op_neA hr.units) os_ne (de_var 3) (de_callC c__law_due tk (hr.mono (by decide)) (da_cons (de_var 2) da_nil)))))) (dss_one (ds_ret de_bl)) dss_nil))))) (dss_one (ds_ret de_bl)))
end
end K01

set_option maxHeartbeats 1000000
namespace K01
open PySem PySem.Spec PyProof.Rows L2 Sm
/-- the draws' state -/
def Dr (S : Sto) (n : Nat) (N : Nat) : Prop := ∃ a b c : Int, S[n]? = some (.lst [.int a, .int b, .int c]) ∧ 0 ≤ c ∧ c ≤ N
theorem szl : (sizeLine : Nat) = 16777216 := sizeLine_eq
theorem draw_ok {S : Sto} {n N : Nat} {m : Int} (h : Dr S n N) (hN : N ≤ 1000000) (h0 : 0 < m) (h1 : m < 1073741824) :
    ∃ r S', m__law_draw [.adr n, .int m] S = .ok (.int r) S' ∧ 0 ≤ r ∧ r < m ∧ Dr S' n (N + 1) ∧ S'.length = S.length := by
  obtain ⟨a, b, c, e, c0, c1⟩ := h
  have hn : n < S.length := (List.getElem?_eq_some_iff.mp e).1
  have hd : CDiv a m := ⟨h0, h1⟩
  unfold m__law_draw
  by_cases ha : 0 < a
  · refine ⟨a % m, S.set n (.lst [.int (a / m), .int b, .int c]), mDef_rt ?_, Int.emod_nonneg _ (by omega), Int.emod_lt_of_pos _ h0, ⟨_, _, _, List.getElem?_set_self hn, c0, by omega⟩, by simp⟩
    unfold b__law_draw
    simp [iVar_s, fIx_a e, ha, chk_pos, h0, hd, onL_s e]
  · have q1 : ∀ x : Int, (x * 39373 + (c + 1) * (c + 1) * 30011 + 1013) % 2147483563 < 2147483563 := fun x => Int.emod_lt_of_pos _ (by omega)
    have q0 : ∀ x : Int, 0 ≤ (x * 39373 + (c + 1) * (c + 1) * 30011 + 1013) % 2147483563 := fun x => Int.emod_nonneg _ (by omega)
    generalize hy : (b * 39373 + (c + 1) * (c + 1) * 30011 + 1013) % 2147483563 = y
    have y1 : y < 2147483563 := hy ▸ q1 b
    have y0 : 0 ≤ y := hy ▸ q0 b
    have k1 : CMul b 39373 := .inr ⟨by decide, by decide⟩
    have k2 : CMul (c + 1) (c + 1) := .inl ⟨by omega, by omega⟩
    have k3 : CMul ((c + 1) * (c + 1)) 30011 := .inr ⟨by decide, by decide⟩
    have k4 : CDiv y 128 := ⟨by decide, by decide⟩
    have k5 : CMul (y / 128) (y / 128) := .inl ⟨by omega, by omega⟩
    refine ⟨(y / 128 * (y / 128) + y) % 2147399993 % m, S.set n (.lst [.int a, .int y, .int (c + 1)]), mDef_rt ?_, Int.emod_nonneg _ (by omega), Int.emod_lt_of_pos _ h0, ⟨_, _, _, List.getElem?_set_self hn, by omega, by omega⟩, by simp⟩
    have e1 : (S.set n (.lst [.int a, .int b, .int (c + 1)]))[n]? = some (.lst [.int a, .int b, .int (c + 1)]) := List.getElem?_set_self hn
    have e2 : (S.set n (.lst [.int a, .int y, .int (c + 1)]))[n]? = some (.lst [.int a, .int y, .int (c + 1)]) := List.getElem?_set_self hn
    unfold b__law_draw
    simp [iVar_s, fIx_a e, fIx_a e1, fIx_a e2, ha, chk_pos, h0, onL_s e, onL_s e1, k1, k2, k3, hy, k4, k5]

/-! ### the words -/
theorem kept_ok (S : Sto) : m__law_kept [] S = .ok (.lst (c_KEYWORDS.map IV.str)) S := by
  unfold m__law_kept
  refine mDef_rt ?_
  unfold b__law_kept
  have h : (28 : Nat) ≤ sizeLine := by rw [szl]; decide
  have h1 : (20 : Nat) ≤ sizeLine := by rw [szl]; decide
  have h2 : (11 : Nat) ≤ sizeLine := by rw [szl]; decide
  have h3 : (9 : Nat) ≤ sizeLine := by rw [szl]; decide
  have h4 : (8 : Nat) ≤ sizeLine := by rw [szl]; decide
  simp [iVar_s, chk_pos, h, h1, h2, h3, h4, c_KEYWORDS]
/-! ### letters -/
def alpha : Str := "abcdefghijklmnopqrstuvwxyz"
theorem alpha_len : alpha.length = 26 := by decide +kernel
theorem alpha_ok : okS alpha := by
  have h : (sg alpha).all (fun c => decide (c < 1114112)) = true := by decide +kernel
  intro c hc
  exact of_decide_eq_true (List.all_eq_true.mp h c hc)
theorem letters_go {n : Nat} {k : Int} {all : List IV} : ∀ (xs : List IV) (S : Sto) (N : Nat) (acc : List Str), Dr S n N → N + xs.length ≤ 1000000 → acc.length + xs.length ≤ 1000 → (∀ z ∈ acc, okS z ∧ z.length = 1) →
    ∃ (zs : List Str) (S' : Sto), iLcGo ⟨all, none⟩ (giN 3) iYes (iBin fIx (iVar 2) (iCall 2 m__law_draw (iCons (iVar 0) (iCons (iC (.int 26)) iNil)))) xs [some (.adr n), some (.int k), some (.str alpha), none] S (acc.map IV.str) = .ok (zs.map IV.str) S' ∧
      zs.length = acc.length + xs.length ∧ (∀ z ∈ zs, okS z ∧ z.length = 1) ∧ Dr S' n (N + xs.length) ∧ S'.length = S.length
  | [], S, N, acc, hd, h1, h2, h3 => ⟨acc, S, by unfold iLcGo; rw [chkP_pos (stay_none _ _)], by simp, h3, hd, rfl⟩
  | x :: xs, S, N, acc, hd, h1, h2, h3 => by
    rw [List.length_cons] at h1 h2
    obtain ⟨r, S1, e, r0, r1, d1, l1⟩ := draw_ok (m := 26) hd (by omega) (by decide) (by decide)
    obtain ⟨c, hc, hm⟩ := atI_lt (xs := sg alpha) r0 (by rw [sg_len, alpha_len]; exact r1)
    have hz : alpha.length ≤ sizeLine := by rw [alpha_len, szl]; decide
    obtain ⟨zs, S', f1, f2, f3, f4, f5⟩ := letters_go (k := k) (all := all) xs S1 (N + 1) (acc ++ [⟨#[c]⟩]) d1 (by omega) (by rw [List.length_append, List.length_singleton]; omega) (fun z hz => by
      rcases List.mem_append.mp hz with hz | hz
      · exact h3 z hz
      · have : z = ⟨#[c]⟩ := by simpa using hz
        subst this
        exact ⟨fun d hd => by
          have : d = c := by simpa [sg] using hd
          subst this
          exact alpha_ok d hm, rfl⟩)
    refine ⟨zs, S', ?_, by rw [f2, List.length_append, List.length_singleton, List.length_cons]; omega, f3, by rw [List.length_cons, show N + (xs.length + 1) = N + 1 + xs.length by omega]; exact f4, f5.trans l1⟩
    unfold iLcGo
    rw [chkP_pos (stay_none _ _)]
    rw [List.map_append] at f1
    simp [iVar_s, e, chk_pos, hz, hc]
    rw [chk_pos (by rw [szl]; omega)]
    exact f1
theorem letters_ok {S : Sto} {n N : Nat} {k : Int} (h : Dr S n N) (hN : N ≤ 900000) (k0 : 0 ≤ k) (k1 : k ≤ 100) :
    ∃ s S', m__law_letters [.adr n, .int k] S = .ok (.str s) S' ∧ okS s ∧ (s.length : Int) = k ∧ Dr S' n (N + 100) ∧ S'.length = S.length := by
  obtain ⟨zs, S', f1, f2, f3, f4, f5⟩ := letters_go (k := k) (all := rangeI 0 k.toNat) (rangeI 0 k.toNat) S N [] h (by rw [rangeI_len]; omega) (by rw [rangeI_len]; simp; omega) (fun _ z => by cases z)
  rw [rangeI_len] at f2 f4
  have hs : (zs.map (·.length)).sum = zs.length := by
    have : ∀ l : List Str, (∀ z ∈ l, z.length = 1) → (l.map (·.length)).sum = l.length := by
      intro l
      induction l with
      | nil => intro _; rfl
      | cons a l ih =>
        intro q
        rw [List.map_cons, List.sum_cons, ih fun z hz => q z (List.mem_cons_of_mem _ hz), q a List.mem_cons_self, List.length_cons]
        omega
    exact this zs fun z hz => (f3 z hz).2
  have hj : (PySem.Txt.join ⟨#[]⟩ zs).length = zs.length := by
    rw [← sg_len, sg_join0, List.length_flatten, List.map_map]
    rw [← hs]
    exact congrArg List.sum (List.map_congr_left fun z _ => sg_len z)
  refine ⟨PySem.Txt.join ⟨#[]⟩ zs, S', ?_, okS_join0 fun z hz => (f3 z hz).1, by rw [hj, f2]; simp; omega, ?_, f5⟩
  · unfold m__law_letters
    refine mDef_rt ?_
    unfold b__law_letters
    have q1 : zs.length ≤ sizeLine := by rw [szl, f2]; simp; omega
    have q2 : (zs.map (·.length)).sum + zs.length * (Str.mk #[]).length ≤ 16777216 := by
      rw [hs, f2]
      show _ + _ * 0 ≤ _
      simp; omega
    have q3 : strsOf (zs.map IV.str) = some zs := by
      clear f1 f2 f3 hs hj q1 q2
      induction zs with
      | nil => rfl
      | cons z zs ih =>
        show (strsOf (zs.map IV.str)).map (z :: ·) = _
        rw [ih]; rfl
    have q4 : -(2 ^ 62) ≤ k ∧ k < 2 ^ 62 := ⟨by omega, by omega⟩
    have f1' : iLcGo ⟨rangeI 0 k.toNat, none⟩ (giN 3) iYes (iBin fIx (iVar 2) (iCall 2 m__law_draw (iCons (iVar 0) (iCons (iC (.int 26)) iNil)))) (rangeI 0 k.toNat) [some (.adr n), some (.int k), some (.str "abcdefghijklmnopqrstuvwxyz"), none] S [] = .ok (zs.map IV.str) S' := f1
    have q5 : seqOf S' (.lst (zs.map IV.str)) = some (zs.map IV.str) := rfl
    simp only [iSeq_e, iSet_e, iC_e, Out.bind_ok, fSeq_nx, iRet_e, iBM_e, empty_eq]
    rw [chk_pos (show hasTy "str" S (.str ⟨#[]⟩) = true from rfl)]
    simp only [iCons_e, iLc_e, iSrcR1_e, List.map_cons, List.map_nil, List.length_cons, List.length_nil, List.replicate, List.cons_append, List.nil_append, List.set_cons_succ, List.set_cons_zero]
    rw [iVar_s rfl]
    simp only [Out.bind_ok, asI_i]
    rw [chk_pos q4]
    simp only [Out.bind_ok, wipeI, List.set_cons_succ, List.set_cons_zero]
    rw [f1']
    simp only [Out.bind_ok, mkL_f]
    rw [chk_pos (by rw [List.length_map]; exact q1)]
    simp only [Out.bind_ok, iNil_e]
    unfold fJoin
    simp only [asS_s, a1_1, q5, orBad_some, q3]
    rw [chk_pos q2]
    rfl
  · obtain ⟨a, b, c, e, c0, c1⟩ := f4
    exact ⟨a, b, c, e, c0, by omega⟩
end K01

set_option maxHeartbeats 1000000
namespace K01
open PySem PySem.Spec PyProof.Rows L2 Sm
theorem Dr.up {S : Sto} {n N M : Nat} (h : Dr S n N) (l : N ≤ M) : Dr S n M := by
  obtain ⟨a, b, c, e, c0, c1⟩ := h
  exact ⟨a, b, c, e, c0, by omega⟩
/-- what is handed to is_name -/
inductive GV : IV → Prop
  | str (s : Str) : okS s → s.length ≤ 1000 → GV (.str s)
  | non : GV .non
  | bl (b : Bool) : GV (.bl b)
  | int (b : Int) : GV (.int b)
  | lst (b : List IV) : GV (.lst b)
  | tup (b : List IV) : GV (.tup b)
theorem kw_all {z : Str} (h : z ∈ c_KEYWORDS) : okS z ∧ z.length ≤ 7 := by
  have q : c_KEYWORDS.all (fun z => decide (z.length ≤ 7) && (sg z).all (fun c => decide (c < 1114112))) = true := by decide +kernel
  have := List.all_eq_true.mp q z h
  obtain ⟨h1, h2⟩ := Bool.and_eq_true_iff.mp this
  exact ⟨fun c hc => of_decide_eq_true (List.all_eq_true.mp h2 c hc), of_decide_eq_true h1⟩
def sigA : Str := " !\"#$&'()*+,-./0123456789:;<=>?@ABCDEFGHIJKLMNOPQRSTUVWXYZ[\\]^_"
def sigB : Str := "`abcdefghijklmnopqrstuvwxyz{|}~\n"
theorem signs_ok (S : Sto) : m__law_signs [] S = .ok (.str (sigA ++ sigB)) S := by
  unfold m__law_signs
  refine mDef_rt ?_
  unfold b__law_signs
  have h : sigA.length + sigB.length ≤ sizeLine := by rw [szl]; decide +kernel
  show (iSeq (iSet 0 (iC (.str sigA))) (iRet (iBin fAdd (iVar 0) (iC (.str sigB)))) : IS) _ _ = _
  simp [iVar_s, chk_pos, h]
theorem sig_len : (sigA ++ sigB).length = 95 := by decide +kernel
theorem sig_ok : okS (sigA ++ sigB) := by
  have h : (sg (sigA ++ sigB)).all (fun c => decide (c < 1114112)) = true := by decide +kernel
  intro c hc
  exact of_decide_eq_true (List.all_eq_true.mp h c hc)
theorem value_ok {S : Sto} {n : Nat} (h : Dr S n 0) : ∃ v S', m__law_value [.adr n] S = .ok v S' ∧ GV v := by
  obtain ⟨r0, S0, e0, a0, b0, d0, l0⟩ := draw_ok (m := 6) h (by decide) (by decide) (by decide)
  unfold m__law_value
  have z1000 : ∀ {m : Nat}, m ≤ 2000 → m ≤ sizeLine := fun {m} h => by rw [szl]; omega
  by_cases k0 : r0 = 0
  · -- letters
    obtain ⟨r1, S1, e1, a1', b1, d1, l1⟩ := draw_ok (m := 10) d0 (by decide) (by decide) (by decide)
    obtain ⟨s, S2, f1, f2, f3, f4, f5⟩ := letters_ok (k := r1) d1 (by decide) a1' (by omega)
    refine ⟨.str s, S2, mDef_rt ?_, .str s f2 (by omega)⟩
    unfold b__law_value
    simp [iVar_s, e0, k0, e1, f1, chk_pos]
  by_cases k1 : r0 = 1
  · obtain ⟨r1, S1, e1, a1', b1, d1, l1⟩ := draw_ok (m := 28) d0 (by decide) (by decide) (by decide)
    obtain ⟨wv, hw, hm⟩ := atI_lt (xs := c_KEYWORDS.map IV.str) a1' (by rw [List.length_map]; exact b1)
    obtain ⟨wd, hwm, rfl⟩ := List.mem_map.mp hm
    obtain ⟨wo, wl⟩ := kw_all hwm
    obtain ⟨r2, S2, e2, a2', b2, d2, l2⟩ := draw_ok (m := (wd.length : Int) + 1) d1 (by decide) (by omega) (by omega)
    obtain ⟨r3, S3, e3, a3', b3, d3, l3⟩ := draw_ok (m := 3) d2 (by decide) (by decide) (by decide)
    have q0 := z1000 (m := wd.length) (by omega)
    by_cases t0 : r3 = 0
    · refine ⟨.str wd, S3, mDef_rt ?_, .str wd wo (by omega)⟩
      unfold b__law_value
      simp [iVar_s, e0, k0, k1, e1, iCall0_ok (kept_ok _), hw, q0, e2, e3, t0, chk_pos]
    · obtain ⟨s, S4, f1, f2, f3, f4, f5⟩ := letters_ok (k := 1) d3 (by decide) (by decide) (by decide)
      have c1 := len_cut wd none (some r2)
      have c2 := len_cut wd (some (r2 + r3 - 1)) none
      have q1 : (cutS wd none (some r2)).length + s.length ≤ sizeLine := z1000 (by omega)
      have q2 : (cutS wd none (some r2) ++ s).length + (cutS wd (some (r2 + r3 - 1)) none).length ≤ sizeLine := z1000 (by rw [len_app]; omega)
      refine ⟨.str (cutS wd none (some r2) ++ s ++ cutS wd (some (r2 + r3 - 1)) none), S4, mDef_rt ?_, .str _ (okS_app (okS_app (okS_cut wo) f2) (okS_cut wo)) (by rw [len_app, len_app]; omega)⟩
      unfold b__law_value
      simp [iVar_s, e0, k0, k1, e1, iCall0_ok (kept_ok _), hw, q0, e2, e3, t0, f1, q1, q2, chk_pos]
  by_cases k2 : r0 = 2
  · obtain ⟨r1, S1, e1, a1', b1, d1, l1⟩ := draw_ok (m := 8) d0 (by decide) (by decide) (by decide)
    obtain ⟨s, S2, f1, f2, f3, f4, f5⟩ := letters_ok (k := 1 + r1) d1 (by decide) (by omega) (by omega)
    obtain ⟨r2, S3, e2, a2', b2, d2, l2⟩ := draw_ok (m := (s.length : Int)) f4 (by decide) (by omega) (by omega)
    obtain ⟨r3, S4, e3, a3', b3, d3, l3⟩ := draw_ok (m := 95) d2 (by decide) (by decide) (by decide)
    obtain ⟨c, hc, hm⟩ := atI_lt (xs := sg (sigA ++ sigB)) a3' (by rw [sg_len, sig_len]; exact b3)
    have q0 := z1000 (m := s.length) (by omega)
    have q3 : (sigA ++ sigB).length ≤ sizeLine := by rw [sig_len]; exact z1000 (by decide)
    have c1 := len_cut s none (some r2)
    have c2 := len_cut s (some (r2 + 1)) none
    have l1 : (Str.mk #[c]).length = 1 := rfl
    have q1 : (cutS s none (some r2)).length + (Str.mk #[c]).length ≤ sizeLine := z1000 (by omega)
    have q2 : (cutS s none (some r2) ++ ⟨#[c]⟩).length + (cutS s (some (r2 + 1)) none).length ≤ sizeLine := z1000 (by rw [len_app]; omega)
    refine ⟨.str (cutS s none (some r2) ++ ⟨#[c]⟩ ++ cutS s (some (r2 + 1)) none), S4, mDef_rt ?_, .str _ (okS_app (okS_app (okS_cut f2) ?_) (okS_cut f2)) (by rw [len_app, len_app]; omega)⟩
    · unfold b__law_value
      simp [iVar_s, e0, k0, k1, k2, e1, f1, e2, iCall0_ok (signs_ok _), q0, e3, q3, hc, q1, q2, chk_pos]
    · intro d hd
      have : d = c := by simpa [sg] using hd
      subst this
      exact sig_ok d hm
  by_cases k3 : r0 = 3
  · obtain ⟨r1, S1, e1, a1', b1, d1, l1⟩ := draw_ok (m := 41) d0 (by decide) (by decide) (by decide)
    obtain ⟨s, S2, f1, f2, f3, f4, f5⟩ := letters_ok (k := r1) d1 (by decide) a1' (by omega)
    refine ⟨.str s, S2, mDef_rt ?_, .str s f2 (by omega)⟩
    unfold b__law_value
    simp [iVar_s, e0, k0, k1, k2, k3, e1, f1, chk_pos]
  · obtain ⟨r1, S1, e1, a1', b1, d1, l1⟩ := draw_ok (m := 8) d0 (by decide) (by decide) (by decide)
    obtain ⟨s, S2, f1, f2, f3, f4, f5⟩ := letters_ok (k := 1 + r1) d1 (by decide) (by omega) (by omega)
    obtain ⟨r2, S3, e2, a2', b2, d2, l2⟩ := draw_ok (m := 9) f4 (by decide) (by decide) (by decide)
    obtain ⟨v, hv, hm⟩ := atI_lt (xs := ([.str s, .non, .bl true, .int 7, .lst [.str s], .tup [.str s], .lst [], .str ⟨#[]⟩, .lst [.lst [.str s], .int 0]] : List IV)) a2' b2
    have q9 : (9 : Nat) ≤ sizeLine := z1000 (by decide)
    have q1 : (1 : Nat) ≤ sizeLine := z1000 (by decide)
    have q2 : (2 : Nat) ≤ sizeLine := z1000 (by decide)
    have q0 : (0 : Nat) ≤ sizeLine := z1000 (by decide)
    refine ⟨v, S3, mDef_rt ?_, ?_⟩
    · unfold b__law_value
      simp [iVar_s, e0, k0, k1, k2, k3, e1, f1, e2, q9, q1, q2, q0, hv, empty_eq, chk_pos]
    · simp only [List.mem_cons, List.not_mem_nil, or_false] at hm
      rcases hm with rfl | rfl | rfl | rfl | rfl | rfl | rfl | rfl | rfl
      · exact .str s f2 (by omega)
      · exact .non
      · exact .bl _
      · exact .int _
      · exact .lst _
      · exact .tup _
      · exact .lst _
      · exact .str _ (fun _ hc => by simp [sg] at hc) (by show 0 ≤ 1000; decide)
      · exact .lst _
/-! ### the word of the program, and the law's own -/
def abc (s : Str) : Bool := (sg s).all (fun c => decide (c ∈ sg alpha))
def nameB (s : Str) : Bool := decide (1 ≤ s.length ∧ s.length ≤ 8) && abc s && !decide (s ∈ c_KEYWORDS)
def wordB : IS := iIf (iTest (iBin fNotIn (iVar 1) (iC (.str c_LETTERS)))) (iRet (iC (.bl false))) iNext
theorem word_step {S : Sto} {x : IV} {c : Nat} : wordB [some x, some (.str ⟨#[c]⟩)] S = if c ∈ sg alpha then .ok (.nx [some x, some (.str ⟨#[c]⟩)]) S else .ok (.rt (.bl false)) S := by
  have hi : inB S (.str ⟨#[c]⟩) (.str c_LETTERS) = some (decide (c ∈ sg alpha)) := rfl
  unfold wordB
  by_cases h : c ∈ sg alpha
  · rw [if_pos h]; simp [iVar_s, hi, h]
  · rw [if_neg h]; simp [iVar_s, hi, h]
theorem word_t {S : Sto} {all : List IV} {x : IV} : ∀ (cs : List Nat) (u : Option IV), (∀ c ∈ cs, c ∈ sg alpha) → ∃ u', iIter ⟨all, none⟩ (iName 1) wordB (cs.map fun c => .str ⟨#[c]⟩) [some x, u] S = .ok (.nx [some x, u']) S
  | [], u, _ => ⟨u, by unfold iIter; exact chkP_pos (stay_none _ _)⟩
  | c :: cs, u, h => by
    obtain ⟨u', e⟩ := word_t cs (some (.str ⟨#[c]⟩)) fun d hd => h d (List.mem_cons_of_mem _ hd)
    refine ⟨u', ?_⟩
    rw [List.map_cons]
    unfold iIter
    rw [chkP_pos (stay_none _ _)]
    simp only [iName_e, Out.bind_ok, List.set_cons_succ, List.set_cons_zero]
    rw [word_step, if_pos (h c List.mem_cons_self)]
    exact e
theorem word_f {S : Sto} {all : List IV} {x : IV} : ∀ (cs : List Nat) (u : Option IV), ¬ (∀ c ∈ cs, c ∈ sg alpha) → iIter ⟨all, none⟩ (iName 1) wordB (cs.map fun c => .str ⟨#[c]⟩) [some x, u] S = .ok (.rt (.bl false)) S
  | [], u, h => absurd (fun _ z => by cases z) h
  | c :: cs, u, h => by
    rw [List.map_cons]
    unfold iIter
    rw [chkP_pos (stay_none _ _)]
    simp only [iName_e, Out.bind_ok, List.set_cons_succ, List.set_cons_zero]
    rw [word_step]
    by_cases hc : c ∈ sg alpha
    · rw [if_pos hc]
      exact word_f cs (some (.str ⟨#[c]⟩)) fun q => h fun d hd => (List.mem_cons.mp hd).elim (fun e => e ▸ hc) (q d)
    · rw [if_neg hc]
      rfl
theorem abc_iff {s : Str} : abc s = true ↔ ∀ c ∈ sg s, c ∈ sg alpha := by
  unfold abc
  rw [List.all_eq_true]
  exact ⟨fun h c hc => of_decide_eq_true (h c hc), fun h c hc => decide_eq_true (h c hc)⟩
theorem is_word_ok {S : Sto} {s : Str} (hs : s.length ≤ 1000) : m_is_word [.str s] S = .ok (.bl (decide (1 ≤ s.length ∧ s.length ≤ 8) && abc s)) S := by
  unfold m_is_word
  refine mDef_rt ?_
  have q0 : s.length ≤ sizeLine := by rw [szl]; omega
  have k1 : kitN "str" "str" = some true := by decide +kernel
  show (iSeq _ (iSeq (iFor (iSrcS (iVar 0)) (iName 1) wordB) (iRet (iC (.bl true)))) : IS) _ _ = _
  by_cases h1 : 1 ≤ s.length
  · have g1 : (1 : Int) ≤ s.length := by omega
    by_cases h2 : s.length ≤ 8
    · have g2 : (s.length : Int) ≤ 8 := by omega
      by_cases h3 : abc s = true
      · obtain ⟨u', e⟩ := word_t (S := S) (all := (sg s).map fun c => .str ⟨#[c]⟩) (x := .str s) (sg s) none (abc_iff.mp h3)
        simp [iVar_s, q0, k1, g1, g2, h1, h2, h3, e]
      · have e := word_f (S := S) (all := (sg s).map fun c => .str ⟨#[c]⟩) (x := .str s) (sg s) none (fun z => h3 (abc_iff.mpr z))
        simp [iVar_s, q0, k1, g1, g2, h1, h2, h3, e]
    · have g2 : ¬ (s.length : Int) ≤ 8 := by omega
      simp [iVar_s, q0, k1, g1, g2, h1, h2]
  · have g1 : ¬ (1 : Int) ≤ s.length := by omega
    simp [iVar_s, q0, k1, g1, h1]
theorem not_str {v : IV} (h : GV v) (hn : ∀ s, v ≠ .str s) (S : Sto) : ∃ t, tyN S v = some t ∧ kitN t "str" = some false := by
  cases h with
  | str s _ _ => exact absurd rfl (hn s)
  | non => exact ⟨_, rfl, by decide +kernel⟩
  | bl b => exact ⟨_, rfl, by decide +kernel⟩
  | int b => exact ⟨_, rfl, by decide +kernel⟩
  | lst b => exact ⟨_, rfl, by decide +kernel⟩
  | tup b => exact ⟨_, rfl, by decide +kernel⟩
theorem is_word_no {S : Sto} {v : IV} (h : GV v) (hn : ∀ s, v ≠ .str s) : m_is_word [v] S = .ok (.bl false) S := by
  obtain ⟨t, e1, e2⟩ := not_str h hn S
  unfold m_is_word
  refine mDef_rt ?_
  unfold b_is_word
  simp [iVar_s, e1, e2]
def isName (v : IV) : Bool := match v with
  | .str s => nameB s
  | _ => false
theorem name_ok {S : Sto} {v : IV} (h : GV v) : m_Project_is_name [v] S = .ok (.bl (isName v)) S := by
  have hf : m_name_fits [v] S = .ok (.bl (isName v)) S := by
    unfold m_name_fits
    refine mDef_rt ?_
    unfold b_name_fits
    by_cases hs : ∃ s, v = .str s
    · obtain ⟨s, rfl⟩ := hs
      cases h with
      | str s h1 h2 =>
        simp [iVar_s, is_word_ok h2, chk_pos, inB_tup, isName, nameB]
        by_cases q : (1 ≤ s.length ∧ s.length ≤ 8) ∧ abc s = true
        · simp [q.1, q.2]
        · simp [q]
    · have e := is_word_no (S := S) h fun s z => hs ⟨s, z⟩
      have n : isName v = false := by
        cases h with
        | str s _ _ => exact absurd ⟨s, rfl⟩ hs
        | _ => rfl
      simp [iVar_s, e, chk_pos, n]
  unfold m_Project_is_name
  refine mDef_rt ?_
  unfold b_Project_is_name
  simp [iVar_s, hf, chk_pos]
def dueT : IT := iTest (iBin fNotIn (iVar 2) (iC (.str alpha)))
theorem due_go {S : Sto} {all : List IV} {x : IV} : ∀ (cs : List Nat) (acc : List Str), acc.length + cs.length ≤ 2000 →
    iLcGo ⟨all, none⟩ (giN 2) dueT (iVar 2) (cs.map fun c => .str ⟨#[c]⟩) [some x, none, none] S (acc.map IV.str) = .ok ((acc ++ (cs.filter fun c => !decide (c ∈ sg alpha)).map fun c => (⟨#[c]⟩ : Str)).map IV.str) S
  | [], acc, _ => by
    unfold iLcGo
    rw [List.map_nil]
    show chkP _ _ = _
    rw [chkP_pos (stay_none _ _)]
    simp
  | c :: cs, acc, hl => by
    rw [List.length_cons] at hl
    rw [List.map_cons]
    unfold iLcGo
    rw [chkP_pos (stay_none _ _)]
    have hi : inB S (.str ⟨#[c]⟩) (.str alpha) = some (decide (c ∈ sg alpha)) := rfl
    have ht : dueT [some x, none, some (.str ⟨#[c]⟩)] S = .ok (!decide (c ∈ sg alpha)) S := by
      unfold dueT
      simp [iVar_s, hi]
    simp only [giN_e, orBad_some, List.set_cons_succ, List.set_cons_zero]
    rw [ht]
    simp only [noX_ok, Out.bind_ok]
    by_cases hc : c ∈ sg alpha
    · rw [decide_eq_true hc]
      simp only [Bool.not_true, Bool.false_eq_true, if_false]
      rw [due_go cs acc (by omega), List.filter_cons, decide_eq_true hc]
      rfl
    · rw [decide_eq_false hc]
      simp only [Bool.not_false, if_true]
      rw [iVar_s rfl]
      simp only [noX_ok, Out.bind_ok]
      rw [chk_pos (by rw [List.length_map, szl]; omega)]
      have := due_go (S := S) (all := all) (x := x) cs (acc ++ [⟨#[c]⟩]) (by rw [List.length_append, List.length_singleton]; omega)
      rw [List.map_append] at this
      refine this.trans ?_
      rw [List.filter_cons, decide_eq_false hc]
      simp
theorem due_ok {S : Sto} {v : IV} (h : GV v) : m__law_due [v] S = .ok (.bl (isName v)) S := by
  unfold m__law_due
  refine mDef_rt ?_
  by_cases hs : ∃ s, v = .str s
  · obtain ⟨s, rfl⟩ := hs
    cases h with
    | str s h1 h2 =>
      have q0 : s.length ≤ sizeLine := by rw [szl]; omega
      have k1 : kitN "str" "str" = some true := by decide +kernel
      show (iSeq _ (iSeq (iSet 1 (iLc false (iSrcS (iVar 0)) (giN 2) dueT (iVar 2) [2])) _) : IS) _ _ = _
      by_cases hl : 1 ≤ s.length ∧ s.length ≤ 8
      · have g1 : (1 : Int) ≤ s.length := by omega
        have g2 : (s.length : Int) ≤ 8 := by omega
        have e := due_go (S := S) (all := (sg s).map fun c => .str ⟨#[c]⟩) (x := .str s) (sg s) [] (by rw [sg_len]; simp; omega)
        rw [List.map_nil, List.nil_append] at e
        generalize hf : ((sg s).filter fun c => !decide (c ∈ sg alpha)).map (fun c => (⟨#[c]⟩ : Str)) = ws at e
        have hw : ∀ z ∈ ws, okS z := fun z hz => by
          rw [← hf] at hz
          obtain ⟨c, hc, rfl⟩ := List.mem_map.mp hz
          intro d hd
          have : d = c := by simpa [sg] using hd
          subst this
          exact h1 d (List.mem_filter.mp hc).1
        have hn : decide (ws = []) = abc s := by
          rw [← hf, Bool.eq_iff_iff, decide_eq_true_iff, abc_iff, List.map_eq_nil_iff, List.filter_eq_nil_iff]
          simp
        have hl2 : ws.length ≤ sizeLine := by
          rw [← hf, List.length_map, szl]
          have := List.length_filter_le (fun c => !decide (c ∈ sg alpha)) (sg s)
          rw [sg_len] at this
          omega
        have he : eqB S (.lst (ws.map IV.str)) (.lst []) = some (abc s) := by
          rw [← hn]
          exact eqB_strs (ys := []) hw fun _ z => by cases z
        have z0 : (0 : Nat) ≤ sizeLine := Nat.zero_le _
        simp [iVar_s, q0, k1, g1, g2, wipeI, e, hl2, he, chk_pos, iCall0_ok (kept_ok _), inB_lst, isName, nameB, hl.1, hl.2]
        by_cases h3 : abc s = true
        · simp [h3]
        · simp [h3]
      · have nb : nameB s = false := by
          unfold nameB
          rw [decide_eq_false hl]
          rfl
        by_cases g1 : (1 : Int) ≤ s.length
        · have g2 : ¬ (s.length : Int) ≤ 8 := by omega
          simp [iVar_s, q0, k1, g1, g2, isName, nb]
        · simp [iVar_s, q0, k1, g1, isName, nb]
  · obtain ⟨t, e1, e2⟩ := not_str h (fun s z => hs ⟨s, z⟩) S
    have n : isName v = false := by
      cases h with
      | str s _ _ => exact absurd ⟨s, rfl⟩ hs
      | _ => rfl
    unfold b__law_due
    simp [iVar_s, e1, e2, n]
/-! ### the law -/
theorem source_ok {S : Sto} {ns : List Int} {i : Nat} : ∃ a b : Int, m__law_source [.wls (ns.map IV.int), .int i] S = .ok (.adr S.length) (S ++ [.lst [.int a, .int b, .int 0]]) := by
  have z3 : (3 : Nat) ≤ sizeLine := by rw [szl]; decide
  have kp : CPow 10 18 := by decide
  have km : CMul 7919 (i : Int) := .inl ⟨by decide, by decide⟩
  obtain ⟨c, hc⟩ : ∃ c : Int, (iIf (iTest (iBin fLt (iVar 1) (iCa fLen (iCons (iVar 0) iNil)))) (iBin fIx (iVar 0) (iVar 1)) (iC (.int 0)) : IE) [some (.wls (ns.map IV.int)), some (.int i), none, none] S = .ok (.int c) S := by
    by_cases h : i < ns.length
    · refine ⟨ns[i], ?_⟩
      have e : atI (ns.map IV.int) (i : Int) = some (.int ns[i]) := atI_nat (by rw [List.getElem?_map, List.getElem?_eq_getElem h]; rfl)
      simp [iVar_s, h, e]
    · refine ⟨0, ?_⟩
      simp [iVar_s, h]
  refine ⟨if (10 : Int) ^ 18 ≤ (if c < 0 then -c else c) then (if c < 0 then -c else c) else 0, c % 2147483587 + 7919 * i + 11, ?_⟩
  unfold m__law_source
  refine mDef_rt ?_
  unfold b__law_source
  rw [iSeq_e, iSet_e]
  show ((Out.bind (iIf _ _ _ [some (.wls (ns.map IV.int)), some (.int i), none, none] S) _).bind _) = _
  rw [hc]
  by_cases h : (10 : Int) ^ 18 ≤ (if c < 0 then -c else c)
  · rw [if_pos h]
    have h' : (1000000000000000000 : Int) ≤ (if c < 0 then -c else c) := h
    simp [iVar_s, kp, chk_pos, km, z3, h']
  · rw [if_neg h]
    have h' : ¬ (1000000000000000000 : Int) ≤ (if c < 0 then -c else c) := h
    simp [iVar_s, kp, chk_pos, km, z3, h']
noncomputable def lawB : IS := iSeq (iSet 2 (iCall 1 m__law_value (iCons (iCall 2 m__law_source (iCons (iVar 0) (iCons (iVar 1) iNil))) iNil))) (iSeq (iSet 3 (iCall 1 m_Project_is_name (iCons (iVar 2) iNil))) (iIf (iOr (iNot (iTru (iCa fIsi (iCons (iVar 3) (iCons (iC (.ty "bool")) iNil))))) (iTest (iBin fNe (iVar 3) (iCall 1 m__law_due (iCons (iVar 2) iNil))))) (iRet (iC (.bl false))) iNext))
theorem turn_ok {S : Sto} {ns : List Int} {i : Nat} {u v : Option IV} : ∃ x y S', lawB [some (.wls (ns.map IV.int)), some (.int i), u, v] S = .ok (.nx [some (.wls (ns.map IV.int)), some (.int i), x, y]) S' := by
  obtain ⟨a, b, e⟩ := source_ok (S := S) (ns := ns) (i := i)
  have hd : Dr (S ++ [.lst [.int a, .int b, .int 0]]) S.length 0 := ⟨a, b, 0, by rw [List.getElem?_append_right (Nat.le_refl _), Nat.sub_self]; rfl, Int.le_refl 0, Int.le_refl 0⟩
  obtain ⟨w, S', f1, f2⟩ := value_ok hd
  have k1 : kitN "bool" "bool" = some true := by decide +kernel
  refine ⟨some w, some (.bl (isName w)), S', ?_⟩
  unfold lawB
  simp [iVar_s, e, f1, name_ok f2, due_ok f2, chk_pos, k1]
theorem law_go {ns : List Int} {all : List IV} : ∀ (xs : List Nat) (S : Sto) (t u v : Option IV), ∃ t' u' v' S', iIter ⟨all, none⟩ (iName 1) lawB (xs.map fun (i : Nat) => .int (0 + i)) [some (.wls (ns.map IV.int)), t, u, v] S = .ok (.nx [some (.wls (ns.map IV.int)), t', u', v']) S'
  | [], S, t, u, v => ⟨t, u, v, S, by unfold iIter; exact chkP_pos (stay_none _ _)⟩
  | x :: xs, S, t, u, v => by
    obtain ⟨a, b, S1, e⟩ := turn_ok (S := S) (ns := ns) (i := x) (u := u) (v := v)
    obtain ⟨t', u', v', S', f⟩ := law_go xs S1 (some (.int x)) a b
    refine ⟨t', u', v', S', ?_⟩
    rw [List.map_cons]
    unfold iIter
    rw [chkP_pos (stay_none _ _), Int.zero_add]
    simp only [iName_e, Out.bind_ok, List.set_cons_succ, List.set_cons_zero]
    rw [e]
    exact f
theorem law_ok {S : Sto} {ns : List Int} (h : ns.length ≤ 63) : ∃ S', m_law [.wls (ns.map IV.int)] S = .ok (.bl true) S' := by
  obtain ⟨t', u', v', S', f⟩ := law_go (ns := ns) (all := rangeI 0 (if (if (ns.length : Int) < 63 then (ns.length : Int) else 63) > 1 then (if (ns.length : Int) < 63 then (ns.length : Int) else 63) else 1).toNat) (List.range (if (if (ns.length : Int) < 63 then (ns.length : Int) else 63) > 1 then (if (ns.length : Int) < 63 then (ns.length : Int) else 63) else 1).toNat) S none none none
  refine ⟨S', ?_⟩
  unfold m_law
  refine mDef_rt ?_
  show (iSeq (iFor _ (iName 1) lawB) (iRet (iC (.bl true))) : IS) _ _ = _
  have q : -(2 ^ 62) ≤ (if (if (ns.length : Int) < 63 then (ns.length : Int) else 63) > 1 then (if (ns.length : Int) < 63 then (ns.length : Int) else 63) else 1) ∧ (if (if (ns.length : Int) < 63 then (ns.length : Int) else 63) > 1 then (if (ns.length : Int) < 63 then (ns.length : Int) else 63) else 1) < 2 ^ 62 := by
    split <;> split <;> omega
  simp only [iSeq_e, iFor_e, iSrcR1_e, iCa_e, iCons_e, iC_e, iNil_e, Out.bind_ok, List.map_cons, List.map_nil, List.length_cons, List.length_nil, List.replicate, List.cons_append, List.nil_append]
  rw [iVar_s rfl]
  simp only [Out.bind_ok, fLen_e, lenN_w, orBad_some, List.length_map, fMin2_i, fMax2_i, asI_i]
  rw [chk_pos q]
  simp only [Out.bind_ok]
  unfold rangeI at f ⊢
  rw [f]
  rfl
end K01

namespace K01
open PySem PySem.Spec PyProof.Rows L2 Sm
theorem all_mk {l : PySem.W.OpenLaw} {w : World} {K : PySem.W.Frag} {h : Heap} {mg : Str → Option Value} {fa : Addr} (X : K.In h) (G : h.Ns mainGlobals mg) (hfa : mg "law" = some (.ref fa))
    {tk_LETTERS : Tok}
    {ga_KEYWORDS : Addr} {god_KEYWORDS : Option Addr} {gits_KEYWORDS : Array Value} {gn_KEYWORDS : Nat} {gsl_KEYWORDS : Array (Option Value)}
    {f_is_word : Addr} {od_is_word an_is_word : Option Addr} {sl_is_word : Array (Option Value)} {oc_is_word kV_is_word dc_is_word pm_is_word cd_is_word ct_is_word : Value}
    {f_name_fits : Addr} {od_name_fits an_name_fits : Option Addr} {sl_name_fits : Array (Option Value)} {oc_name_fits kV_name_fits dc_name_fits pm_name_fits cd_name_fits ct_name_fits : Value}
    {f_Project_is_name : Addr} {od_Project_is_name an_Project_is_name : Option Addr} {sl_Project_is_name : Array (Option Value)} {oc_Project_is_name kV_Project_is_name dc_Project_is_name pm_Project_is_name cd_Project_is_name ct_Project_is_name : Value}
    {C_Project_is_name p_Project_is_name : Addr} {rest_Project_is_name : List Value}
    {f__law_source : Addr} {od__law_source an__law_source : Option Addr} {sl__law_source : Array (Option Value)} {oc__law_source kV__law_source dc__law_source pm__law_source cd__law_source ct__law_source : Value}
    {f__law_draw : Addr} {od__law_draw an__law_draw : Option Addr} {sl__law_draw : Array (Option Value)} {oc__law_draw kV__law_draw dc__law_draw pm__law_draw cd__law_draw ct__law_draw : Value}
    {f__law_kept : Addr} {od__law_kept an__law_kept : Option Addr} {sl__law_kept : Array (Option Value)} {oc__law_kept kV__law_kept dc__law_kept pm__law_kept cd__law_kept ct__law_kept : Value}
    {f__law_letters : Addr} {od__law_letters an__law_letters : Option Addr} {sl__law_letters : Array (Option Value)} {oc__law_letters kV__law_letters dc__law_letters pm__law_letters cd__law_letters ct__law_letters : Value}
    {f__law_signs : Addr} {od__law_signs an__law_signs : Option Addr} {sl__law_signs : Array (Option Value)} {oc__law_signs kV__law_signs dc__law_signs pm__law_signs cd__law_signs ct__law_signs : Value}
    {f__law_value : Addr} {od__law_value an__law_value : Option Addr} {sl__law_value : Array (Option Value)} {oc__law_value kV__law_value dc__law_value pm__law_value cd__law_value ct__law_value : Value}
    {f__law_due : Addr} {od__law_due an__law_due : Option Addr} {sl__law_due : Array (Option Value)} {oc__law_due kV__law_due dc__law_due pm__law_due cd__law_due ct__law_due : Value}
    {f_law : Addr} {od_law an_law : Option Addr} {sl_law : Array (Option Value)} {oc_law kV_law dc_law pm_law cd_law ct_law : Value}
    (gs_LETTERS : PySem.W.nsIn K mainGlobals "LETTERS" = some (some (.str c_LETTERS tk_LETTERS)))
    (z_str : PySem.W.nsIn K mainGlobals "str" = some none)
    (z_isinstance : PySem.W.nsIn K mainGlobals "isinstance" = some none)
    (z_len : PySem.W.nsIn K mainGlobals "len" = some none)
    (gt_KEYWORDS : PySem.W.nsIn K mainGlobals "KEYWORDS" = some (some (.ref ga_KEYWORDS)))
    (gl_KEYWORDS : K.lookup ga_KEYWORDS = some ⟨.type "tuple", god_KEYWORDS, .seq gits_KEYWORDS gn_KEYWORDS, gsl_KEYWORDS⟩)
    (gz_KEYWORDS : gits_KEYWORDS.size ≤ sizeLine)
    (gv_KEYWORDS : L2.Vals (c_KEYWORDS.map L2.V.str) gits_KEYWORDS.toList)
    (z_int : PySem.W.nsIn K mainGlobals "int" = some none)
    (z_abs : PySem.W.nsIn K mainGlobals "abs" = some none)
    (z_range : PySem.W.nsIn K mainGlobals "range" = some none)
    (z_min : PySem.W.nsIn K mainGlobals "min" = some none)
    (z_max : PySem.W.nsIn K mainGlobals "max" = some none)
    (z_bool : PySem.W.nsIn K mainGlobals "bool" = some none)
    (a_is_word : PySem.W.nsIn K mainGlobals "is_word" = some (some (.ref f_is_word)))
    (l_is_word : K.lookup f_is_word = some ⟨oc_is_word, od_is_word, .func (PySem.W.fnOf "is_word" "is_word" (defArgs s_is_word) (defBody s_is_word) (defScope s_is_word) .none kV_is_word dc_is_word pm_is_word an_is_word cd_is_word ct_is_word), sl_is_word⟩)
    (c_is_word : PySem.W.codeIn K cd_is_word "is_word" = true)
    (k_is_word : PySem.W.keepIn K (.ref f_is_word) = true)
    (a_name_fits : PySem.W.nsIn K mainGlobals "name_fits" = some (some (.ref f_name_fits)))
    (l_name_fits : K.lookup f_name_fits = some ⟨oc_name_fits, od_name_fits, .func (PySem.W.fnOf "name_fits" "name_fits" (defArgs s_name_fits) (defBody s_name_fits) (defScope s_name_fits) .none kV_name_fits dc_name_fits pm_name_fits an_name_fits cd_name_fits ct_name_fits), sl_name_fits⟩)
    (c_name_fits : PySem.W.codeIn K cd_name_fits "name_fits" = true)
    (k_name_fits : PySem.W.keepIn K (.ref f_name_fits) = true)
    (a_Project_is_name : PySem.W.nsIn K mainGlobals "Project" = some (some (.ref C_Project_is_name)))
    (ga_Project_is_name : PySem.W.specialIn K (.ref C_Project_is_name) "__getattribute__" = some (some (.builtin "type.__getattribute__")))
    (ty_Project_is_name : PySem.W.typeIn K (.ref C_Project_is_name) = some (.type "type"))
    (rd_Project_is_name : PySem.W.readsIn K C_Project_is_name (.type "type") = true)
    (at_Project_is_name : PySem.W.findCls K (.ref C_Project_is_name) (.type "type") "is_name" = some (.get (.builtin "staticmethod.__get__") (.ref p_Project_is_name) .none (.ref C_Project_is_name)))
    (rc_Project_is_name : PySem.W.recIn K p_Project_is_name "staticmethod" = some (.ref f_Project_is_name :: rest_Project_is_name))
    (l_Project_is_name : K.lookup f_Project_is_name = some ⟨oc_Project_is_name, od_Project_is_name, .func (PySem.W.fnOf "is_name" "Project.is_name" (defArgs s_Project_is_name) (defBody s_Project_is_name) (defScope s_Project_is_name) .none kV_Project_is_name dc_Project_is_name pm_Project_is_name an_Project_is_name cd_Project_is_name ct_Project_is_name), sl_Project_is_name⟩)
    (c_Project_is_name : PySem.W.codeIn K cd_Project_is_name "Project.is_name" = true)
    (k_Project_is_name : PySem.W.keepIn K (.ref f_Project_is_name) = true)
    (a__law_source : PySem.W.nsIn K mainGlobals "_law_source" = some (some (.ref f__law_source)))
    (l__law_source : K.lookup f__law_source = some ⟨oc__law_source, od__law_source, .func (PySem.W.fnOf "_law_source" "_law_source" (defArgs s__law_source) (defBody s__law_source) (defScope s__law_source) .none kV__law_source dc__law_source pm__law_source an__law_source cd__law_source ct__law_source), sl__law_source⟩)
    (c__law_source : PySem.W.codeIn K cd__law_source "_law_source" = true)
    (k__law_source : PySem.W.keepIn K (.ref f__law_source) = true)
    (a__law_draw : PySem.W.nsIn K mainGlobals "_law_draw" = some (some (.ref f__law_draw)))
    (l__law_draw : K.lookup f__law_draw = some ⟨oc__law_draw, od__law_draw, .func (PySem.W.fnOf "_law_draw" "_law_draw" (defArgs s__law_draw) (defBody s__law_draw) (defScope s__law_draw) .none kV__law_draw dc__law_draw pm__law_draw an__law_draw cd__law_draw ct__law_draw), sl__law_draw⟩)
    (c__law_draw : PySem.W.codeIn K cd__law_draw "_law_draw" = true)
    (k__law_draw : PySem.W.keepIn K (.ref f__law_draw) = true)
    (a__law_kept : PySem.W.nsIn K mainGlobals "_law_kept" = some (some (.ref f__law_kept)))
    (l__law_kept : K.lookup f__law_kept = some ⟨oc__law_kept, od__law_kept, .func (PySem.W.fnOf "_law_kept" "_law_kept" (defArgs s__law_kept) (defBody s__law_kept) (defScope s__law_kept) .none kV__law_kept dc__law_kept pm__law_kept an__law_kept cd__law_kept ct__law_kept), sl__law_kept⟩)
    (c__law_kept : PySem.W.codeIn K cd__law_kept "_law_kept" = true)
    (k__law_kept : PySem.W.keepIn K (.ref f__law_kept) = true)
    (a__law_letters : PySem.W.nsIn K mainGlobals "_law_letters" = some (some (.ref f__law_letters)))
    (l__law_letters : K.lookup f__law_letters = some ⟨oc__law_letters, od__law_letters, .func (PySem.W.fnOf "_law_letters" "_law_letters" (defArgs s__law_letters) (defBody s__law_letters) (defScope s__law_letters) .none kV__law_letters dc__law_letters pm__law_letters an__law_letters cd__law_letters ct__law_letters), sl__law_letters⟩)
    (c__law_letters : PySem.W.codeIn K cd__law_letters "_law_letters" = true)
    (k__law_letters : PySem.W.keepIn K (.ref f__law_letters) = true)
    (a__law_signs : PySem.W.nsIn K mainGlobals "_law_signs" = some (some (.ref f__law_signs)))
    (l__law_signs : K.lookup f__law_signs = some ⟨oc__law_signs, od__law_signs, .func (PySem.W.fnOf "_law_signs" "_law_signs" (defArgs s__law_signs) (defBody s__law_signs) (defScope s__law_signs) .none kV__law_signs dc__law_signs pm__law_signs an__law_signs cd__law_signs ct__law_signs), sl__law_signs⟩)
    (c__law_signs : PySem.W.codeIn K cd__law_signs "_law_signs" = true)
    (k__law_signs : PySem.W.keepIn K (.ref f__law_signs) = true)
    (a__law_value : PySem.W.nsIn K mainGlobals "_law_value" = some (some (.ref f__law_value)))
    (l__law_value : K.lookup f__law_value = some ⟨oc__law_value, od__law_value, .func (PySem.W.fnOf "_law_value" "_law_value" (defArgs s__law_value) (defBody s__law_value) (defScope s__law_value) .none kV__law_value dc__law_value pm__law_value an__law_value cd__law_value ct__law_value), sl__law_value⟩)
    (c__law_value : PySem.W.codeIn K cd__law_value "_law_value" = true)
    (k__law_value : PySem.W.keepIn K (.ref f__law_value) = true)
    (a__law_due : PySem.W.nsIn K mainGlobals "_law_due" = some (some (.ref f__law_due)))
    (l__law_due : K.lookup f__law_due = some ⟨oc__law_due, od__law_due, .func (PySem.W.fnOf "_law_due" "_law_due" (defArgs s__law_due) (defBody s__law_due) (defScope s__law_due) .none kV__law_due dc__law_due pm__law_due an__law_due cd__law_due ct__law_due), sl__law_due⟩)
    (c__law_due : PySem.W.codeIn K cd__law_due "_law_due" = true)
    (k__law_due : PySem.W.keepIn K (.ref f__law_due) = true)
    (a_law : PySem.W.nsIn K mainGlobals "law" = some (some (.ref f_law)))
    (l_law : K.lookup f_law = some ⟨oc_law, od_law, .func (PySem.W.fnOf "law" "law" (defArgs s_law) (defBody s_law) (defScope s_law) .none kV_law dc_law pm_law an_law cd_law ct_law), sl_law⟩)
    (c_law : PySem.W.codeIn K cd_law "law" = true)
    (k_law : PySem.W.keepIn K (.ref f_law) = true)
    : ∃ fd : FuncData, (∀ (s : Shared) (v : Value), BindsTo s fd ⟨[v], []⟩ [("_law_script", v)]) ∧ ∀ base : Heap, K.In base → base.Ns mainGlobals mg → FnOk l.prog w K mg base (L2.CX l.prog w) 4 fa fd ["_law_script"] (spM K 1 m_law) := by
  have gs_LETTERS := PySem.W.mg_of X G gs_LETTERS
  have z_str := PySem.W.mg_none_of X G z_str
  have z_isinstance := PySem.W.mg_none_of X G z_isinstance
  have z_len := PySem.W.mg_none_of X G z_len
  have gt_KEYWORDS := gtup_mk X G gt_KEYWORDS gl_KEYWORDS gz_KEYWORDS gv_KEYWORDS
  have z_int := PySem.W.mg_none_of X G z_int
  have z_abs := PySem.W.mg_none_of X G z_abs
  have z_range := PySem.W.mg_none_of X G z_range
  have z_min := PySem.W.mg_none_of X G z_min
  have z_max := PySem.W.mg_none_of X G z_max
  have z_bool := PySem.W.mg_none_of X G z_bool
  have L_is_word : Loc K mg "is_word" s_is_word ["text"] := loc_mk X G a_is_word l_is_word c_is_word k_is_word (fun _ _ _ _ _ _ us hl => match us, hl with | [_], _ => rfl)
  have L_name_fits : Loc K mg "name_fits" s_name_fits ["text"] := loc_mk X G a_name_fits l_name_fits c_name_fits k_name_fits (fun _ _ _ _ _ _ us hl => match us, hl with | [_], _ => rfl)
  have L_Project_is_name : SLoc K mg "Project" "is_name" "Project.is_name" s_Project_is_name ["text"] := sloc_mk X G a_Project_is_name l_Project_is_name c_Project_is_name k_Project_is_name ga_Project_is_name ty_Project_is_name rd_Project_is_name at_Project_is_name rc_Project_is_name (fun _ _ _ _ _ _ us hl => match us, hl with | [_], _ => rfl)
  have L__law_source : Loc K mg "_law_source" s__law_source ["_law_script", "_law_place"] := loc_mk X G a__law_source l__law_source c__law_source k__law_source (fun _ _ _ _ _ _ us hl => match us, hl with | [_, _], _ => rfl)
  have L__law_draw : Loc K mg "_law_draw" s__law_draw ["_law_s", "_law_many"] := loc_mk X G a__law_draw l__law_draw c__law_draw k__law_draw (fun _ _ _ _ _ _ us hl => match us, hl with | [_, _], _ => rfl)
  have L__law_kept : Loc K mg "_law_kept" s__law_kept [] := loc_mk X G a__law_kept l__law_kept c__law_kept k__law_kept (fun _ _ _ _ _ _ us hl => match us, hl with | [], _ => rfl)
  have L__law_letters : Loc K mg "_law_letters" s__law_letters ["_law_s", "_law_size"] := loc_mk X G a__law_letters l__law_letters c__law_letters k__law_letters (fun _ _ _ _ _ _ us hl => match us, hl with | [_, _], _ => rfl)
  have L__law_signs : Loc K mg "_law_signs" s__law_signs [] := loc_mk X G a__law_signs l__law_signs c__law_signs k__law_signs (fun _ _ _ _ _ _ us hl => match us, hl with | [], _ => rfl)
  have L__law_value : Loc K mg "_law_value" s__law_value ["_law_s"] := loc_mk X G a__law_value l__law_value c__law_value k__law_value (fun _ _ _ _ _ _ us hl => match us, hl with | [_], _ => rfl)
  have L__law_due : Loc K mg "_law_due" s__law_due ["_law_value_here"] := loc_mk X G a__law_due l__law_due c__law_due k__law_due (fun _ _ _ _ _ _ us hl => match us, hl with | [_], _ => rfl)
  refine law_mk X G hfa a_law l_law c_law k_law (fun _ _ _ _ _ _ _ => rfl) fun fd F base _ _ => ?_
  have C_is_word_ok := ok_is_word (P := l.prog) (w := w) (base := base) L_is_word gs_LETTERS z_str z_isinstance z_len
  have C_name_fits_ok := ok_name_fits (P := l.prog) (w := w) (base := base) L_name_fits gt_KEYWORDS C_is_word_ok
  have C_Project_is_name_ok := ok_Project_is_name (P := l.prog) (w := w) (base := base) L_Project_is_name C_name_fits_ok
  have C__law_source_ok := ok__law_source (P := l.prog) (w := w) (base := base) L__law_source z_int z_abs z_len
  have C__law_draw_ok := ok__law_draw (P := l.prog) (w := w) (base := base) L__law_draw z_int
  have C__law_kept_ok := ok__law_kept (P := l.prog) (w := w) (base := base) L__law_kept 
  have C__law_letters_ok := ok__law_letters (P := l.prog) (w := w) (base := base) L__law_letters z_range C__law_draw_ok
  have C__law_signs_ok := ok__law_signs (P := l.prog) (w := w) (base := base) L__law_signs 
  have C__law_value_ok := ok__law_value (P := l.prog) (w := w) (base := base) L__law_value z_len C__law_draw_ok C__law_letters_ok C__law_signs_ok C__law_kept_ok
  have C__law_due_ok := ok__law_due (P := l.prog) (w := w) (base := base) L__law_due z_str z_isinstance z_len C__law_kept_ok
  exact ok_law F z_range z_len z_min z_max z_bool z_isinstance C__law_due_ok C_Project_is_name_ok C__law_source_ok C__law_value_ok

end K01
open PySem PySem.W PyProof.Rows
set_option maxHeartbeats 0 in
theorem PySem.Challenge.cw_patchedplaces_k01_names_holds : PySem.Challenge.rw_patchedplaces_k01_names.Holds := by
  w_on; o_law; k_head; (case hw => w_witness2)
  k_fill
  refine L2.walk_of (l := PySem.Challenge.rw_patchedplaces_k01_names) (n := 63) (k := 4) (x := "_law_script") (CX := fun w => L2.CX PySem.Challenge.rw_patchedplaces_k01_names.prog w) (sp := fun w => Sm.spM _ 1 K01.m_law) rfl (by decide) rfl ⟨rfl, by decide, by decide⟩ (fun w h Y => PySem.W.kIn_of Y) ?F (fun _ _ a xs hl _ hS => Sm.sp_law (fun xs h => K01.law_ok h) hl hS) (fun _ _ _ _ _ h => by obtain ⟨_, _, _, _, _, _, _, _, _, _, _, _, z⟩ := h; exact z)
  case F =>
    intro w mg fa h KX G hmg
    refine' K01.all_mk KX G hmg ?gs_LETTERS ?z_str ?z_isinstance ?z_len ?gt_KEYWORDS ?gl_KEYWORDS ?gz_KEYWORDS ?gv_KEYWORDS ?z_int ?z_abs ?z_range ?z_min ?z_max ?z_bool ?a_is_word ?l_is_word ?c_is_word ?k_is_word ?a_name_fits ?l_name_fits ?c_name_fits ?k_name_fits ?a_Project_is_name ?ga_Project_is_name ?ty_Project_is_name ?rd_Project_is_name ?at_Project_is_name ?rc_Project_is_name ?l_Project_is_name ?c_Project_is_name ?k_Project_is_name ?a__law_source ?l__law_source ?c__law_source ?k__law_source ?a__law_draw ?l__law_draw ?c__law_draw ?k__law_draw ?a__law_kept ?l__law_kept ?c__law_kept ?k__law_kept ?a__law_letters ?l__law_letters ?c__law_letters ?k__law_letters ?a__law_signs ?l__law_signs ?c__law_signs ?k__law_signs ?a__law_value ?l__law_value ?c__law_value ?k__law_value ?a__law_due ?l__law_due ?c__law_due ?k__law_due ?a_law ?l_law ?c_law ?k_law
    (case gs_LETTERS => k_is)
    (case z_str => k_is)
    (case z_isinstance => k_is)
    (case z_len => k_is)
    (case gt_KEYWORDS => k_is)
    (case gl_KEYWORDS => k_is)
    (case gz_KEYWORDS => (rw [sizeLine_eq]; decide))
    (case gv_KEYWORDS => exact Sm.vals_of_b (by decide +kernel))
    (case z_int => k_is)
    (case z_abs => k_is)
    (case z_range => k_is)
    (case z_min => k_is)
    (case z_max => k_is)
    (case z_bool => k_is)
    (case a_is_word => k_is)
    (case l_is_word => k_is)
    (case c_is_word => k_is)
    (case k_is_word => k_is)
    (case a_name_fits => k_is)
    (case l_name_fits => k_is)
    (case c_name_fits => k_is)
    (case k_name_fits => k_is)
    (case a_Project_is_name => k_is)
    (case ga_Project_is_name => k_is)
    (case ty_Project_is_name => k_is)
    (case rd_Project_is_name => k_is)
    (case at_Project_is_name => k_is)
    (case rc_Project_is_name => k_is)
    (case l_Project_is_name => k_is)
    (case c_Project_is_name => k_is)
    (case k_Project_is_name => k_is)
    (case a__law_source => k_is)
    (case l__law_source => k_is)
    (case c__law_source => k_is)
    (case k__law_source => k_is)
    (case a__law_draw => k_is)
    (case l__law_draw => k_is)
    (case c__law_draw => k_is)
    (case k__law_draw => k_is)
    (case a__law_kept => k_is)
    (case l__law_kept => k_is)
    (case c__law_kept => k_is)
    (case k__law_kept => k_is)
    (case a__law_letters => k_is)
    (case l__law_letters => k_is)
    (case c__law_letters => k_is)
    (case k__law_letters => k_is)
    (case a__law_signs => k_is)
    (case l__law_signs => k_is)
    (case c__law_signs => k_is)
    (case k__law_signs => k_is)
    (case a__law_value => k_is)
    (case l__law_value => k_is)
    (case c__law_value => k_is)
    (case k__law_value => k_is)
    (case a__law_due => k_is)
    (case l__law_due => k_is)
    (case c__law_due => k_is)
    (case k__law_due => k_is)
    (case a_law => k_is)
    (case l_law => k_is)
    (case c_law => k_is)
    (case k_law => k_is)
