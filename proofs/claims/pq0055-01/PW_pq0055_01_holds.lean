import PyProof.Rows.All
import Wide.All
import OpenK.AllK
import Wide.FinOn
import PySem.Challenge.RW_pq0055_01
open PySem PySem.W PySem.Calls PyProof.Rows
set_option Elab.async false
set_option maxRecDepth 100000
set_option linter.all false
set_option compiler.extract_closed false
-- part P1
namespace Mine

/-- ghost data -/
inductive V where
  | none | bool (b : Bool) | int (i : Int) | str (s : Str) | tup (l : List V) | raw (v : Value)

/-- a tuple; it bears no dict -/
noncomputable def IsTup (h : Heap) (a : Addr) (xs : Array Value) : Prop := ∃ o, h.get? a = some o ∧ o.cls = .type "tuple" ∧ o.dict = none ∧ ∃ n, o.data = .seq xs n
theorem IsTup.lib {h : Heap} {a : Addr} {xs : Array Value} (t : IsTup h a xs) : PyProof.Rows.IsTup h a xs := let ⟨o, e, hc, _, n, hd⟩ := t; ⟨o, e, hc, n, hd⟩
theorem IsTup.typeIs {s : Shared} {a : Addr} {xs : Array Value} (t : IsTup s.heap a xs) : s.TypeIs (.ref a) "tuple" := t.lib.typeIs
theorem IsTup.keeps {h h' : Heap} {a : Addr} {xs : Array Value} (t : IsTup h a xs) (k : ∀ b o, h.get? b = some o → h'.get? b = some o) : IsTup h' a xs := let ⟨o, e, r⟩ := t; ⟨o, k _ _ e, r⟩
theorem IsTup.new (h : Heap) (xs : Array Value) : IsTup (h.push { cls := .type "tuple", data := .seq xs }) h.objs.size xs := ⟨_, Heap.get?_push_size _ rfl, rfl, rfl, _, rfl⟩
theorem IsTup.push {h : Heap} {a : Addr} {xs : Array Value} (t : IsTup h a xs) (o : Obj) : IsTup (h.push o) a xs := t.keeps fun _ _ e => Heap.get?_push_of_some _ e

mutual
noncomputable def VR (h : Heap) : V → Value → Prop
  | .none, x => x = .none
  | .bool b, x => x = .bool b
  | .int i, x => ∃ t, x = .int i t
  | .str s, x => (s.length ≤ 1000 ∧ PyData.strOk s = true) ∧ ∃ t, x = .str s t
  | .tup l, x => ∃ a xs, x = .ref a ∧ IsTup h a xs ∧ VRs h l xs.toList
  | .raw v, x => x = v
noncomputable def VRs (h : Heap) : List V → List Value → Prop
  | [], xs => xs = []
  | v :: l, xs => ∃ x r, xs = x :: r ∧ VR h v x ∧ VRs h l r
end

/-- an object may have got other slots, if it is a frame -/
noncomputable def Like (o o' : Obj) : Prop := o' = o ∨ (o.cls = .type "frame" ∧ ∃ sl, o' = { o with slots := sl })
theorem Like.refl (o : Obj) : Like o o := .inl rfl
theorem Like.trans {a b c : Obj} (x : Like a b) (y : Like b c) : Like a c := by
  rcases x with rfl | ⟨h1, sl, rfl⟩
  · exact y
  · rcases y with rfl | ⟨_, sl', rfl⟩
    · exact .inr ⟨h1, sl, rfl⟩
    · exact .inr ⟨h1, sl', rfl⟩
theorem Like.cls {a b : Obj} (x : Like a b) : b.cls = a.cls := by rcases x with rfl | ⟨_, _, rfl⟩ <;> rfl
theorem Like.data {a b : Obj} (x : Like a b) : b.data = a.data := by rcases x with rfl | ⟨_, _, rfl⟩ <;> rfl
theorem Like.dict {a b : Obj} (x : Like a b) : b.dict = a.dict := by rcases x with rfl | ⟨_, _, rfl⟩ <;> rfl
theorem Like.eq {a b : Obj} (x : Like a b) (h : a.cls ≠ .type "frame") : b = a := by
  rcases x with rfl | ⟨h1, _⟩
  · rfl
  · exact absurd h1 h

/-- what does not lie in B has stayed -/
structure Ext (B : Addr → Prop) (h h' : Heap) : Prop where
  keep : ∀ a o, ¬ B a → h.get? a = some o → ∃ o', h'.get? a = some o' ∧ Like o o'
  size : h.objs.size ≤ h'.objs.size
theorem Ext.refl {B : Addr → Prop} (h : Heap) : Ext B h h := ⟨fun _ o _ e => ⟨o, e, .refl o⟩, Nat.le_refl _⟩
theorem Ext.trans {B B' : Addr → Prop} {h h1 h2 : Heap} (x : Ext B h h1) (y : Ext B' h1 h2) (hb : ∀ a, B' a → B a ∨ h.objs.size ≤ a) : Ext B h h2 :=
  ⟨fun a o ha e => by
    obtain ⟨o1, e1, l1⟩ := x.keep a o ha e
    have hlt := Heap.lt_size e
    have hb' : ¬ B' a := fun q => (hb a q).elim ha fun z => absurd hlt (Nat.not_lt.mpr z)
    obtain ⟨o2, e2, l2⟩ := y.keep a o1 hb' e1
    exact ⟨o2, e2, l1.trans l2⟩, Nat.le_trans x.size y.size⟩
theorem Ext.mono {B B' : Addr → Prop} {h h' : Heap} (x : Ext B h h') (hb : ∀ a, B a → B' a) : Ext B' h h' := ⟨fun a o ha e => x.keep a o (fun q => ha (hb a q)) e, x.size⟩
theorem Ext.push {B : Addr → Prop} (h : Heap) (o : Obj) : Ext B h (h.push o) := ⟨fun a o' _ e => ⟨o', Heap.get?_push_of_some _ e, .refl _⟩, by rw [Heap.size_push]; exact Nat.le_succ _⟩
theorem Ext.same {B : Addr → Prop} {h h' : Heap} {a : Addr} (hs : Heap.SameBut a h h') (ha : B a ∨ h.objs.size ≤ a) : Ext B h h' :=
  ⟨fun b o hb e => ⟨o, (hs.2 b (fun q => by
    subst q
    rcases ha with ha | ha
    · exact hb ha
    · exact absurd (Heap.lt_size e) (Nat.not_lt.mpr ha))).trans e, .refl _⟩, Nat.le_of_eq hs.1.symm⟩

mutual
theorem VR.mono {h h' : Heap} (hk : ∀ a xs, IsTup h a xs → IsTup h' a xs) : ∀ (v : V) (x : Value), VR h v x → VR h' v x
  | .none, _, e => e
  | .bool _, _, e => e
  | .int _, _, e => e
  | .str _, _, e => e
  | .raw _, _, e => e
  | .tup l, x, e => by
    simp only [VR] at e ⊢
    obtain ⟨a, xs, e1, e2, e3⟩ := e
    exact ⟨a, xs, e1, hk a xs e2, VRs.mono hk l xs.toList e3⟩
theorem VRs.mono {h h' : Heap} (hk : ∀ a xs, IsTup h a xs → IsTup h' a xs) : ∀ (l : List V) (xs : List Value), VRs h l xs → VRs h' l xs
  | [], _, e => e
  | v :: l, xs, e => by
    simp only [VRs] at e ⊢
    obtain ⟨x, r, e1, e2, e3⟩ := e
    exact ⟨x, r, e1, VR.mono hk v x e2, VRs.mono hk l r e3⟩
end

/-- B holds no tuple of h -/
noncomputable def NoTup (B : Addr → Prop) (h : Heap) : Prop := ∀ a xs, B a → ¬ IsTup h a xs
theorem IsTup.ext {B : Addr → Prop} {h h' : Heap} (n : NoTup B h) (x : Ext B h h') {a : Addr} {xs : Array Value} (t : IsTup h a xs) : IsTup h' a xs := by
  have hb : ¬ B a := fun q => n a xs q t
  obtain ⟨o, e, hc, hd⟩ := t
  obtain ⟨o', e', l⟩ := x.keep a o hb e
  have : o' = o := l.eq (by rw [hc]; decide)
  subst this
  exact ⟨o', e', hc, hd⟩
theorem VR.ext {B : Addr → Prop} {h h' : Heap} (n : NoTup B h) (x : Ext B h h') {v : V} {y : Value} (r : VR h v y) : VR h' v y := VR.mono (fun _ _ t => IsTup.ext n x t) v y r
theorem VRs.ext {B : Addr → Prop} {h h' : Heap} (n : NoTup B h) (x : Ext B h h') {v : List V} {y : List Value} (r : VRs h v y) : VRs h' v y := VRs.mono (fun _ _ t => IsTup.ext n x t) v y r

theorem VRs.length {h : Heap} : ∀ {l : List V} {xs : List Value}, VRs h l xs → xs.length = l.length
  | [], xs, e => by simp only [VRs] at e; subst e; rfl
  | v :: l, xs, e => by
    simp only [VRs] at e
    obtain ⟨x, r, rfl, _, e3⟩ := e
    simp [VRs.length e3]
theorem VRs.append {h : Heap} : ∀ {l l' : List V} {xs xs' : List Value}, VRs h l xs → VRs h l' xs' → VRs h (l ++ l') (xs ++ xs')
  | [], l', xs, xs', e, e' => by simp only [VRs] at e; subst e; exact e'
  | v :: l, l', xs, xs', e, e' => by
    simp only [VRs] at e
    obtain ⟨x, r, rfl, e2, e3⟩ := e
    simp only [List.cons_append, VRs]
    exact ⟨x, r ++ xs', rfl, e2, VRs.append e3 e'⟩
theorem VRs.get {h : Heap} : ∀ {l : List V} {xs : List Value} {i : Nat} {v : V}, VRs h l xs → l[i]? = some v → ∃ x, xs[i]? = some x ∧ VR h v x
  | [], _, _, _, _, e => by simp at e
  | w :: l, xs, i, v, r, e => by
    simp only [VRs] at r
    obtain ⟨x, r, rfl, e2, e3⟩ := r
    cases i with
    | zero => simp at e; subst e; exact ⟨x, rfl, e2⟩
    | succ i => simp only [List.getElem?_cons_succ] at e ⊢; exact VRs.get e3 e
theorem VRs.none_of {h : Heap} {l : List V} {xs : List Value} {i : Nat} (r : VRs h l xs) (e : l[i]? = none) : xs[i]? = none := by
  rw [List.getElem?_eq_none_iff] at e ⊢
  rw [r.length]; exact e
theorem VRs.cons {h : Heap} {v : V} {x : Value} {l : List V} {xs : List Value} (a : VR h v x) (b : VRs h l xs) : VRs h (v :: l) (x :: xs) := by
  simp only [VRs]; exact ⟨x, xs, rfl, a, b⟩
theorem VRs.nil {h : Heap} : VRs h [] [] := by simp only [VRs]
theorem VRs.snoc {h : Heap} {v : V} {x : Value} {l : List V} {xs : List Value} (b : VRs h l xs) (a : VR h v x) : VRs h (l ++ [v]) (xs ++ [x]) := b.append (.cons a .nil)
theorem VRs.drop {h : Heap} : ∀ {l : List V} {xs : List Value} (n : Nat), VRs h l xs → VRs h (l.drop n) (xs.drop n)
  | l, xs, 0, r => by simpa using r
  | [], xs, n + 1, r => by simp only [VRs] at r; subst r; simp [VRs]
  | v :: l, xs, n + 1, r => by
    simp only [VRs] at r
    obtain ⟨x, r, rfl, e2, e3⟩ := r
    simpa using VRs.drop n e3
theorem VRs.take {h : Heap} : ∀ {l : List V} {xs : List Value} (n : Nat), VRs h l xs → VRs h (l.take n) (xs.take n)
  | l, xs, 0, r => by simp [VRs]
  | [], xs, n + 1, r => by simp only [VRs] at r; subst r; simp [VRs]
  | v :: l, xs, n + 1, r => by
    simp only [VRs] at r
    obtain ⟨x, r, rfl, e2, e3⟩ := r
    simpa using VRs.cons e2 (VRs.take n e3)

/-- mutable objects -/
inductive MO where
  | list (l : List V)
  | dict (l : List (Str × V))
  | inst (C dx : Addr)
  | ns (l : List (Str × V))
  | exc (C : Addr) (d : Option Addr) (nw : Bool)
  | set (ks : List Str)
  | items (d : Addr)
noncomputable abbrev Sig := Addr → Option MO
noncomputable def upd (σ : Sig) (a : Addr) (m : MO) : Sig := fun b => if b = a then some m else σ b
theorem upd_same (σ : Sig) (a : Addr) (m : MO) : upd σ a m a = some m := by simp [upd]
theorem upd_ne (σ : Sig) {a b : Addr} (m : MO) (h : b ≠ a) : upd σ a m b = σ b := by simp [upd, h]

noncomputable def PairsR (h : Heap) : List (Str × V) → List (Str × Value) → Prop
  | [], ys => ys = []
  | (k, v) :: l, ys => ∃ x r, ys = (k, x) :: r ∧ VR h v x ∧ PairsR h l r
theorem PairsR.mono {h h' : Heap} (hk : ∀ a xs, IsTup h a xs → IsTup h' a xs) : ∀ (l : List (Str × V)) (xs), PairsR h l xs → PairsR h' l xs
  | [], _, e => e
  | (k, v) :: l, xs, e => by
    simp only [PairsR] at e ⊢
    obtain ⟨x, r, e1, e2, e3⟩ := e
    exact ⟨x, r, e1, VR.mono hk v x e2, PairsR.mono hk l r e3⟩

noncomputable def assoc : List (Str × V) → Str → Option V
  | [], _ => none
  | (k, v) :: l, x => if k = x then some v else assoc l x
noncomputable def EsR (h : Heap) : List (Str × V) → List DictEntry → Prop
  | [], es => es = []
  | (k, v) :: l, es => ∃ hs t x r, es = ⟨hs, .str k t, x⟩ :: r ∧ VR h v x ∧ EsR h l r
theorem EsR.mono {h h' : Heap} (hk : ∀ a xs, IsTup h a xs → IsTup h' a xs) : ∀ (l : List (Str × V)) (xs), EsR h l xs → EsR h' l xs
  | [], _, e => e
  | (k, v) :: l, xs, e => by
    simp only [EsR] at e ⊢
    obtain ⟨hs, t, x, r, e1, e2, e3⟩ := e
    exact ⟨hs, t, x, r, e1, VR.mono hk v x e2, EsR.mono hk l r e3⟩

/-- a set of strs -/
noncomputable def SetS (prog : Program) (w : World) (h : Heap) (a : Addr) (es : Array (Int × Value)) (led : Bool) : Prop :=
  ∃ o ep t, h.get? a = some o ∧ o.ExactSet ∧ o.data = .set es ep t ∧ ElemsOf (strKind prog w) es.toList ∧ es.size < scanBound ∧ t.fits es.size = true ∧ t.led = led ∧ (es.size ≠ 0 → t.plain = false)
/-- what lies in a set of strs -/
noncomputable def KeysAre (es : Array (Int × Value)) (ks : List Str) : Prop := ∃ ks', StrsAre (es.toList.map (·.2)) ks' ∧ ks'.Perm ks
noncomputable def byText (w : World) : Bool := w.params.followText "set-order"

section
variable (prog : Program) (w : World)
noncomputable def MR (h : Heap) (a : Addr) : MO → Prop
  | .list l => ∃ xs, h.PlainList a xs ∧ VRs h l xs.toList
  | .dict l => ∃ kvs, h.DictOf (strKind prog w) a kvs ∧ PairsR h l kvs
  | .inst C dx => h.get? a = some (instObj C dx)
  | .ns l => ∃ es n, h.get? a = some (W.dictOf es n) ∧ EsR h l es
  | .exc C d nw => ∃ vs, h.get? a = some ⟨.ref C, d, .fields vs, #[]⟩ ∧ (nw = true → 6 ≤ vs.size ∧ vs[1]? = some .none)
  | .set ks => ∃ es, SetS prog w h a es (!byText w) ∧ KeysAre es ks
  | .items d => h.get? a = some { cls := .type "dict_items", data := .fields #[.ref d] }

theorem MR.there {h : Heap} {a : Addr} {m : MO} (r : MR prog w h a m) : ∃ o, h.get? a = some o ∧ o.cls ≠ .type "tuple" ∧ o.cls ≠ .type "frame" ∧ (∀ v, o.data ≠ .cell v) := by
  cases m with
  | list l => obtain ⟨xs, ⟨n, e⟩, _⟩ := r; exact ⟨_, e, (show Value.type "list" ≠ _ by decide), (show Value.type "list" ≠ _ by decide), fun v q => by cases q⟩
  | dict l => obtain ⟨kvs, ⟨o, es, ep, e, hx, hd, _⟩, _⟩ := r; exact ⟨o, e, by rw [hx.1]; decide, by rw [hx.1]; decide, fun v q => by rw [hd] at q; cases q⟩
  | inst C dx => exact ⟨_, r, by simp, by simp, fun v q => by cases q⟩
  | ns l => obtain ⟨es, n, e, _⟩ := r; exact ⟨_, e, (show Value.type "dict" ≠ _ by decide), (show Value.type "dict" ≠ _ by decide), fun v q => by cases q⟩
  | exc C d nw => obtain ⟨vs, e, _⟩ := r; exact ⟨_, e, by simp, by simp, fun v q => by cases q⟩
  | set ks => obtain ⟨es, ⟨o, ep, t, e, hx, hd, _⟩, _⟩ := r; exact ⟨o, e, by rw [hx.1]; decide, by rw [hx.1]; decide, fun v q => by rw [hd] at q; cases q⟩
  | items d => exact ⟨_, r, (show Value.type "dict_items" ≠ _ by decide), (show Value.type "dict_items" ≠ _ by decide), fun v q => by cases q⟩
theorem MR.mono {h h' : Heap} {a : Addr} (hk : ∀ a xs, IsTup h a xs → IsTup h' a xs) (ho : ∀ o, h.get? a = some o → h'.get? a = some o) : ∀ {m : MO}, MR prog w h a m → MR prog w h' a m
  | .list l, ⟨xs, ⟨n, e⟩, r⟩ => ⟨xs, ⟨n, ho _ e⟩, VRs.mono hk _ _ r⟩
  | .dict l, ⟨kvs, ⟨o, es, ep, e, hx⟩, r⟩ => ⟨kvs, ⟨o, es, ep, ho _ e, hx⟩, PairsR.mono hk _ _ r⟩
  | .inst C dx, r => ho _ r
  | .ns l, ⟨es, n, e, r⟩ => ⟨es, n, ho _ e, EsR.mono hk _ _ r⟩
  | .exc C d nw, ⟨vs, e, r⟩ => ⟨vs, ho _ e, r⟩
  | .set ks, ⟨es, ⟨o, ep, t, e, r⟩, k⟩ => ⟨es, ⟨o, ep, t, ho _ e, r⟩, k⟩
  | .items d, e => ho _ e
end
end Mine

-- part P2
namespace Mine

/-- what stands fast in the whole proof -/
structure Cx where
  prog : Program
  w : World
  S : Heap
  K : Frag
  mg : Str → Option Value
  mb : Str → Option Value
  KIn : K.In S
  g : S.Ns mainGlobals mg
  b : S.Ns builtinsNs mb
  blt : ∀ x : Str, x ≠ "__name__" → mb x = bootBuiltins x
  nol : S.NoLimit

structure Rel (c : Cx) (σ : Sig) (h : Heap) : Prop where
  static : ∀ a o, c.S.get? a = some o → h.get? a = some o
  size : c.S.objs.size ≤ h.objs.size
  obj : ∀ a m, σ a = some m → c.S.objs.size ≤ a ∧ MR c.prog c.w h a m
noncomputable abbrev dom (σ : Sig) : Addr → Prop := fun a => σ a ≠ none

/-- the new objects of the ghost heap are new ones -/
noncomputable def Grown (σ : Sig) (h : Heap) (σ' : Sig) : Prop := ∀ a, σ' a ≠ none → σ a ≠ none ∨ h.objs.size ≤ a
theorem Grown.refl (σ : Sig) (h : Heap) : Grown σ h σ := fun _ q => .inl q
theorem Grown.trans {σ σ1 σ2 : Sig} {h h1 : Heap} (x : Grown σ h σ1) (y : Grown σ1 h1 σ2) (hs : h.objs.size ≤ h1.objs.size) : Grown σ h σ2 := fun a q =>
  (y a q).elim (x a) fun z => .inr (Nat.le_trans hs z)

section
variable {c : Cx} {σ σ' : Sig} {h h' : Heap}
theorem Rel.noTup (R : Rel c σ h) : NoTup (dom σ) h := fun a xs q t => by
  cases e : σ a with
  | none => exact q e
  | some m =>
    obtain ⟨o, ho, h1, _⟩ := MR.there c.prog c.w (R.obj a m e).2
    obtain ⟨o', ho', hc, _⟩ := t
    rw [ho] at ho'; cases ho'
    exact h1 hc
theorem Rel.vr (R : Rel c σ h) (x : Ext (dom σ) h h') {v : V} {y : Value} (r : VR h v y) : VR h' v y := VR.ext R.noTup x r
theorem Rel.vrs (R : Rel c σ h) (x : Ext (dom σ) h h') {v : List V} {y : List Value} (r : VRs h v y) : VRs h' v y := VRs.ext R.noTup x r
theorem Rel.lt (R : Rel c σ h) {a : Addr} (q : σ a ≠ none) : a < h.objs.size := by
  cases e : σ a with
  | none => exact absurd e q
  | some m => obtain ⟨o, ho, _⟩ := MR.there c.prog c.w (R.obj a m e).2; exact Heap.lt_size ho
theorem Rel.fresh (R : Rel c σ h) : σ h.objs.size = none := by
  cases e : σ h.objs.size with
  | none => rfl
  | some m => exact absurd (R.lt (by rw [e]; simp)) (Nat.lt_irrefl _)
theorem oldS {a : Addr} (ha : c.S.objs.size ≤ a) {b : Addr} {o : Obj} (e : c.S.get? b = some o) : b ≠ a := fun q => by
  subst q; exact absurd (Heap.lt_size e) (Nat.not_lt.mpr ha)

/-- anything may have been added; of what was, all stays -/
theorem Rel.grow (R : Rel c σ h) (hk : ∀ b o, h.get? b = some o → h'.get? b = some o) (hs : h.objs.size ≤ h'.objs.size) : Rel c σ h' :=
  ⟨fun a o e => hk a o (R.static a o e), Nat.le_trans R.size hs, fun a m e => ⟨(R.obj a m e).1, MR.mono c.prog c.w (fun a xs t => IsTup.keeps t hk) (fun o => hk a o) (R.obj a m e).2⟩⟩
theorem Rel.push (R : Rel c σ h) (o : Obj) : Rel c σ (h.push o) := R.grow (fun _ _ e => Heap.get?_push_of_some _ e) (by rw [Heap.size_push]; exact Nat.le_succ _)
/-- what lies beside the ghost heap, above the static one, and is no tuple may change -/
theorem Rel.beside (R : Rel c σ h) {B : Addr → Prop} (x : Ext B h h') (n : NoTup B h) (hσ : ∀ a, B a → σ a = none) (hS : ∀ a, B a → c.S.objs.size ≤ a)
    (hS' : ∀ a o, c.S.get? a = some o → h'.get? a = some o) : Rel c σ h' :=
  ⟨hS', Nat.le_trans R.size x.size, fun a m e => ⟨(R.obj a m e).1, by
    refine MR.mono c.prog c.w (fun a xs t => IsTup.ext n x t) (fun o ho => ?_) (R.obj a m e).2
    have hb : ¬ B a := fun q => by rw [hσ a q] at e; cases e
    obtain ⟨o', e', l⟩ := x.keep a o hb ho
    obtain ⟨o'', ho'', _, hf, _⟩ := MR.there c.prog c.w (R.obj a m e).2
    rw [ho] at ho''; cases ho''
    rw [l.eq hf] at e'; exact e'⟩⟩
theorem Rel.same (R : Rel c σ h) {a : Addr} (hs : Heap.SameBut a h h') (ha : σ a = none) (hS : c.S.objs.size ≤ a) (ht : ∀ xs, ¬ IsTup h a xs) : Rel c σ h' :=
  R.beside (B := fun b => b = a) (.same hs (.inl rfl)) (fun b xs q t => by subst q; exact ht xs t) (fun b q => by subst q; exact ha) (fun b q => by subst q; exact hS)
    fun b o e => (hs.2 b (oldS hS e)).trans (R.static b o e)
/-- an object of the ghost heap is changed -/
theorem Rel.change (R : Rel c σ h) {a : Addr} {m m' : MO} (e : σ a = some m) (hs : Heap.SameBut a h h') (hm : MR c.prog c.w h' a m') : Rel c (upd σ a m') h' := by
  have x : Ext (dom σ) h h' := .same hs (.inl (by show σ a ≠ none; rw [e]; simp))
  refine ⟨fun b o q => (hs.2 b (oldS (R.obj a m e).1 q)).trans (R.static b o q), Nat.le_trans R.size x.size, fun b mb q => ?_⟩
  by_cases hb : b = a
  · subst hb; rw [upd_same] at q; cases q; exact ⟨(R.obj b m e).1, hm⟩
  · rw [upd_ne _ _ hb] at q
    exact ⟨(R.obj b mb q).1, MR.mono c.prog c.w (fun a xs t => IsTup.ext R.noTup x t) (fun o ho => (hs.2 b hb).trans ho) (R.obj b mb q).2⟩
/-- an object is taken into the ghost heap -/
theorem Rel.add (R : Rel c σ h) {a : Addr} {m : MO} (ha : c.S.objs.size ≤ a) (hm : MR c.prog c.w h a m) : Rel c (upd σ a m) h :=
  ⟨R.static, R.size, fun b mb q => by
    by_cases hb : b = a
    · subst hb; rw [upd_same] at q; cases q; exact ⟨ha, hm⟩
    · rw [upd_ne _ _ hb] at q; exact R.obj b mb q⟩
/-- objects are forgotten -/
noncomputable def Sub (σ' σ : Sig) : Prop := ∀ a m, σ' a = some m → σ a = some m
theorem Sub.refl (σ : Sig) : Sub σ σ := fun _ _ e => e
theorem Sub.upd {a : Addr} {m : MO} (h : σ a = none) : Sub σ (upd σ a m) := fun b mb e => by
  by_cases hb : b = a
  · subst hb; rw [h] at e; cases e
  · rw [upd_ne _ _ hb]; exact e
theorem Sub.trans {σ1 σ2 σ3 : Sig} (x : Sub σ1 σ2) (y : Sub σ2 σ3) : Sub σ1 σ3 := fun a m e => y a m (x a m e)
theorem Rel.forget (R : Rel c σ h) (x : Sub σ' σ) : Rel c σ' h := ⟨R.static, R.size, fun a m e => R.obj a m (x a m e)⟩
theorem Grown.sub {σ1 : Sig} (x : Grown σ h σ1) (y : Sub σ' σ1) : Grown σ h σ' := fun a q => x a (by
  cases e : σ' a with
  | none => exact absurd e q
  | some m => rw [y a m e]; simp)
theorem Grown.upd {a : Addr} {m : MO} (ha : σ a ≠ none ∨ h.objs.size ≤ a) : Grown σ h (upd σ a m) := fun b q => by
  by_cases hb : b = a
  · subst hb; exact ha
  · rw [upd_ne _ _ hb] at q; exact .inl q
end

/-- the frames that stand on the stack -/
noncomputable def FrameOk (c : Cx) (σ : Sig) (h : Heap) (e : Env) : Prop :=
  ∃ f o, e.frame = some f ∧ h.get? f = some o ∧ o.cls = .type "frame" ∧ (∃ es n, o.data = .dict es n) ∧ σ f = none ∧ c.S.objs.size ≤ f ∧ e.scope.kind ≠ .module
/-- the room that is asked; whether nothing may be handled -/
structure Lv where
  n : Nat
  hn : Bool
structure AOk (c : Cx) (N : Lv) (A : Around) (σ : Sig) (h : Heap) : Prop where
  depth : A.depth + N.n < recursionLimit
  units : A.units + 16 * N.n < cLine
  han : N.hn = true → A.handled = none
  frames : ∃ l, A.frames = some l ∧ ∀ e ∈ l, FrameOk c σ h e
  guards : A.guards = some []
theorem FrameOk.ext {c : Cx} {σ σ' : Sig} {h h' : Heap} {e : Env} {B : Addr → Prop} (F : FrameOk c σ h e) (x : Ext B h h') (hB : ∀ f, e.frame = some f → ¬ B f) (g : Grown σ h σ') : FrameOk c σ' h' e := by
  obtain ⟨f, o, e1, e2, e3, ⟨es, n, e4⟩, e5, e6, e7⟩ := F
  obtain ⟨o', e', l⟩ := x.keep f o (hB f e1) e2
  refine ⟨f, o', e1, e', l.cls.trans e3, ⟨es, n, l.data.trans e4⟩, ?_, e6, e7⟩
  cases q : σ' f with
  | none => rfl
  | some m => exact ((g f (by rw [q]; simp)).elim (fun z => absurd e5 z) fun z => absurd (Heap.lt_size e2) (Nat.not_lt.mpr z))
theorem AOk.ext {c : Cx} {N : Lv} {A : Around} {σ σ' : Sig} {h h' : Heap} (a : AOk c N A σ h) (x : Ext (dom σ) h h') (g : Grown σ h σ') : AOk c N A σ' h' :=
  ⟨a.depth, a.units, a.han, let ⟨l, e, f⟩ := a.frames; ⟨l, e, fun y hy => (f y hy).ext x (fun k hk q => by
    obtain ⟨f', o, e1, _, _, _, e5, _⟩ := f y hy
    rw [e1] at hk; cases hk
    exact q e5) g⟩, a.guards⟩

/-- the frame at hand: its names -/
noncomputable abbrev Rho := List (Str × Option V)
noncomputable def VarR (env : Env) (h : Heap) (m : Str → Option Value) (x : Str) (v : V) : Prop :=
  (env.kindOf x = some .local ∧ ∃ y, m x = some y ∧ VR h v y) ∨
  (env.kindOf x = some .cell ∧ ∃ k y, env.cells.lookup x = some k ∧ h.IsCell k (some y) ∧ VR h v y)
structure EnvR (c : Cx) (σ : Sig) (env : Env) (ρ : Rho) (h : Heap) : Prop where
  kind : env.scope.kind = .function
  glob : env.globals = mainGlobals
  blt : env.builtins = builtinsNs
  loc : σ env.locals = none ∧ c.S.objs.size ≤ env.locals
  cells : ∀ x k, env.cells.lookup x = some k → σ k = none ∧ c.S.objs.size ≤ k ∧ ∃ v, h.IsCell k v
  apart : env.cells.Pairwise fun x y => x.2 ≠ y.2
  vars : ∃ m, h.Ns env.locals m ∧ ∀ x v, (x, some v) ∈ ρ → VarR env h m x v
  nodup : (ρ.map (·.1)).Nodup
  kinds : ∀ x ∈ ρ.map (·.1), env.kindOf x = some .local ∨ (env.kindOf x = some .cell ∧ ∃ k, env.cells.lookup x = some k)
  own : env.frame = some env.locals ∨ ∃ o, h.get? env.locals = some o ∧ o.cls ≠ .type "frame"
  hand : ∃ f o, env.frame = some f ∧ h.get? f = some o ∧ o.cls = .type "frame" ∧ ∃ es n, o.data = .dict es n

/-- what the frame at hand may change -/
noncomputable def mine (env : Env) : Addr → Prop := fun a => a = env.locals ∨ ∃ x, env.cells.lookup x = some a

section
variable {c : Cx} {σ σ' : Sig} {h h' : Heap} {env : Env} {ρ : Rho}
theorem Ns.like {h h' : Heap} {a : Addr} {m : Str → Option Value} {B : Addr → Prop} (n : h.Ns a m) (x : Ext B h h') (hb : ¬ B a) : h'.Ns a m := by
  obtain ⟨o, es, ep, e1, e2, r⟩ := n
  obtain ⟨o', e', l⟩ := x.keep a o hb e1
  exact ⟨o', es, ep, e', l.data.trans e2, r⟩
theorem IsCell.like {h h' : Heap} {a : Addr} {v : Option Value} {B : Addr → Prop} (n : h.IsCell a v) (x : Ext B h h') (hb : ¬ B a) : h'.IsCell a v := by
  obtain ⟨o, e1, e2⟩ := n
  obtain ⟨o', e', l⟩ := x.keep a o hb e1
  exact ⟨o', e', l.data.trans e2⟩
theorem grown_none {a : Addr} (g : Grown σ h σ') (e : σ a = none) (hlt : a < h.objs.size) : σ' a = none := by
  cases q : σ' a with
  | none => rfl
  | some m => exact ((g a (by rw [q]; simp)).elim (fun z => absurd e z) fun z => absurd hlt (Nat.not_lt.mpr z))
theorem EnvR.ext (E : EnvR c σ env ρ h) (R : Rel c σ h) (x : Ext (dom σ) h h') (g : Grown σ h σ') : EnvR c σ' env ρ h' := by
  obtain ⟨m, hn, hv⟩ := E.vars
  have hl : ¬ dom σ env.locals := fun q => q E.loc.1
  refine ⟨E.kind, E.glob, E.blt, ⟨grown_none g E.loc.1 hn.lt, E.loc.2⟩, fun y k e => ?_, E.apart, ⟨m, Ns.like hn x hl, fun y v hm => ?_⟩, E.nodup, E.kinds, ?_, ?_⟩
  · obtain ⟨a1, a2, v, a3⟩ := E.cells y k e
    exact ⟨grown_none g a1 a3.lt, a2, v, IsCell.like a3 x fun q => q a1⟩
  · rcases hv y v hm with ⟨k1, z, e1, e2⟩ | ⟨k1, k, z, e1, e2, e3⟩
    · exact .inl ⟨k1, z, e1, R.vr x e2⟩
    · obtain ⟨a1, a2, v, a3⟩ := E.cells y k e1
      exact .inr ⟨k1, k, z, e1, IsCell.like e2 x fun q => q a1, R.vr x e3⟩
  · refine E.own.imp id fun ⟨o, e1, e2⟩ => ?_
    obtain ⟨o', e', l⟩ := x.keep _ o hl e1
    exact ⟨o', e', fun q => e2 (l.cls.symm.trans q)⟩
  · obtain ⟨f, o, e1, e2, e3, es, n, e4⟩ := E.hand
    by_cases hf : σ f = none
    · obtain ⟨o', e', l⟩ := x.keep f o (fun q => q hf) e2
      exact ⟨f, o', e1, e', l.cls.trans e3, es, n, l.data.trans e4⟩
    · exfalso
      cases q : σ f with
      | none => exact hf q
      | some mo =>
        obtain ⟨o'', ho'', _, h3, _⟩ := MR.there c.prog c.w (R.obj f mo q).2
        rw [e2] at ho''; cases ho''; exact h3 e3
end

noncomputable abbrev both (σ : Sig) (env : Env) : Addr → Prop := fun a => dom σ a ∨ mine env a
theorem AOk.ext2 {c : Cx} {N : Lv} {A : Around} {σ σ' : Sig} {h h' : Heap} {env : Env} {ρ ρ' : Rho} (a : AOk c N A σ h) (E : EnvR c σ env ρ h) (x : Ext (both σ env) h h') (g : Grown σ h σ') (E' : EnvR c σ' env ρ' h') : AOk c N A σ' h' :=
  ⟨a.depth, a.units, a.han, let ⟨l, e, f⟩ := a.frames; ⟨l, e, fun y hy => by
    obtain ⟨f', o, e1, e2, e3, e4, e5, e6⟩ := f y hy
    by_cases hm : mine env f'
    · rcases hm with rfl | ⟨z, hz⟩
      · have hf : env.frame = some env.locals := E.own.elim id fun ⟨o', q1, q2⟩ => by rw [e2] at q1; cases q1; exact absurd e3 q2
        obtain ⟨f2, o2, p1, p2, p3, p4⟩ := E'.hand
        rw [hf] at p1; cases p1
        exact ⟨_, o2, e1, p2, p3, p4, E'.loc.1, e6⟩
      · obtain ⟨_, _, v, o', q1, q2⟩ := E.cells z f' hz
        obtain ⟨es, n, e4⟩ := e4
        rw [e2] at q1; cases q1; rw [e4] at q2; cases q2
    · exact (show FrameOk c σ h y from ⟨f', o, e1, e2, e3, e4, e5, e6⟩).ext x (fun k hk q => by
        rw [e1] at hk; cases hk
        exact q.elim (fun z => z e5) hm) g⟩, a.guards⟩

/-- an own exception: its class, what its dict holds -/
structure Exn where
  C : Addr
  fs : List (Str × V)
/-- e flies (lo: it and what it holds are newer) -/
noncomputable def Fly (c : Cx) (σ : Sig) (lo : Nat) (h : Heap) (e : Addr) (ex : Exn) : Prop :=
  lo ≤ e ∧ c.S.objs.size ≤ e ∧ σ e = none ∧ ∃ dx vs, h.get? e = some ⟨.ref ex.C, some dx, .fields vs, #[]⟩ ∧ 6 ≤ vs.size ∧ lo ≤ dx ∧ c.S.objs.size ≤ dx ∧ σ dx = none ∧ dx ≠ e ∧
    (∃ es n, h.get? dx = some (W.dictOf es n) ∧ EsR h ex.fs es) ∧
    (vs[1]? = some .none ∨ ∃ tb ot us, vs[1]? = some (.ref tb) ∧ lo ≤ tb ∧ c.S.objs.size ≤ tb ∧ σ tb = none ∧ tb ≠ e ∧ tb ≠ dx ∧ h.get? tb = some ot ∧ ot.cls = .type "traceback" ∧ ot.data = .fields us ∧ 5 ≤ us.size)
end Mine

-- part T1
namespace Mine
open Sem (wp)

theorem putName_cls (name : Str) (hsh : Int) (key v : Value) (o : Obj) : (Obj.putName name hsh key v o).cls = o.cls := by
  rw [Obj.putName_eq]; obtain ⟨c, d, dt, sl⟩ := o; cases dt <;> simp only [Obj.putNameByArray]
  split <;> rfl

theorem nsSet_iff {M : Model} {Γ : Ctx} {E : Value → Pos → Shared → Prop} {p : Pos} {s : Shared} {a : Addr} {m} (hn : s.heap.Ns a m) (name : Str) (v : Value) :
    ∃ hsh key, ∀ Q : Unit → Pos → Shared → Prop, wp M Γ (nsSet a name v) Q E p s ↔ Q () p { s with heap := s.heap.update a (Obj.putName name hsh key v), toks := s.toks + 1 } := by
  obtain ⟨o, es, ep, ho, hd, hk, hm⟩ := hn
  refine ⟨(if name.cps.isEmpty then 0 else reduceHash (M.w.params.strHash name.cps)), Value.str name s.toks, fun Q => ?_⟩
  simp only [nsSet, strHash, Sem.wp_bind', Sem.wp_cmd_ask, Sem.wp_pure', Sem.wp_cmd_mkText]
  rw [Sem.wp_loadPart_of M Γ E p { s with toks := s.toks + 1 } (o := o) _ ho]
  have hany : es.any (·.refKey) = false := by
    rw [Array.any_eq_false']; intro e he; obtain ⟨n, t, h⟩ := hk e he; simp [DictEntry.refKey, h]
  simp only [hd, aRefKeyMayBeTheName_eq, aRefKeyMayBeTheNameByArray, hany, Bool.and_false, Bool.false_eq_true, if_false, Sem.wp_cmd_updatePart]
  exact ⟨fun h => h.2, fun h => ⟨by rw [ho]; rfl, h⟩⟩

theorem nsSet_ {M : Model} {A : Around} {E : Value → Shared → Prop} {s : Shared} {a : Addr} {m} {name : Str} {v : Value} {Q : Unit → Shared → Prop} (hn : s.heap.Ns a m)
    (h : ∀ h', h'.Ns a (fun x => if x = name then some v else m x) → Heap.SameBut a s.heap h' → (∀ o, s.heap.get? a = some o → ∃ o', h'.get? a = some o' ∧ o'.cls = o.cls) → Q () { s with heap := h', toks := s.toks + 1 }) :
    wpAny M A (nsSet a name v) Q E s := fun Γ p hΓ => by
  obtain ⟨hsh, key, hi⟩ := nsSet_iff (M := M) (Γ := Γ) (E := fun e _ s' => E e s') (p := p) hn name v
  rw [hi]
  have q := (hi (fun _ _ s' => s'.heap.Ns a (fun x => if x = name then some v else m x) ∧ Heap.SameBut a s.heap s'.heap)).mp (Sem.wp_nsSet M Γ _ p s hn name v _ fun h' a b => ⟨a, b⟩)
  refine h _ q.1 q.2 fun o ho => ?_
  obtain ⟨o', _, _, ho', hd', _⟩ := q.1
  refine ⟨o', ho', ?_⟩
  obtain ⟨o₀, es, ep, ho₀, hd₀, _⟩ := hn
  rw [ho] at ho₀; cases ho₀
  have : (s.heap.update a (Obj.putName name hsh key v)).get? a = some (Obj.putName name hsh key v o) := by
    refine Heap.get?_update_self _ ho ?_
    rw [Obj.putName_eq]; obtain ⟨c, d, dt, sl⟩ := o; subst hd₀; simp only [Obj.putNameByArray]; split <;> rfl
  have ho'' : (s.heap.update a (Obj.putName name hsh key v)).get? a = some o' := ho'
  rw [this] at ho''; cases ho''
  exact putName_cls ..
end Mine

-- part P3
namespace Mine

noncomputable abbrev Tk := Nat × Drawn
noncomputable abbrev tks (s : Shared) : Tk := (s.toks, s.drawn)
noncomputable def at_ (s : Shared) (h : Heap) (tk : Tk) : Shared := { s with heap := h, toks := tk.1, drawn := tk.2 }

inductive Put (x : Str) (v : Option V) : Rho → Rho → Prop
  | here {u r} : Put x v ((x, u) :: r) ((x, v) :: r)
  | there {p r r'} : Put x v r r' → Put x v (p :: r) (p :: r')
theorem Put.keys {x : Str} {v : Option V} {ρ ρ' : Rho} (p : Put x v ρ ρ') : ρ'.map (·.1) = ρ.map (·.1) := by
  induction p with
  | here => rfl
  | there _ ih => simp [ih]
theorem Put.mem {x : Str} {v : Option V} {ρ ρ' : Rho} (p : Put x v ρ ρ') : x ∈ ρ.map (·.1) := by
  induction p with
  | here => simp
  | there _ ih => simp only [List.map_cons]; exact .tail _ ih
theorem Put.cases {x : Str} {v : Option V} {ρ ρ' : Rho} (p : Put x v ρ ρ') (n : (ρ.map (·.1)).Nodup) {y : Str} {u : Option V} (m : (y, u) ∈ ρ') : (y = x ∧ u = v) ∨ (y ≠ x ∧ (y, u) ∈ ρ) := by
  induction p with
  | @here u' r =>
    rcases List.mem_cons.mp m with e | m'
    · cases e; exact .inl ⟨rfl, rfl⟩
    · refine .inr ⟨?_, .tail _ m'⟩
      rintro rfl
      rw [List.map_cons, List.nodup_cons] at n
      exact n.1 (List.mem_map.mpr ⟨_, m', rfl⟩)
  | @there q r r' p ih =>
    rw [List.map_cons, List.nodup_cons] at n
    rcases List.mem_cons.mp m with e | m
    · subst e
      refine .inr ⟨?_, .head _⟩
      rintro rfl
      exact n.1 p.mem
    · rcases ih n.2 m with h | ⟨h1, h2⟩
      · exact .inl h
      · exact .inr ⟨h1, .tail _ h2⟩

section
variable {c : Cx} {σ : Sig} {env : Env} {ρ ρ' : Rho} {M : Model} {A : Around} {E : Value → Shared → Prop} {s : Shared}
theorem EnvR.mine_noTup {h : Heap} (Ev : EnvR c σ env ρ h) : NoTup (mine env) h := by
  rintro a xs q ⟨o, ho, hc, _, n, hd⟩
  rcases q with rfl | ⟨x, e⟩
  · obtain ⟨m, ⟨o', es, ep, h1, h2, _⟩, _⟩ := Ev.vars
    rw [ho] at h1; cases h1
    rw [hd] at h2; cases h2
  · obtain ⟨_, _, v, o', h1, h2⟩ := Ev.cells x a e
    rw [ho] at h1; cases h1
    rw [hd] at h2; cases h2
theorem EnvR.put {h : Heap} (Ev : EnvR c σ env ρ h) {x : Str} (p : Put x none ρ ρ') : EnvR c σ env ρ' h :=
  { Ev with
    vars := let ⟨m, hn, hv⟩ := Ev.vars; ⟨m, hn, fun y v hm => by
      rcases p.cases Ev.nodup hm with ⟨_, e⟩ | ⟨_, hm'⟩
      · cases e
      · exact hv y v hm'⟩
    nodup := by rw [p.keys]; exact Ev.nodup
    kinds := fun y hy => Ev.kinds y (by rw [← p.keys]; exact hy) }

theorem cells_ne {env : Env} (ap : env.cells.Pairwise fun x y => x.2 ≠ y.2) {x y : Str} {k k' : Addr} (h : env.cells.lookup x = some k) (h' : env.cells.lookup y = some k') (hxy : y ≠ x) : k' ≠ k := fun e =>
  hxy (name_of_addr ap (e ▸ mem_of_lookup h') (mem_of_lookup h))

theorem store_ {x : Str} {v : V} {y : Value} {Q : Unit → Shared → Prop} (R : Rel c σ s.heap) (Ev : EnvR c σ env ρ s.heap) (p : Put x (some v) ρ ρ') (r : VR s.heap v y)
    (h : ∀ h' tk, Rel c σ h' → EnvR c σ env ρ' h' → Ext (mine env) s.heap h' → (∀ o, s.heap.get? env.locals = some o → ∃ o', h'.get? env.locals = some o' ∧ o'.cls = o.cls) → Q () (at_ s h' tk)) :
    wpAny M A (storeName env x y) Q E s := by
  obtain ⟨m, hn, hv⟩ := Ev.vars
  have hp : (env.scope.kind == .class || (env.scope.kind == .module && env.locals != env.globals)) = false := by rw [Ev.kind]; rfl
  have nt := Ev.mine_noTup
  rcases Ev.kinds x p.mem with hl | ⟨hl, k, hk⟩
  · rw [storeName_local hl hp]
    refine nsSet_ hn fun h' hn' hs hc => ?_
    have X : Ext (mine env) s.heap h' := .same hs (.inl (.inl rfl))
    have R' : Rel c σ h' := R.same hs Ev.loc.1 Ev.loc.2 fun xs t => nt _ _ (.inl rfl) t
    refine h h' (s.toks + 1, s.drawn) R' ⟨Ev.kind, Ev.glob, Ev.blt, Ev.loc, fun z k' e => ?_, Ev.apart, ⟨_, hn', fun z u hm => ?_⟩, by rw [p.keys]; exact Ev.nodup, fun z hz => Ev.kinds z (by rw [← p.keys]; exact hz), Ev.own.imp id fun ⟨o, e1, e2⟩ => (hc o e1).imp fun o' q => ⟨q.1, by rw [q.2]; exact e2⟩, ?_⟩ X hc
    · obtain ⟨a1, a2, u, a3⟩ := Ev.cells z k' e
      refine ⟨a1, a2, u, a3.sameBut hs fun q => ?_⟩
      subst q
      obtain ⟨o, h1, h2⟩ := a3
      obtain ⟨o', es, ep, h3, h4, _⟩ := hn
      rw [h1] at h3; cases h3; rw [h2] at h4; cases h4
    · rcases p.cases Ev.nodup hm with ⟨rfl, e⟩ | ⟨hne, hm'⟩
      · cases e
        exact .inl ⟨hl, y, by simp, VR.ext nt X r⟩
      · rcases hv z u hm' with ⟨k1, y1, e1, e2⟩ | ⟨k1, k', y1, e1, e2, e3⟩
        · exact .inl ⟨k1, y1, by simp [hne, e1], VR.ext nt X e2⟩
        · refine .inr ⟨k1, k', y1, e1, e2.sameBut hs fun q => ?_, VR.ext nt X e3⟩
          subst q
          obtain ⟨o, h1, h2⟩ := e2
          obtain ⟨o', es, ep, h3, h4, _⟩ := hn
          rw [h1] at h3; cases h3; rw [h2] at h4; cases h4
    · obtain ⟨f, o, e1, e2, e3⟩ := Ev.hand
      by_cases hf : f = env.locals
      · subst hf
        obtain ⟨o', e4, e5⟩ := hc o e2
        obtain ⟨o'', es, ep, e6, e7, _⟩ := hn'
        rw [e4] at e6; cases e6
        exact ⟨_, o', e1, e4, e5.trans e3.1, es, ep, e7⟩
      · exact ⟨f, o, e1, (hs.2 f hf).trans e2, e3⟩
  · obtain ⟨a1, a2, u0, a3⟩ := Ev.cells x k hk
    have hkl : k ≠ env.locals := fun q => by
      subst q
      obtain ⟨o, h1, h2⟩ := a3
      obtain ⟨o', es, ep, h3, h4, _⟩ := hn
      rw [h1] at h3; cases h3; rw [h2] at h4; cases h4
    refine wpAny_storeName_cell Ev.kind hl hk a3 fun h' hc' hs => ?_
    have X : Ext (mine env) s.heap h' := .same hs (.inl (.inr ⟨x, hk⟩))
    have R' : Rel c σ h' := R.same hs a1 a2 fun xs t => nt _ _ (.inr ⟨x, hk⟩) t
    refine h h' (tks s) R' ⟨Ev.kind, Ev.glob, Ev.blt, Ev.loc, fun z k' e => ?_, Ev.apart, ⟨m, hn.sameBut hs hkl.symm, fun z u hm => ?_⟩, by rw [p.keys]; exact Ev.nodup, fun z hz => Ev.kinds z (by rw [← p.keys]; exact hz), Ev.own.imp id fun ⟨o, e1, e2⟩ => ⟨o, (hs.2 _ hkl.symm).trans e1, e2⟩, ?_⟩ X
      fun o ho => ⟨o, (hs.2 _ hkl.symm).trans ho, rfl⟩
    · obtain ⟨b1, b2, u, b3⟩ := Ev.cells z k' e
      by_cases q : k' = k
      · subst q; exact ⟨b1, b2, _, hc'⟩
      · exact ⟨b1, b2, u, b3.sameBut hs q⟩
    · rcases p.cases Ev.nodup hm with ⟨rfl, e⟩ | ⟨hne, hm'⟩
      · cases e
        exact .inr ⟨hl, k, y, hk, hc', VR.ext nt X r⟩
      · rcases hv z u hm' with ⟨k1, y1, e1, e2⟩ | ⟨k1, k', y1, e1, e2, e3⟩
        · exact .inl ⟨k1, y1, e1, VR.ext nt X e2⟩
        · exact .inr ⟨k1, k', y1, e1, e2.sameBut hs (cells_ne Ev.apart hk e1 hne), VR.ext nt X e3⟩
    · obtain ⟨f, o, e1, e2, e3⟩ := Ev.hand
      refine ⟨f, o, e1, (hs.2 f fun q => ?_).trans e2, e3⟩
      subst q
      obtain ⟨o', h1, h2⟩ := a3
      rw [e2] at h1; cases h1
      obtain ⟨_, es, n, e4⟩ := e3
      rw [e4] at h2; cases h2
end
end Mine

-- part P4
namespace Mine

section
variable (c : Cx) {α β : Type}
/-- what a tree may end in -/
noncomputable def Post (σ : Sig) (s : Shared) (rel : Heap → β → α → Prop) (Q : β → Sig → Prop) (QQ : α → Shared → Prop) : Prop :=
  ∀ b a σ' h' tk', Q b σ' → rel h' b a → Rel c σ' h' → Ext (dom σ) s.heap h' → Grown σ s.heap σ' → QQ a (at_ s h' tk')
noncomputable def XPost (σ : Sig) (s : Shared) (X : Exn → Sig → Prop) (EE : Value → Shared → Prop) : Prop :=
  ∀ e ex σ' h' tk', X ex σ' → Fly c σ' s.heap.objs.size h' e ex → Rel c σ' h' → Ext (dom σ) s.heap h' → Grown σ s.heap σ' → EE (.ref e) (at_ s h' tk')
variable {c}
theorem Fly.lo {σ : Sig} {lo lo' : Nat} {h : Heap} {e : Addr} {ex : Exn} (f : Fly c σ lo h e ex) (hl : lo' ≤ lo) : Fly c σ lo' h e ex := by
  obtain ⟨a, b, c', dx, vs, d, e', f', g, i, j, k, l⟩ := f
  refine ⟨Nat.le_trans hl a, b, c', dx, vs, d, e', Nat.le_trans hl f', g, i, j, k, l.imp id fun ⟨tb, ot, us, h1, h2, r⟩ => ⟨tb, ot, us, h1, Nat.le_trans hl h2, r⟩⟩
theorem dom_back {σ σ1 : Sig} {h : Heap} (g : Grown σ h σ1) : ∀ a, dom σ1 a → dom σ a ∨ h.objs.size ≤ a := fun a q => g a q
theorem Post.step {σ σ1 : Sig} {s : Shared} {rel : Heap → β → α → Prop} {Q : β → Sig → Prop} {QQ : α → Shared → Prop} (p : Post c σ s rel Q QQ) {h1 : Heap} {tk1 : Tk} (x : Ext (dom σ) s.heap h1) (g : Grown σ s.heap σ1) :
    Post c σ1 (at_ s h1 tk1) rel Q QQ := fun b a σ' h' tk' q r R x' g' => p b a σ' h' tk' q r R (x.trans x' (dom_back g)) (g.trans g' x.size)
theorem XPost.step {σ σ1 : Sig} {s : Shared} {X : Exn → Sig → Prop} {EE : Value → Shared → Prop} (p : XPost c σ s X EE) {h1 : Heap} {tk1 : Tk} (x : Ext (dom σ) s.heap h1) (g : Grown σ s.heap σ1) :
    XPost c σ1 (at_ s h1 tk1) X EE := fun e ex σ' h' tk' q f R x' g' => p e ex σ' h' tk' q (f.lo x.size) R (x.trans x' (dom_back g)) (g.trans g' x.size)
end

/-- a tree in the frame at hand -/
noncomputable def G (c : Cx) (N : Lv) (env : Env) (ρ : Rho) (σ : Sig) {α β : Type} (rel : Heap → β → α → Prop) (t : Sem α) (Q : β → Sig → Prop) (X : Exn → Sig → Prop) : Prop :=
  ∀ (A : Around) (s : Shared) (QQ : α → Shared → Prop) (EE : Value → Shared → Prop), AOk c N A σ s.heap → Rel c σ s.heap → EnvR c σ env ρ s.heap → Post c σ s rel Q QQ → XPost c σ s X EE → wpAny (model c.prog c.w) A t QQ EE s
noncomputable abbrev EvG (c : Cx) (N : Lv) (env : Env) (ρ : Rho) (e : PySem.Expr) (σ : Sig) (Q : V → Sig → Prop) (X : Exn → Sig → Prop) : Prop := G c N env ρ σ VR (eval e env) Q X
/-- flows -/
inductive GF where
  | next | ret (v : V)
noncomputable def FR (h : Heap) : GF → Flow → Prop
  | .next, f => f = .next
  | .ret v, f => ∃ y, f = .ret y ∧ VR h v y
noncomputable def SPost (c : Cx) (env : Env) (σ : Sig) (s : Shared) (Q : GF → Rho → Sig → Prop) (QQ : Flow → Shared → Prop) : Prop :=
  ∀ f fl ρ' σ' h' tk', Q f ρ' σ' → FR h' f fl → Rel c σ' h' → EnvR c σ' env ρ' h' → Ext (both σ env) s.heap h' → Grown σ s.heap σ' → QQ fl (at_ s h' tk')
noncomputable def SXPost (c : Cx) (env : Env) (σ : Sig) (s : Shared) (X : Exn → Rho → Sig → Prop) (EE : Value → Shared → Prop) : Prop :=
  ∀ e ex ρ' σ' h' tk', X ex ρ' σ' → Fly c σ' s.heap.objs.size h' e ex → Rel c σ' h' → EnvR c σ' env ρ' h' → Ext (both σ env) s.heap h' → Grown σ s.heap σ' → EE (.ref e) (at_ s h' tk')
/-- the frame at hand is the newest -/
noncomputable def OnTop (A : Around) (env : Env) : Prop := ∃ e l, A.frames = some (e :: l) ∧ e.frame = env.frame
noncomputable def ExG (c : Cx) (N : Lv) (env : Env) (ρ : Rho) (t : Sem Flow) (σ : Sig) (Q : GF → Rho → Sig → Prop) (X : Exn → Rho → Sig → Prop) : Prop :=
  ∀ (A : Around) (s : Shared) (QQ : Flow → Shared → Prop) (EE : Value → Shared → Prop), OnTop A env → AOk c N A σ s.heap → Rel c σ s.heap → EnvR c σ env ρ s.heap → SPost c env σ s Q QQ → SXPost c env σ s X EE → wpAny (model c.prog c.w) A t QQ EE s

section
variable {c : Cx} {N : Lv} {env : Env} {ρ : Rho} {σ : Sig} {Q : V → Sig → Prop} {X : Exn → Sig → Prop} {SQ : GF → Rho → Sig → Prop} {SX : Exn → Rho → Sig → Prop}
theorem both_back {σ σ1 : Sig} {h : Heap} (g : Grown σ h σ1) : ∀ a, both σ1 env a → both σ env a ∨ h.objs.size ≤ a := fun a q =>
  q.elim (fun z => (g a z).imp .inl id) fun z => .inl (.inr z)
theorem SPost.step {σ1 : Sig} {s : Shared} {QQ : Flow → Shared → Prop} (p : SPost c env σ s SQ QQ) {h1 : Heap} {tk1 : Tk} (x : Ext (both σ env) s.heap h1) (g : Grown σ s.heap σ1) : SPost c env σ1 (at_ s h1 tk1) SQ QQ :=
  fun f fl ρ' σ' h' tk' q r R E x' g' => p f fl ρ' σ' h' tk' q r R E (x.trans x' (both_back g)) (g.trans g' x.size)
theorem SXPost.step {σ1 : Sig} {s : Shared} {EE : Value → Shared → Prop} (p : SXPost c env σ s SX EE) {h1 : Heap} {tk1 : Tk} (x : Ext (both σ env) s.heap h1) (g : Grown σ s.heap σ1) : SXPost c env σ1 (at_ s h1 tk1) SX EE :=
  fun e ex ρ' σ' h' tk' q f R E x' g' => p e ex ρ' σ' h' tk' q (f.lo x.size) R E (x.trans x' (both_back g)) (g.trans g' x.size)
theorem Ext.both {h h' : Heap} (x : Ext (dom σ) h h') : Ext (both σ env) h h' := x.mono fun _ q => .inl q
/-- an expression in a statement -/
theorem EvG.inS {e : PySem.Expr} {A : Around} {s : Shared} {QQ : Value → Shared → Prop} {EE : Value → Shared → Prop} (g : EvG c N env ρ e σ Q (fun ex σ' => SX ex ρ σ')) (a : AOk c N A σ s.heap) (R : Rel c σ s.heap) (E : EnvR c σ env ρ s.heap)
    (xp : SXPost c env σ s SX EE)
    (h : ∀ v y σ' h' tk', Q v σ' → VR h' v y → Rel c σ' h' → EnvR c σ' env ρ h' → AOk c N A σ' h' → Ext (dom σ) s.heap h' → Grown σ s.heap σ' → QQ y (at_ s h' tk')) : wpAny (model c.prog c.w) A (eval e env) QQ EE s :=
  g A s QQ EE a R E (fun v y σ' h' tk' q r R' x gr => h v y σ' h' tk' q r R' (E.ext R x gr) (a.ext x gr) x gr) fun e ex σ' h' tk' q f R' x gr => xp e ex ρ σ' h' tk' q f R' (E.ext R x gr) x.both gr

theorem Post.here {s : Shared} {QQ : Value → Shared → Prop} (p : Post c σ s VR Q QQ) (R : Rel c σ s.heap) {v : V} {y : Value} (q : Q v σ) (r : VR s.heap v y) : QQ y s := p v y σ s.heap (tks s) q r R (.refl _) (.refl _ _)
theorem Post.tok {s : Shared} {QQ : Value → Shared → Prop} (p : Post c σ s VR Q QQ) (R : Rel c σ s.heap) {v : V} {y : Value} {tk : Nat} (q : Q v σ) (r : VR s.heap v y) : QQ y { s with toks := tk } := p v y σ s.heap (tk, s.drawn) q r R (.refl _) (.refl _ _)

theorem G_mono {e : PySem.Expr} {Q' : V → Sig → Prop} {X' : Exn → Sig → Prop} (g : EvG c N env ρ e σ Q X) (h : ∀ v σ', Q v σ' → Q' v σ') (hx : ∀ ex σ', X ex σ' → X' ex σ') : EvG c N env ρ e σ Q' X' :=
  fun A s QQ EE a R E p xp => g A s QQ EE a R E (fun b a σ' h' tk' q => p b a σ' h' tk' (h b σ' q)) fun e ex σ' h' tk' q => xp e ex σ' h' tk' (hx ex σ' q)

theorem G_int {i k pos} (q : Q (.int i) σ) : EvG c N env ρ (.Constant (.int i) k pos) σ Q X := fun A s QQ EE a R E p xp =>
  wpAny_Constant_int (p.tok R q (by simp only [VR]; exact ⟨_, rfl⟩))
theorem G_none {k pos} (q : Q .none σ) : EvG c N env ρ (.Constant .none k pos) σ Q X := fun A s QQ EE a R E p xp =>
  (show wpAny _ _ (pure Value.none) _ _ _ from wpAny_pure (p.here R q (by simp only [VR])))
theorem G_bool {b k pos} (q : Q (.bool b) σ) : EvG c N env ρ (.Constant (.bool b) k pos) σ Q X := fun A s QQ EE a R E p xp =>
  (show wpAny _ _ (pure (Value.bool b)) _ _ _ from wpAny_pure (p.here R q (by simp only [VR])))
theorem G_str {x k pos} (q : Q (.str x) σ) (hx : x.length ≤ 1000 ∧ PyData.strOk x = true := by decide +kernel) : EvG c N env ρ (.Constant (.str x) k pos) σ Q X := fun A s QQ EE a R E p xp =>
  wpAny_mkText (p.tok R q (by simp only [VR]; exact ⟨hx, _, rfl⟩))

theorem loadVar {x : Str} {v : V} {A : Around} {s : Shared} {QQ : Value → Shared → Prop} {EE : Value → Shared → Prop} {M : Model} (E : EnvR c σ env ρ s.heap) (m : (x, some v) ∈ ρ) (h : ∀ y, VR s.heap v y → QQ y s) : wpAny M A (loadName env x) QQ EE s := by
  obtain ⟨mp, hn, hv⟩ := E.vars
  rcases hv x v m with ⟨k1, y, e1, e2⟩ | ⟨k1, k, y, e1, e2, e3⟩
  · exact wpAny_loadName_local E.kind k1 hn e1 (h y e2)
  · exact wpAny_loadName_cell E.kind k1 e1 e2 (h y e3)
theorem G_var {x pos} {v : V} (m : (x, some v) ∈ ρ) (q : Q v σ) (hd : (x == ("__debug__" : Str)) = false := by decide) : EvG c N env ρ (.Name x pos) σ Q X := fun A s QQ EE a R E p xp =>
  wpAny_Name (loadVar E m fun y r => p.here R q r) hd

theorem loadGlob {x : Str} {v : Value} {A : Around} {s : Shared} {QQ : Value → Shared → Prop} {EE : Value → Shared → Prop} {M : Model} (R : Rel c σ s.heap) (E : EnvR c σ env ρ s.heap) (k : env.kindOf x = some .globalImplicit) (e : c.mg x = some v) (h : QQ v s) : wpAny M A (loadName env x) QQ EE s := by
  unfold loadName
  simp only [Env.blockKind, E.kind, k, ScopeKind.isAnnotationScope, Bool.false_and, Bool.false_eq_true, if_false]
  have hn := c.g.keeps R.static
  rw [← E.glob] at hn
  first
    | exact wpAny_bind (wpAny_nsGet hn (by rw [e]; exact wpAny_pure h))
    | (unfold globalOrBuiltin; exact wpAny_bind (wpAny_nsGet hn (by rw [e]; exact wpAny_pure h)))
end
end Mine

-- part P5
namespace Mine

/-- an operation on values -/
noncomputable def OpG (c : Cx) (N : Lv) (σ : Sig) {α β : Type} (rel : Heap → β → α → Prop) (ins : List V) (t : List Value → Sem α) (Q : β → Sig → Prop) (X : Exn → Sig → Prop) : Prop :=
  ∀ (A : Around) (s : Shared) (QQ : α → Shared → Prop) (EE : Value → Shared → Prop) (xs : List Value), AOk c N A σ s.heap → Rel c σ s.heap → VRs s.heap ins xs → Post c σ s rel Q QQ → XPost c σ s X EE → wpAny (model c.prog c.w) A (t xs) QQ EE s
noncomputable abbrev Op1 (c : Cx) (N : Lv) (σ : Sig) (a : V) (t : Value → Sem Value) (Q : V → Sig → Prop) (X : Exn → Sig → Prop) : Prop :=
  ∀ (A : Around) (s : Shared) (QQ : Value → Shared → Prop) (EE : Value → Shared → Prop) (x : Value), AOk c N A σ s.heap → Rel c σ s.heap → VR s.heap a x → Post c σ s VR Q QQ → XPost c σ s X EE → wpAny (model c.prog c.w) A (t x) QQ EE s
noncomputable abbrev Op2 (c : Cx) (N : Lv) (σ : Sig) (a b : V) (t : Value → Value → Sem Value) (Q : V → Sig → Prop) (X : Exn → Sig → Prop) : Prop :=
  ∀ (A : Around) (s : Shared) (QQ : Value → Shared → Prop) (EE : Value → Shared → Prop) (x y : Value), AOk c N A σ s.heap → Rel c σ s.heap → VR s.heap a x → VR s.heap b y → Post c σ s VR Q QQ → XPost c σ s X EE → wpAny (model c.prog c.w) A (t x y) QQ EE s

section
variable {c : Cx} {N : Lv} {env : Env} {ρ : Rho} {σ : Sig} {Q : V → Sig → Prop} {X : Exn → Sig → Prop} {QL : List V → Sig → Prop}

/-- one after the other -/
theorem G.run {α β : Type} {rel : Heap → β → α → Prop} {t : Sem α} {Qb : β → Sig → Prop} {A : Around} {s : Shared} {QQ : α → Shared → Prop} {EE : Value → Shared → Prop} (g : G c N env ρ σ rel t Qb X) (a : AOk c N A σ s.heap) (R : Rel c σ s.heap) (E : EnvR c σ env ρ s.heap) (xp : XPost c σ s X EE)
    (h : ∀ b z σ' h' tk', Qb b σ' → rel h' b z → AOk c N A σ' h' → Rel c σ' h' → EnvR c σ' env ρ h' → Ext (dom σ) s.heap h' → Grown σ s.heap σ' → QQ z (at_ s h' tk')) : wpAny (model c.prog c.w) A t QQ EE s :=
  g A s QQ EE a R E (fun b z σ' h' tk' q r R' x gr => h b z σ' h' tk' q r (a.ext x gr) R' (E.ext R x gr) x gr) xp

noncomputable abbrev ArgsG (c : Cx) (N : Lv) (env : Env) (ρ : Rho) (es : List PySem.Expr) (pos : Pos) (σ : Sig) (QL : List V → Sig → Prop) (X : Exn → Sig → Prop) : Prop := G c N env ρ σ VRs (spliced (backTo pos (starEach es env))) QL X
theorem G_args_nil {pos : Pos} (q : QL [] σ) : ArgsG c N env ρ [] pos σ QL X := fun A s QQ EE a R E p xp =>
  spliced_none (p [] [] σ s.heap (tks s) q .nil R (.refl _) (.refl _ _))
theorem G_args_cons {e : PySem.Expr} {es : List PySem.Expr} {pos : Pos} (g : EvG c N env ρ e σ (fun v σ1 => ArgsG c N env ρ es pos σ1 (fun vs σ2 => QL (v :: vs) σ2) X) X)
    (he : starEach (e :: es) env = (false, eval e env) :: starEach es env := by rfl) : ArgsG c N env ρ (e :: es) pos σ QL X := fun A s QQ EE a R E p xp =>
  spliced_more (g.run a R E xp fun v x σ1 h1 tk1 g2 r a1 R1 E1 x1 gr1 =>
    g2.run a1 R1 E1 (xp.step x1 gr1) fun vs xs σ2 h2 tk2 q r2 a2 R2 E2 x2 gr2 =>
      p (v :: vs) (x :: xs) σ2 h2 tk2 q (.cons (R1.vr x2 r) r2) R2 (x1.trans x2 (dom_back gr1)) (gr1.trans gr2 x1.size)) he

theorem sizeLine_is : sizeLine = 16777216 := by decide
theorem G_tuple {es : List PySem.Expr} {k : Nat} {pos : Pos} (g : ArgsG c N env ρ es pos σ (fun vs σ1 => vs.length ≤ 1000000 ∧ Q (.tup vs) σ1) X) : EvG c N env ρ (.Tuple es k pos) σ Q X := fun A s QQ EE a R E p xp =>
  wpAny_Tuple (g.run a R E xp fun vs xs σ1 h1 tk1 ⟨hl, q⟩ r a1 R1 E1 x1 gr1 => by
    refine ⟨by rw [r.length, sizeLine_is]; omega, ?_⟩
    have x2 : Ext (dom σ1) h1 (h1.push { cls := .type "tuple", data := .seq xs.toArray }) := .push _ _
    refine p (.tup vs) _ σ1 _ tk1 q ?_ (R1.push _) (x1.trans x2 (dom_back gr1)) gr1
    simp only [VR]
    exact ⟨_, xs.toArray, rfl, .new _ _, R1.vrs x2 r⟩)
theorem G_list {es : List PySem.Expr} {pos : Pos} (g : ArgsG c N env ρ es pos σ (fun vs σ1 => vs.length ≤ 1000000 ∧ ∀ a, σ1 a = none → Q (.raw (.ref a)) (upd σ1 a (.list vs))) X) : EvG c N env ρ (.List es pos) σ Q X := fun A s QQ EE a R E p xp =>
  wpAny_List (g.run a R E xp fun vs xs σ1 h1 tk1 ⟨hl, q⟩ r a1 R1 E1 x1 gr1 => by
    refine ⟨by rw [r.length, sizeLine_is]; omega, ?_⟩
    have x2 : Ext (dom σ1) h1 (h1.push { cls := .type "list", data := .seq xs.toArray }) := .push _ _
    refine p (.raw (.ref h1.objs.size)) _ (upd σ1 h1.objs.size (.list vs)) _ tk1 (q _ R1.fresh) (by simp only [VR]; rfl) ?_ (x1.trans x2 (dom_back gr1)) (gr1.trans (.upd (.inr (Nat.le_refl _))) x1.size)
    exact (R1.push _).add R1.size ⟨xs.toArray, ⟨_, Heap.get?_push_size _ rfl⟩, R1.vrs x2 r⟩)

theorem G_bin {l r : PySem.Expr} {op : Operator} {pos : Pos} (g : EvG c N env ρ l σ (fun a σ1 => EvG c N env ρ r σ1 (fun b σ2 => Op2 c N σ2 a b (binaryOp op) Q X) X) X) : EvG c N env ρ (.BinOp l op r pos) σ Q X := fun A s QQ EE a R E p xp =>
  wpAny_BinOp (g.run a R E xp fun v x σ1 h1 tk1 g2 r1 a1 R1 E1 x1 gr1 => g2.run a1 R1 E1 (xp.step x1 gr1) fun u y σ2 h2 tk2 q r2 a2 R2 E2 x2 gr2 =>
    q A _ QQ EE x y a2 R2 (R1.vr x2 r1) r2 ((p.step x1 gr1).step x2 gr2) ((xp.step x1 gr1).step x2 gr2))
theorem G_cmp {l r : PySem.Expr} {op : CmpOp} {pos : Pos} (g : EvG c N env ρ l σ (fun a σ1 => EvG c N env ρ r σ1 (fun b σ2 => Op2 c N σ2 a b (compareOp op) Q X) X) X) (hm : behindInMarks op r = false := by with_unfolding_all rfl) : EvG c N env ρ (.Compare l [op] [r] pos) σ Q X := fun A s QQ EE a R E p xp =>
  wpAny_Compare1 (g.run a R E xp fun v x σ1 h1 tk1 g2 r1 a1 R1 E1 x1 gr1 => g2.run a1 R1 E1 (xp.step x1 gr1) fun u y σ2 h2 tk2 q r2 a2 R2 E2 x2 gr2 =>
    q A _ QQ EE x y a2 R2 (R1.vr x2 r1) r2 ((p.step x1 gr1).step x2 gr2) ((xp.step x1 gr1).step x2 gr2)) hm
theorem G_glob {x pos} {v : Value} (e : c.mg x = some v) (q : Q (.raw v) σ) (k : env.kindOf x = some .globalImplicit := by rfl) (hd : (x == ("__debug__" : Str)) = false := by decide) : EvG c N env ρ (.Name x pos) σ Q X := fun A s QQ EE a R E p xp =>
  wpAny_Name (loadGlob R E k e (p.here R q (by simp only [VR]))) hd
theorem G_builtin {x pos} {v : Value} (e : c.mg x = none) (e' : bootBuiltins x = some v) (q : Q (.raw v) σ) (hn : x ≠ "__name__" := by decide) (k : env.kindOf x = some .globalImplicit := by rfl) (hd : (x == ("__debug__" : Str)) = false := by decide) : EvG c N env ρ (.Name x pos) σ Q X := fun A s QQ EE a R E p xp =>
  wpAny_Name (by
    unfold loadName
    simp only [Env.blockKind, E.kind, k, ScopeKind.isAnnotationScope, Bool.false_and, Bool.false_eq_true, if_false]
    exact Calls.loadGlobal_builtin (by rw [E.glob]; exact c.g.keeps R.static) e (by rw [E.blt]; exact c.b.keeps R.static) ((c.blt x hn).trans e') (p.here R q (by simp only [VR]))) hd
end
end Mine

-- part P6
namespace Mine
section
variable {c : Cx} {N : Lv} {env : Env} {ρ : Rho} {σ : Sig} {Q : V → Sig → Prop} {X : Exn → Sig → Prop} {SQ : GF → Rho → Sig → Prop} {SX : Exn → Rho → Sig → Prop} {BQ : Bool → Sig → Prop}

/-- tests -/
noncomputable abbrev TG (c : Cx) (N : Lv) (env : Env) (ρ : Rho) (e : PySem.Expr) (σ : Sig) (BQ : Bool → Sig → Prop) (X : Exn → Sig → Prop) : Prop := G c N env ρ σ (fun _ (b : Bool) (b' : Bool) => b' = b) (isTrue e env (eval e env)) BQ X
theorem truthy_b {A : Around} {M : Model} {s : Shared} {b : Bool} {x : Value} {QQ : Bool → Shared → Prop} {EE : Value → Shared → Prop} (r : VR s.heap (.bool b) x) (h : QQ b s) : wpAny M A (truthy x) QQ EE s := by
  simp only [VR] at r; subst r; exact wpAny_truthy_bool h
theorem T_plain {e : PySem.Expr} (g : EvG c N env ρ e σ (fun v σ1 => ∃ b, v = .bool b ∧ BQ b σ1) X)
    (he : isTrue e env (eval e env) = (do let v ← eval e env; standAt e.pos; holding [v] (truthy v)) := by rfl) : TG c N env ρ e σ BQ X := fun A s QQ EE a R E p xp =>
  isTrue_plain (g.run a R E xp fun v x σ1 h1 tk1 ⟨b, e1, q⟩ r a1 R1 E1 x1 gr1 => by subst e1; exact truthy_b r (p b b σ1 h1 tk1 q rfl R1 x1 gr1)) he
theorem T_cmp {l r : PySem.Expr} {op : CmpOp} {pos : Pos} (g : EvG c N env ρ l σ (fun a σ1 => EvG c N env ρ r σ1 (fun b σ2 => Op2 c N σ2 a b (compareOp op) (fun v σ3 => ∃ b, v = .bool b ∧ BQ b σ3) X) X) X) (hm : behindInMarks op r = false := by with_unfolding_all rfl) : TG c N env ρ (.Compare l [op] [r] pos) σ BQ X := fun A s QQ EE a R E p xp =>
  wpAny_isTrue_Compare1 (g.run a R E xp fun v x σ1 h1 tk1 g2 r1 a1 R1 E1 x1 gr1 => g2.run a1 R1 E1 (xp.step x1 gr1) fun u y σ2 h2 tk2 q r2 a2 R2 E2 x2 gr2 =>
    q A _ _ EE x y a2 R2 (R1.vr x2 r1) r2 (fun v' z σ3 h3 tk3 ⟨b, e3, q3⟩ r3 R3 x3 gr3 => by
      subst e3
      exact truthy_b r3 (((p.step x1 gr1).step x2 gr2) b b σ3 h3 tk3 q3 rfl R3 x3 gr3)) ((xp.step x1 gr1).step x2 gr2)) hm
theorem T_not {x : PySem.Expr} {pos : Pos} (g : TG c N env ρ x σ (fun b σ1 => BQ (!b) σ1) X) : TG c N env ρ (.UnaryOp .Not x pos) σ BQ X := fun A s QQ EE a R E p xp =>
  isTrue_not (g.run a R E xp fun b b' σ1 h1 tk1 q r a1 R1 E1 x1 gr1 => p (!b) (!b') σ1 h1 tk1 q (by rw [r]) R1 x1 gr1)
theorem T_and_nil {pos : Pos} (q : BQ true σ) : TG c N env ρ (.BoolOp .And [] pos) σ BQ X := fun A s QQ EE a R E p xp => isTrue_and_nil (p true true σ s.heap (tks s) q rfl R (.refl _) (.refl _ _))
theorem T_and {x : PySem.Expr} {es : List PySem.Expr} {pos : Pos} (g : TG c N env ρ x σ (fun b σ1 => match b with | true => TG c N env ρ (.BoolOp .And es pos) σ1 BQ X | false => BQ false σ1) X) : TG c N env ρ (.BoolOp .And (x :: es) pos) σ BQ X := fun A s QQ EE a R E p xp =>
  isTrue_and (g.run a R E xp fun b b' σ1 h1 tk1 q r a1 R1 E1 x1 gr1 => by
    subst r
    cases b' with
    | true => exact q A _ QQ EE a1 R1 E1 (p.step x1 gr1) (xp.step x1 gr1)
    | false => exact p false false σ1 h1 tk1 q rfl R1 x1 gr1)
/-- expressions with tests -/
theorem G_ifexp {t a b : PySem.Expr} {pos : Pos} (g : TG c N env ρ t σ (fun y σ1 => match y with | true => EvG c N env ρ a σ1 Q X | false => EvG c N env ρ b σ1 Q X) X) : EvG c N env ρ (.IfExp t a b pos) σ Q X := fun A s QQ EE ak R E p xp =>
  wpAny_IfExp (g.run ak R E xp fun y y' σ1 h1 tk1 q r a1 R1 E1 x1 gr1 => by
    subst r
    cases y' with
    | true => exact q A _ QQ EE a1 R1 E1 (p.step x1 gr1) (xp.step x1 gr1)
    | false => exact q A _ QQ EE a1 R1 E1 (p.step x1 gr1) (xp.step x1 gr1))
theorem G_not {x : PySem.Expr} {pos : Pos} (g : EvG c N env ρ x σ (fun v σ1 => ∃ b, v = .bool b ∧ Q (.bool (!b)) σ1) X) : EvG c N env ρ (.UnaryOp .Not x pos) σ Q X := fun A s QQ EE a R E p xp =>
  wpAny_UnaryOp (g.run a R E xp fun v x σ1 h1 tk1 ⟨b, e1, q⟩ r a1 R1 E1 x1 gr1 => by
    subst e1
    exact not_of (truthy_b r (p (.bool (!b)) _ σ1 h1 tk1 q (by simp only [VR]) R1 x1 gr1)))
theorem G_and2 {x y : PySem.Expr} {pos : Pos} (g : EvG c N env ρ x σ (fun v σ1 => ∃ b, v = .bool b ∧ match b with | true => EvG c N env ρ y σ1 Q X | false => Q (.bool false) σ1) X) : EvG c N env ρ (.BoolOp .And [x, y] pos) σ Q X := fun A s QQ EE a R E p xp =>
  wpAny_And2 (g.run a R E xp fun v x σ1 h1 tk1 ⟨b, e1, q⟩ r a1 R1 E1 x1 gr1 => by
    subst e1
    refine truthy_b r ?_
    cases b with
    | true => exact q A _ QQ EE a1 R1 E1 (p.step x1 gr1) (xp.step x1 gr1)
    | false => exact p (.bool false) _ σ1 h1 tk1 q r R1 x1 gr1)

/-- statements -/
noncomputable abbrev StG (c : Cx) (N : Lv) (env : Env) (ρ : Rho) (st : Stmt) (σ : Sig) (SQ : GF → Rho → Sig → Prop) (SX : Exn → Rho → Sig → Prop) : Prop := ExG c N env ρ (exec st env) σ SQ SX
noncomputable abbrev SsG (c : Cx) (N : Lv) (env : Env) (ρ : Rho) (st : List Stmt) (σ : Sig) (SQ : GF → Rho → Sig → Prop) (SX : Exn → Rho → Sig → Prop) : Prop := ExG c N env ρ (execs st env) σ SQ SX
theorem ExG.run {t : Sem Flow} {A : Around} {s : Shared} {QQ : Flow → Shared → Prop} {EE : Value → Shared → Prop} (g : ExG c N env ρ t σ SQ SX) (ot : OnTop A env) (a : AOk c N A σ s.heap) (R : Rel c σ s.heap) (E : EnvR c σ env ρ s.heap) (xp : SXPost c env σ s SX EE)
    (h : ∀ f fl ρ' σ' h' tk', SQ f ρ' σ' → FR h' f fl → AOk c N A σ' h' → Rel c σ' h' → EnvR c σ' env ρ' h' → Ext (both σ env) s.heap h' → Grown σ s.heap σ' → QQ fl (at_ s h' tk')) : wpAny (model c.prog c.w) A t QQ EE s :=
  g A s QQ EE ot a R E (fun f fl ρ' σ' h' tk' q r R' E' x gr => h f fl ρ' σ' h' tk' q r (a.ext2 E x gr E') R' E' x gr) xp
theorem S_nil (q : SQ .next ρ σ) : SsG c N env ρ [] σ SQ SX := fun A s QQ EE ot a R E p xp => wpAny_execs_nil (p .next .next ρ σ s.heap (tks s) q rfl R E (.refl _) (.refl _ _))
theorem S_cons {st : Stmt} {rest : List Stmt} (g : StG c N env ρ st σ (fun f ρ' σ' => match f with | .next => SsG c N env ρ' rest σ' SQ SX | .ret v => SQ (.ret v) ρ' σ') SX) : SsG c N env ρ (st :: rest) σ SQ SX := fun A s QQ EE ot a R E p xp =>
  wpAny_execs_cons (g.run ot a R E xp fun f fl ρ' σ' h' tk' q r a1 R1 E1 x1 gr1 => by
    cases f with
    | next => simp only [FR] at r; subst r; exact q A _ QQ EE ot a1 R1 E1 (p.step x1 gr1) (xp.step x1 gr1)
    | ret v => simp only [FR] at r; obtain ⟨y, rfl, r⟩ := r; exact p (.ret v) (.ret y) ρ' σ' h' tk' q (by simp only [FR]; exact ⟨y, rfl, r⟩) R1 E1 x1 gr1)
theorem EvG.runS {e : PySem.Expr} {A : Around} {s : Shared} {QQ : Value → Shared → Prop} {EE : Value → Shared → Prop} (g : EvG c N env ρ e σ Q (fun ex σ' => SX ex ρ σ')) (a : AOk c N A σ s.heap) (R : Rel c σ s.heap) (E : EnvR c σ env ρ s.heap) (xp : SXPost c env σ s SX EE)
    (h : ∀ v y σ' h' tk', Q v σ' → VR h' v y → AOk c N A σ' h' → Rel c σ' h' → EnvR c σ' env ρ h' → Ext (dom σ) s.heap h' → Grown σ s.heap σ' → QQ y (at_ s h' tk')) : wpAny (model c.prog c.w) A (eval e env) QQ EE s :=
  g.inS a R E xp fun v y σ' h' tk' q r R' E' a' x gr => h v y σ' h' tk' q r a' R' E' x gr
theorem S_ret {e : PySem.Expr} {pos : Pos} (g : EvG c N env ρ e σ (fun v σ' => SQ (.ret v) ρ σ') (fun ex σ' => SX ex ρ σ')) : StG c N env ρ (.Return (some e) pos) σ SQ SX := fun A s QQ EE ot a R E p xp =>
  wpAny_Return_some (EvG.runS g a R E xp fun v y σ' h' tk' q r a1 R1 E1 x1 gr1 => p (.ret v) (.ret y) ρ σ' h' tk' q (by simp only [FR]; exact ⟨y, rfl, r⟩) R1 E1 x1.both gr1)
theorem S_assign {x : Str} {pos' : Pos} {e : PySem.Expr} {pos : Pos} (g : EvG c N env ρ e σ (fun v σ' => ∃ ρ', Put x (some v) ρ ρ' ∧ SQ .next ρ' σ') (fun ex σ' => SX ex ρ σ'))
    (hs : swapsWith e (some (.Name x pos')) pos.line env = pure false := by rfl) : StG c N env ρ (.Assign [.Name x pos'] e pos) σ SQ SX := fun A s QQ EE ot a R E p xp =>
  wpAny_Assign_Name (EvG.runS g a R E xp fun v y σ' h' tk' ⟨ρ', pt, q⟩ r a1 R1 E1 x1 gr1 =>
    store_ (s := at_ s h' tk') R1 E1 pt r fun h2 tk2 R2 E2 x2 _ => p .next .next ρ' σ' h2 tk2 q rfl R2 E2 (x1.both.trans (x2.mono fun _ q => .inr q) fun a q => .inl q) gr1) hs
theorem S_if {t : PySem.Expr} {b1 b2 : List Stmt} {pos : Pos} (g : TG c N env ρ t σ (fun y σ1 => match y with | true => SsG c N env ρ b1 σ1 SQ SX | false => SsG c N env ρ b2 σ1 SQ SX) (fun ex σ' => SX ex ρ σ')) : StG c N env ρ (.If t b1 b2 pos) σ SQ SX := fun A s QQ EE ot ak R E p xp =>
  wpAny_If (g A s _ _ ak R E (fun y y' σ1 h1 tk1 q r R1 x1 gr1 => by
    subst r
    have a1 := ak.ext x1 gr1
    have E1 := E.ext R x1 gr1
    cases y' with
    | true => exact q A _ QQ EE ot a1 R1 E1 (p.step x1.both gr1) (xp.step x1.both gr1)
    | false => exact q A _ QQ EE ot a1 R1 E1 (p.step x1.both gr1) (xp.step x1.both gr1)) fun e ex σ1 h1 tk1 q f R1 x1 gr1 => xp e ex ρ σ1 h1 tk1 q f R1 (E.ext R x1 gr1) x1.both gr1)
theorem S_expr {e : PySem.Expr} {pos : Pos} (g : EvG c N env ρ e σ (fun _ σ' => SQ .next ρ σ') (fun ex σ' => SX ex ρ σ'))
    (hi : interactive env = false := by rfl) (hs : swapsWith e none pos.line env = pure false := by rfl) : StG c N env ρ (.Expr e pos) σ SQ SX := fun A s QQ EE ot a R E p xp =>
  wpAny_Expr_any (EvG.runS g a R E xp fun v y σ' h' tk' q r a1 R1 E1 x1 gr1 => p .next .next ρ σ' h' tk' q rfl R1 E1 x1.both gr1) hi hs
end
end Mine

-- part P7
namespace Mine

mutual
noncomputable def toP : V → PyData
  | .none => .none
  | .bool b => .bool b
  | .int i => .int i
  | .str s => .str s
  | .tup l => .tuple (toPs l)
  | .raw _ => .dict []
noncomputable def toPs : List V → List PyData
  | [] => []
  | v :: l => toP v :: toPs l
end
mutual
noncomputable def tree : V → Bool
  | .raw _ => false
  | .tup l => trees l
  | .none => true
  | .bool _ => true
  | .int _ => true
  | .str _ => true
noncomputable def trees : List V → Bool
  | [] => true
  | v :: l => tree v && trees l
end
noncomputable def eqV (a b : V) : Bool := PyData.eqv (toP a) (toP b)
mutual
theorem reads_of {h : Heap} : ∀ (v : V) (x : Value), VR h v x → tree v = true → (∃ as, Reads h x (toP v) as) ∧ PyData.canLay0 (toP v) = true
  | .none, x, r, _ => by simp only [VR] at r; subst r; exact ⟨⟨_, .none⟩, rfl⟩
  | .bool b, x, r, _ => by simp only [VR] at r; subst r; exact ⟨⟨_, .bool b⟩, rfl⟩
  | .int i, x, r, _ => by simp only [VR] at r; obtain ⟨t, rfl⟩ := r; exact ⟨⟨_, .int i t⟩, rfl⟩
  | .str s, x, r, _ => by simp only [VR] at r; obtain ⟨⟨_, q⟩, t, rfl⟩ := r; exact ⟨⟨_, .str s t⟩, by simp only [toP, PyData.canLay0]; exact q⟩
  | .raw v, x, r, ht => by simp [tree] at ht
  | .tup l, x, r, ht => by
    simp only [VR] at r
    obtain ⟨a, xs, rfl, ⟨o, ho, hc, _, n, hd⟩, r⟩ := r
    simp only [tree] at ht
    obtain ⟨⟨as, q⟩, q2⟩ := reads_ofs l xs.toList r ht
    refine ⟨⟨as, ?_⟩, ?_⟩
    · simp only [toP]; exact .tuple ho hc hd q
    · simp only [toP, PyData.canLay0]; exact q2
theorem reads_ofs {h : Heap} : ∀ (l : List V) (xs : List Value), VRs h l xs → trees l = true → (∃ as, ReadsAll h xs (toPs l) as) ∧ PyData.canLayAll0 (toPs l) = true
  | [], xs, r, _ => by simp only [VRs] at r; subst r; exact ⟨⟨_, .nil⟩, rfl⟩
  | v :: l, xs, r, ht => by
    simp only [VRs] at r
    obtain ⟨x, r', rfl, r1, r2⟩ := r
    simp only [trees, Bool.and_eq_true] at ht
    obtain ⟨⟨as, q⟩, q2⟩ := reads_of v x r1 ht.1
    obtain ⟨⟨bs, p⟩, p2⟩ := reads_ofs l r' r2 ht.2
    exact ⟨⟨_, .cons q p⟩, by simp only [toPs, PyData.canLayAll0, q2, p2, Bool.and_self]⟩
end

section
variable {c : Cx} {N : Lv} {env : Env} {ρ : Rho} {σ : Sig} {Q : V → Sig → Prop} {X : Exn → Sig → Prop}
theorem AOk.dep {A : Around} {h : Heap} {d : Nat} (a : AOk c N A σ h) (hd : d ≤ 16 * N.n) : A.units + d < cLine := by have := a.units; omega

/-- == and != -/
theorem O_eq {a b : V} (q : Q (.bool (eqV a b)) σ) (ha : tree a = true) (hb : tree b = true) (hd : min (toP a).depth (toP b).depth ≤ 16 * N.n) : Op2 c N σ a b (compareOp .Eq) Q X := fun A s QQ EE x y ak R r1 r2 p xp => by
  obtain ⟨⟨as, q1⟩, c1⟩ := reads_of a x r1 ha
  obtain ⟨⟨bs, q2⟩, c2⟩ := reads_of b y r2 hb
  exact SeqAt.eqOverData c.prog c.w A EE s x y _ _ as bs QQ q1 q2 c1 c2 (ak.dep hd) (p.here R q (by simp only [VR, eqV]))
theorem neOver : P3.NeOverData := fun prog w A E s a b da db as bs Q ra rb ha hb hu h => by
  exact SeqAt.neOverData prog w A E s a b da db as bs Q ra rb ha hb hu h
theorem O_ne {a b : V} (q : Q (.bool (!eqV a b)) σ) (ha : tree a = true) (hb : tree b = true) (hd : min (toP a).depth (toP b).depth ≤ 16 * N.n) : Op2 c N σ a b (compareOp .NotEq) Q X := fun A s QQ EE x y ak R r1 r2 p xp => by
  obtain ⟨⟨as, q1⟩, c1⟩ := reads_of a x r1 ha
  obtain ⟨⟨bs, q2⟩, c2⟩ := reads_of b y r2 hb
  exact neOver c.prog c.w A EE s x y _ _ as bs QQ q1 q2 c1 c2 (ak.dep hd) (p.here R q (by simp only [VR, eqV]))
theorem list_reads {h : Heap} {a : Addr} {l : List V} (m : MR c.prog c.w h a (.list l)) (ht : trees l = true) : (∃ as, Reads h (.ref a) (.list (toPs l)) as) ∧ PyData.canLay0 (.list (toPs l)) = true := by
  obtain ⟨xs, ⟨n, e⟩, r⟩ := m
  obtain ⟨⟨as, q⟩, q2⟩ := reads_ofs l xs.toList r ht
  exact ⟨⟨_, .list e rfl rfl q⟩, by simp only [PyData.canLay0]; exact q2⟩
noncomputable def eqL (l m : List V) : Bool := PyData.eqvAll (toPs l) (toPs m)
theorem O_neL {a b : Addr} {l m : List V} (q : Q (.bool (!eqL l m)) σ) (ea : σ a = some (.list l)) (eb : σ b = some (.list m)) (ha : trees l = true) (hb : trees m = true) (hd : min (PyData.depthAll (toPs l)) (PyData.depthAll (toPs m)) + 1 ≤ 16 * N.n) :
    Op2 c N σ (.raw (.ref a)) (.raw (.ref b)) (compareOp .NotEq) Q X := fun A s QQ EE x y ak R r1 r2 p xp => by
  simp only [VR] at r1 r2; subst r1 r2
  obtain ⟨⟨as, q1⟩, c1⟩ := list_reads (R.obj a _ ea).2 ha
  obtain ⟨⟨bs, q2⟩, c2⟩ := list_reads (R.obj b _ eb).2 hb
  exact neOver c.prog c.w A EE s _ _ _ _ as bs QQ q1 q2 c1 c2 (ak.dep (by simp only [PyData.depth]; omega)) (p.here R q (by simp only [VR, eqL, PyData.eqv]))

/-- ints -/
theorem O_add {i j : Int} (q : Q (.int (i + j)) σ) : Op2 c N σ (.int i) (.int j) (binaryOp .Add) Q X := fun A s QQ EE x y ak R r1 r2 p xp => by
  simp only [VR] at r1 r2; obtain ⟨t, rfl⟩ := r1; obtain ⟨u, rfl⟩ := r2
  exact PyProof.Rows.add_int (p.tok R q (by simp only [VR]; exact ⟨_, rfl⟩))
theorem O_mul {i j : Int} (q : Q (.int (i * j)) σ) (hm : IntMulOk i j) : Op2 c N σ (.int i) (.int j) (binaryOp .Mult) Q X := fun A s QQ EE x y ak R r1 r2 p xp => by
  simp only [VR] at r1 r2; obtain ⟨t, rfl⟩ := r1; obtain ⟨u, rfl⟩ := r2
  exact PyProof.Rows.mul_int (p.tok R q (by simp only [VR]; exact ⟨_, rfl⟩)) hm
theorem O_mod {i j : Int} (q : Q (.int (i.fmod j)) σ) (hj : j ≠ 0) : Op2 c N σ (.int i) (.int j) (binaryOp .Mod) Q X := fun A s QQ EE x y ak R r1 r2 p xp => by
  simp only [VR] at r1 r2; obtain ⟨t, rfl⟩ := r1; obtain ⟨u, rfl⟩ := r2
  exact PyProof.Rows.mod_int hj (p.tok R q (by simp only [VR]; exact ⟨_, rfl⟩))
theorem O_lt {i j : Int} (q : Q (.bool (decide (i < j))) σ) : Op2 c N σ (.int i) (.int j) (compareOp .Lt) Q X := fun A s QQ EE x y ak R r1 r2 p xp => by
  simp only [VR] at r1 r2; obtain ⟨t, rfl⟩ := r1; obtain ⟨u, rfl⟩ := r2
  exact PyProof.Rows.lt_int (p.here R q (by simp only [VR]))
/-- is None -/
noncomputable def isNone : V → Bool
  | .none => true
  | _ => false
theorem O_isNone {a : V} (q : Q (.bool (isNone a)) σ) (hr : ∀ v, a ≠ .raw v) : Op2 c N σ a .none (compareOp .Is) Q X := fun A s QQ EE x y ak R r1 r2 p xp => by
  have e2 : y = .none := by simpa only [VR] using r2
  subst e2
  have e : (x == Value.none) = isNone a ∧ plainIs x Value.none = true := by
    cases a with
    | none => simp only [VR] at r1; subst r1; exact ⟨rfl, rfl⟩
    | bool b => simp only [VR] at r1; subst r1; exact ⟨rfl, rfl⟩
    | int i => simp only [VR] at r1; obtain ⟨t, rfl⟩ := r1; exact ⟨rfl, rfl⟩
    | str i => simp only [VR] at r1; obtain ⟨_, t, rfl⟩ := r1; exact ⟨rfl, rfl⟩
    | tup l => simp only [VR] at r1; obtain ⟨a, xs, rfl, _⟩ := r1; exact ⟨rfl, rfl⟩
    | raw v => exact absurd rfl (hr v)
  exact wpAny_is_plain e.2 (p.here R q (by simp only [VR]; rw [e.1]))
end
end Mine

-- part P8
namespace Mine

section
variable {c : Cx} {N : Lv} {env : Env} {ρ : Rho} {σ : Sig} {Q : V → Sig → Prop} {X : Exn → Sig → Prop}

/-- a tuple made -/
theorem newTup {s : Shared} {QQ : Value → Shared → Prop} (p : Post c σ s VR Q QQ) (R : Rel c σ s.heap) {l : List V} {xs : List Value} (q : Q (.tup l) σ) (r : VRs s.heap l xs) (tk : Tk) :
    QQ (.ref s.heap.objs.size) (at_ s (s.heap.push { cls := .type "tuple", data := .seq xs.toArray }) tk) :=
  p (.tup l) _ σ _ tk q (by simp only [VR]; exact ⟨_, xs.toArray, rfl, .new _ _, R.vrs (.push _ _) r⟩) (R.push _) (.push _ _) (.refl _ _)
theorem newLst {s : Shared} {QQ : Value → Shared → Prop} (p : Post c σ s VR Q QQ) (R : Rel c σ s.heap) {l : List V} {xs : List Value} (q : ∀ a, σ a = none → Q (.raw (.ref a)) (upd σ a (.list l))) (r : VRs s.heap l xs) (tk : Tk) :
    QQ (.ref s.heap.objs.size) (at_ s (s.heap.push { cls := .type "list", data := .seq xs.toArray }) tk) :=
  p (.raw (.ref s.heap.objs.size)) _ (upd σ s.heap.objs.size (.list l)) _ tk (q _ R.fresh) (by simp only [VR]) ((R.push _).add R.size ⟨xs.toArray, ⟨_, Heap.get?_push_size _ rfl⟩, R.vrs (.push _ _) r⟩) (.push _ _) (.upd (.inr (Nat.le_refl _)))

theorem O_addT {l m : List V} (q : Q (.tup (l ++ m)) σ) (hz : l.length + m.length ≤ 1000000) : Op2 c N σ (.tup l) (.tup m) (binaryOp .Add) Q X := fun A s QQ EE x y ak R r1 r2 p xp => by
  simp only [VR] at r1 r2
  obtain ⟨a, xs, rfl, ht, r1⟩ := r1
  obtain ⟨b, ys, rfl, hb, r2⟩ := r2
  have t1 := ht
  have t2 := hb
  obtain ⟨⟨cls, dd, data, sl⟩, ho, hc, _, n, hd⟩ := ht
  obtain ⟨⟨cls2, dd2, data2, sl2⟩, ho2, hc2, _, n2, hd2⟩ := hb
  simp only at hc hd hc2 hd2
  subst hc hd hc2 hd2
  have hz' : xs.size + ys.size ≤ sizeLine := by rw [← Array.length_toList, ← Array.length_toList, r1.length, r2.length, sizeLine_is]; omega
  by_cases hv : xs.isEmpty = true
  · refine concat_meets ⟨_, ho, rfl⟩ ⟨_, ho2, rfl⟩ noFill_tuple_add seq_tuple_add PySem.F.slot_tuple_add PySem.F.entry_tuple_add (PySem.F.args_tuple_add_2 _ _)
      (tuple_addW0 a b xs ys n n2 dd dd2 sl sl2 hv) ⟨ho, ho2, p.here R q ?_⟩
    have : l = [] := by
      have h1 := r1.length
      rw [Array.length_toList, Array.isEmpty_iff_size_eq_zero.mp hv] at h1
      exact List.eq_nil_of_length_eq_zero h1.symm
    subst this
    simp only [VR]
    exact ⟨_, _, rfl, t2, r2⟩
  · by_cases hw : ys.isEmpty = true
    · refine concat_meets ⟨_, ho, rfl⟩ ⟨_, ho2, rfl⟩ noFill_tuple_add seq_tuple_add PySem.F.slot_tuple_add PySem.F.entry_tuple_add (PySem.F.args_tuple_add_2 _ _)
        (tuple_addW1 a b xs ys n n2 dd dd2 sl sl2 hv hw) ⟨ho, ho2, p.here R q ?_⟩
      have : m = [] := by
        have h1 := r2.length
        rw [Array.length_toList, Array.isEmpty_iff_size_eq_zero.mp hw] at h1
        exact List.eq_nil_of_length_eq_zero h1.symm
      subst this
      rw [List.append_nil]
      simp only [VR]
      exact ⟨_, _, rfl, t1, r1⟩
    · refine concat_meets ⟨_, ho, rfl⟩ ⟨_, ho2, rfl⟩ noFill_tuple_add seq_tuple_add PySem.F.slot_tuple_add PySem.F.entry_tuple_add (PySem.F.args_tuple_add_2 _ _)
        (tuple_addW2 a b xs ys n n2 dd dd2 sl sl2 hv hw hz') ⟨ho, ho2, ?_⟩
      have := newTup p R (xs := xs.toList ++ ys.toList) q (r1.append r2) (tks s)
      rw [show (xs.toList ++ ys.toList).toArray = xs ++ ys by simp] at this
      exact this
theorem O_addL {a b : Addr} {l m : List V} (q : ∀ d, σ d = none → Q (.raw (.ref d)) (upd σ d (.list (l ++ m)))) (ea : σ a = some (.list l)) (eb : σ b = some (.list m)) (hz : l.length + m.length ≤ 1000000) : Op2 c N σ (.raw (.ref a)) (.raw (.ref b)) (binaryOp .Add) Q X := fun A s QQ EE x y ak R r1 r2 p xp => by
  simp only [VR] at r1 r2; subst r1 r2
  obtain ⟨xs, ⟨n, ho⟩, r1⟩ := (R.obj a _ ea).2
  obtain ⟨ys, ⟨n2, ho2⟩, r2⟩ := (R.obj b _ eb).2
  have hz' : xs.size + ys.size ≤ sizeLine := by rw [← Array.length_toList, ← Array.length_toList, r1.length, r2.length, sizeLine_is]; omega
  refine concat_meets ⟨_, ho, rfl⟩ ⟨_, ho2, rfl⟩ noFill_list_add seq_list_add PySem.F.slot_list_add PySem.F.entry_list_add (PySem.F.args_list_add_2 _ _) (list_addW a b xs ys n n2 none none #[] #[] hz') ⟨ho, ho2, ?_⟩
  have := newLst p R (xs := xs.toList ++ ys.toList) q (r1.append r2) (tks s)
  rw [show (xs.toList ++ ys.toList).toArray = xs ++ ys by simp] at this
  exact this

/-- an item -/
noncomputable abbrev SubOp (c : Cx) (N : Lv) (σ : Sig) (a b : V) (Q : V → Sig → Prop) (X : Exn → Sig → Prop) : Prop :=
  ∀ (A : Around) (s : Shared) (QQ : Value → Shared → Prop) (EE : Value → Shared → Prop) (x y : Value), AOk c N A σ s.heap → Rel c σ s.heap → VR s.heap a x → VR s.heap b y → Post c σ s VR Q QQ → XPost c σ s X EE →
    ∃ T id, s.TypeIs x T ∧ typeLookup (.type T) "__getitem__" = pure (some (.builtin id)) ∧ wpAny (model c.prog c.w) A (getItem x y) QQ EE s
theorem subscripted_ops (slice : PySem.Expr) (o i : Value) : ∃ ops, subscripted slice false o i = operate ops (getItem o i) := by
  unfold subscripted
  split
  · exact ⟨_, rfl⟩
  · rename_i h; cases h
  · exact ⟨_, rfl⟩
theorem G_sub {v i : PySem.Expr} {pos : Pos} (g : EvG c N env ρ v σ (fun a σ1 => EvG c N env ρ i σ1 (fun b σ2 => SubOp c N σ2 a b Q X) X) X) : EvG c N env ρ (.Subscript v i pos) σ Q X := fun A s QQ EE a R E p xp =>
  Subscript_ (g.run a R E xp fun v' x σ1 h1 tk1 g2 r1 a1 R1 E1 x1 gr1 => g2.run a1 R1 E1 (xp.step x1 gr1) fun u y σ2 h2 tk2 q r2 a2 R2 E2 x2 gr2 => by
    obtain ⟨T, id, hT, hl, hg⟩ := q A _ QQ EE x y a2 R2 (R1.vr x2 r1) r2 ((p.step x1 gr1).step x2 gr2) ((xp.step x1 gr1).step x2 gr2)
    obtain ⟨ops, ho⟩ := subscripted_ops i x y
    exact tail_any hT hl hg ho)
theorem I_tup {l : List V} {k : Int} {j : Nat} {v : V} (q : Q v σ) (hj : seqIndex? k l.length = some j) (hx : l[j]? = some v) (hk : -(2 ^ 63) ≤ k ∧ k < 2 ^ 63) : SubOp c N σ (.tup l) (.int k) Q X := fun A s QQ EE x y ak R r1 r2 p xp => by
  simp only [VR] at r1 r2
  obtain ⟨a, xs, rfl, ht, r1⟩ := r1
  obtain ⟨t, rfl⟩ := r2
  obtain ⟨z, hz, rz⟩ := r1.get hx
  exact ⟨_, _, ht.typeIs, slot_tuple_getitem.lookup, getItem_tuple ht.lib hk.1 hk.2 (by rw [← Array.length_toList, r1.length]; exact hj) (by simpa using hz) (p.here R q rz)⟩
theorem I_list {d : Addr} {l : List V} {k : Int} {v : V} (q : Q v σ) (ed : σ d = some (.list l)) (hx : l[k.toNat]? = some v) (hk : 0 ≤ k ∧ k < 2 ^ 63) : SubOp c N σ (.raw (.ref d)) (.int k) Q X := fun A s QQ EE x y ak R r1 r2 p xp => by
  simp only [VR] at r1 r2
  subst r1
  obtain ⟨t, rfl⟩ := r2
  obtain ⟨xs, ⟨n, ho⟩, r1⟩ := (R.obj d _ ed).2
  have hl : s.heap.IsList d xs := ⟨_, ho, rfl, n, rfl⟩
  obtain ⟨z, hz, rz⟩ := r1.get hx
  exact ⟨_, _, hl.typeIs, slot_list_getitem.lookup, wpAny_getItem_list hl hk.1 hk.2 (by simpa using hz) (p.here R q rz)⟩
end
end Mine

-- part P9
namespace Mine

section
variable {c : Cx} {N : Lv} {env : Env} {ρ : Rho} {σ : Sig} {Q : V → Sig → Prop} {X : Exn → Sig → Prop}

/-- a part of a slice -/
noncomputable abbrev PartG (c : Cx) (N : Lv) (env : Env) (ρ : Rho) (e : Option PySem.Expr) (σ : Sig) (PQ : Option Int → Sig → Prop) (X : Exn → Sig → Prop) : Prop := G c N env ρ σ (fun _ (o : Option Int) (x : Value) => IsPart x o) (evalPart e env) PQ X
theorem Pt_none {PQ : Option Int → Sig → Prop} (q : PQ none σ) : PartG c N env ρ none σ PQ X := fun A s QQ EE a R E p xp =>
  wpAny_pure (p none .none σ s.heap (tks s) q .none R (.refl _) (.refl _ _))
theorem Pt_some {PQ : Option Int → Sig → Prop} {e : PySem.Expr} (g : EvG c N env ρ e σ (fun v σ1 => ∃ i, v = .int i ∧ PQ (some i) σ1) X) : PartG c N env ρ (some e) σ PQ X := fun A s QQ EE a R E p xp => by
  rw [evalPart_some]
  exact g.run a R E xp fun v x σ1 h1 tk1 ⟨i, e1, q⟩ r a1 R1 E1 x1 gr1 => by
    subst e1
    simp only [VR] at r
    obtain ⟨t, rfl⟩ := r
    exact p (some i) _ σ1 h1 tk1 q (.int i t) R1 x1 gr1
noncomputable abbrev SliceOp (c : Cx) (N : Lv) (σ : Sig) (a : V) (lo hi st : Option Int) (Q : V → Sig → Prop) (X : Exn → Sig → Prop) : Prop :=
  ∀ (A : Around) (s : Shared) (QQ : Value → Shared → Prop) (EE : Value → Shared → Prop) (x : Value) (sl : Addr) (vl vu vs : Value), AOk c N A σ s.heap → Rel c σ s.heap → VR s.heap a x → s.heap.IsSliceOf sl vl vu vs → IsPart vl lo → IsPart vu hi → IsPart vs st →
    Post c σ s VR Q QQ → XPost c σ s X EE → ∃ T id, s.TypeIs x T ∧ typeLookup (.type T) "__getitem__" = pure (some (.builtin id)) ∧ wpAny (model c.prog c.w) A (getItem x (.ref sl)) QQ EE s
theorem G_slice {v : PySem.Expr} {lo hi st : Option PySem.Expr} {p' pos : Pos} (g : EvG c N env ρ v σ (fun a σ1 => PartG c N env ρ lo σ1 (fun l σ2 => PartG c N env ρ hi σ2 (fun u σ3 => PartG c N env ρ st σ3 (fun k σ4 => SliceOp c N σ4 a l u k Q X) X) X) X) X) :
    EvG c N env ρ (.Subscript v (.Slice lo hi st p') pos) σ Q X := fun A s QQ EE a R E p xp =>
  Subscript_ (g.run a R E xp fun v' x σ1 h1 tk1 g1 r1 a1 R1 E1 x1 gr1 => wpAny_Slice (g1.run a1 R1 E1 (xp.step x1 gr1) fun l vl σ2 h2 tk2 g2 rl a2 R2 E2 x2 gr2 =>
    g2.run a2 R2 E2 ((xp.step x1 gr1).step x2 gr2) fun u vu σ3 h3 tk3 g3 ru a3 R3 E3 x3 gr3 => g3.run a3 R3 E3 (((xp.step x1 gr1).step x2 gr2).step x3 gr3) fun k vk σ4 h4 tk4 q rk a4 R4 E4 x4 gr4 => by
      have x5 : Ext (dom σ4) h4 (h4.push { cls := .type "slice", data := .fields #[vl, vu, vk] }) := .push _ _
      have r4 := R3.vr x4 (R2.vr x3 (R1.vr x2 r1))
      obtain ⟨T, id, hT, hl, hg⟩ := q A (at_ s (h4.push { cls := .type "slice", data := .fields #[vl, vu, vk] }) tk4) QQ EE x h4.objs.size vl vu vk (a4.ext x5 (.refl _ _)) (R4.push _) (R4.vr x5 r4) (.new ..) rl ru rk
        ((((p.step x1 gr1).step x2 gr2).step x3 gr3).step (x4.trans x5 (dom_back gr4)) gr4) ((((xp.step x1 gr1).step x2 gr2).step x3 gr3).step (x4.trans x5 (dom_back gr4)) gr4)
      obtain ⟨ops, ho⟩ : ∃ ops, subscripted (.Slice lo hi st p') false x (.ref h4.objs.size) = operate ops (getItem x (.ref h4.objs.size)) := subscripted_ops _ _ _
      exact tail_any hT hl hg ho))

/-- the places of a slice of a tuple -/
noncomputable def tslice (l : List V) (lo hi st : Option Int) : List V :=
  let k := st.getD 1
  let b := Builtin.Slice.sliceAdjust lo hi k l.length
  (List.range (Builtin.Slice.slicePlaces b.1 b.2 k)).filterMap fun (i : Nat) => l[(b.1 + (i : Int) * k).toNat]?
theorem VRs.filterMap {h : Heap} {l : List V} {xs : List Value} (r : VRs h l xs) (f : Nat → Nat) : ∀ is : List Nat, VRs h (is.filterMap fun i => l[f i]?) (is.filterMap fun i => xs[f i]?)
  | [] => .nil
  | i :: is => by
    have ih := VRs.filterMap r f is
    cases e : l[f i]? with
    | none => rw [List.filterMap_cons_none (f := fun i => l[f i]?) e, List.filterMap_cons_none (f := fun i => xs[f i]?) (r.none_of e)]; exact ih
    | some v =>
      obtain ⟨x, ex, rx⟩ := r.get e
      rw [List.filterMap_cons_some (f := fun i => l[f i]?) e, List.filterMap_cons_some (f := fun i => xs[f i]?) ex]
      exact .cons rx ih
theorem slicePart_ {M : Model} {A : Around} {E : Value → Shared → Prop} {s : Shared} {v : Value} {o : Option Int} {QQ : Option Int → Shared → Prop} (hv : IsPart v o) (h : QQ o s) : wpAny M A (Builtin.Slice.slicePartIndex v) QQ E s := by
  cases hv with
  | none => exact wpAny_pure h
  | int i u =>
    unfold Builtin.Slice.slicePartIndex
    rw [if_neg (show ¬ ((Value.int i u == Value.none) = true) from Bool.false_ne_true)]
    refine wpAny_bind (wpAny_specialOf (T := "int") (typeIs_int s i u) int_index ?_)
    simp only [Option.isNone_some, Bool.false_eq_true, if_false]
    exact wpAny_bind (wpAny_of_eq (a := i) rfl (wpAny_pure h))
theorem range_pick {α : Type} (xs : List α) : (List.range xs.length).filterMap (fun k => xs[k]?) = xs := by
  induction xs with
  | nil => rfl
  | cons x xs ih =>
    rw [List.length_cons, List.range_succ_eq_map, List.filterMap_cons_some (by rfl), List.filterMap_map]
    exact congrArg _ ih
theorem getItem_tslice {A : Around} {s : Shared} {QQ : Value → Shared → Prop} {EE : Value → Shared → Prop} {t sl : Addr} {xs : Array Value} {vl vu vs : Value} {lo hi st : Option Int} (ht : IsTup s.heap t xs) (hs : s.heap.IsSliceOf sl vl vu vs)
    (pl : IsPart vl lo) (pu : IsPart vu hi) (pk : IsPart vs st) (h0 : st ≠ some 0) (hz : (Builtin.Slice.slicePlaces (Builtin.Slice.sliceAdjust lo hi (st.getD 1) xs.size).1 (Builtin.Slice.sliceAdjust lo hi (st.getD 1) xs.size).2 (st.getD 1)) ≤ sizeLine)
    (hA : ((Builtin.Slice.sliceAdjust lo hi (st.getD 1) xs.size).1 == 0 && st.getD 1 == 1 && (Builtin.Slice.slicePlaces (Builtin.Slice.sliceAdjust lo hi (st.getD 1) xs.size).1 (Builtin.Slice.sliceAdjust lo hi (st.getD 1) xs.size).2 (st.getD 1)) == xs.size) = true → QQ (.ref t) s)
    (hB : QQ (.ref s.heap.objs.size) { s with heap := s.heap.push { cls := .type "tuple", data := .seq ((List.range (Builtin.Slice.slicePlaces (Builtin.Slice.sliceAdjust lo hi (st.getD 1) xs.size).1 (Builtin.Slice.sliceAdjust lo hi (st.getD 1) xs.size).2 (st.getD 1))).filterMap fun (k : Nat) => xs[((Builtin.Slice.sliceAdjust lo hi (st.getD 1) xs.size).1 + (k : Int) * st.getD 1).toNat]?).toArray } }) :
    wpAny (model c.prog c.w) A (getItem (.ref t) (.ref sl)) QQ EE s := by
  obtain ⟨os, hos, hcs, hds⟩ := id hs
  have hTs : s.TypeIs (.ref sl) "slice" := ⟨os, hos, hcs⟩
  generalize hL : (Builtin.Slice.sliceAdjust lo hi (st.getD 1) xs.size) = b at *
  generalize hP : (Builtin.Slice.slicePlaces b.1 b.2 (st.getD 1)) = n at *
  unfold getItem
  try with_reducible refine wpAny_holding ?_
  first | refine wpAny_bind (wpAny_pure ?_) | skip
  refine wpAny_bind (wpAny_sequenceKey ht.typeIs (by decide) ?_)
  refine wpAny_bind (wpAny_callSpecial?_slot (name := Str.ofString "__getitem__") ht.typeIs slot_tuple_getitem
    (wpAny_call_entry slot_tuple_getitem ht.typeIs entry_tuple_getitem ?_ (args_tuple_getitem _ _)))
  show wpAny _ _ (Builtin.Tuple.tupleItemsOf (.ref t) >>= _) _ _ s
  refine wpAny_bind (tupleItemsOf_ ht.lib ?_)
  refine wpAny_bind (wpAny_typeOf hTs ?_)
  rw [if_pos (by decide)]
  have hk : ¬ ((st.getD 1 == 0) = true) := by
    cases st with
    | none => decide
    | some k => intro e; exact h0 (by rw [show k = 0 from by simpa using e])
  refine wpAny_bind ?_
  unfold Builtin.Slice.sliceApplied Builtin.Slice.sliceFields
  refine wpAny_bind (wpAny_bind (wpAny_field hos hds (x := vl) rfl (wpAny_bind (wpAny_field hos hds (x := vu) rfl (wpAny_bind (wpAny_field hos hds (x := vs) rfl (wpAny_pure ?_)))))))
  refine wpAny_bind (slicePart_ pk ?_)
  rw [if_neg hk]
  refine wpAny_bind (slicePart_ pl (wpAny_bind (slicePart_ pu (wpAny_bind (wpAny_pure ?_)))))
  show wpAny _ _ (match Builtin.Slice.sliceAdjust lo hi (st.getD 1) (xs.size : Int) with | (lo, hi) => pure (lo, st.getD 1, Builtin.Slice.slicePlaces lo hi (st.getD 1))) _ _ s
  rw [hL]
  obtain ⟨b1, b2⟩ := b
  simp only at hP
  show wpAny _ _ (pure (b1, st.getD 1, Builtin.Slice.slicePlaces b1 b2 (st.getD 1))) _ _ s
  rw [hP]
  refine wpAny_pure ?_
  by_cases hc : (b1 == 0 && st.getD 1 == 1 && n == xs.size) = true
  · show wpAny _ _ (if (b1 == 0 && st.getD 1 == 1 && n == xs.size) = true then _ else _) _ _ s
    rw [if_pos hc]
    have q := hA hc
    unfold Builtin.Tuple.tupleIsExact
    refine wpAny_bind (wpAny_bind (wpAny_typeOf ht.typeIs (wpAny_pure ?_)))
    rw [if_pos (by decide)]
    exact wpAny_bind (wpAny_rule (wpAny_pure ⟨_, rfl, wpAny_pure q⟩))
  · show wpAny _ _ (if (b1 == 0 && st.getD 1 == 1 && n == xs.size) = true then _ else _) _ _ s
    rw [if_neg hc]
    exact wpAny_bind (m := Builtin.Tuple.tupleExact _) (wpAny_newObj_type (wpAny_pure ⟨_, rfl, wpAny_pure hB⟩) (by
      show ((List.range n).filterMap _).toArray.size ≤ sizeLine
      rw [List.size_toArray]
      exact Nat.le_trans (List.length_filterMap_le _ _) (by rw [List.length_range]; exact hz)))
end
end Mine

-- part P10
namespace Mine

section
variable {c : Cx} {N : Lv} {env : Env} {ρ : Rho} {σ : Sig} {Q : V → Sig → Prop} {X : Exn → Sig → Prop}

/-- lists and dicts that can be read: of the ghost heap, or static ones -/
noncomputable def LR (c : Cx) (σ : Sig) (a : Addr) (l : List V) : Prop := σ a = some (.list l) ∨ ∃ xs, c.S.IsList a xs ∧ VRs c.S l xs.toList
noncomputable def DR (c : Cx) (σ : Sig) (a : Addr) (l : List (Str × V)) : Prop := σ a = some (.dict l) ∨ (∃ kvs, c.S.DictOf (strKind c.prog c.w) a kvs ∧ PairsR c.S l kvs) ∧ a ≠ sysModules
theorem IsTup.stat {h : Heap} (R : Rel c σ h) : ∀ a xs, IsTup c.S a xs → IsTup h a xs := fun a xs t => t.keeps R.static
theorem LR.real {a : Addr} {l : List V} {h : Heap} (x : LR c σ a l) (R : Rel c σ h) : ∃ xs, h.IsList a xs ∧ VRs h l xs.toList := by
  rcases x with e | ⟨xs, ⟨o, ho, r⟩, rr⟩
  · obtain ⟨xs, ⟨n, ho⟩, r⟩ := (R.obj a _ e).2
    exact ⟨xs, ⟨_, ho, rfl, n, rfl⟩, r⟩
  · exact ⟨xs, ⟨o, R.static _ _ ho, r⟩, VRs.mono (IsTup.stat R) _ _ rr⟩
theorem DR.real {a : Addr} {l : List (Str × V)} {h : Heap} (x : DR c σ a l) (R : Rel c σ h) : ∃ kvs, h.DictOf (strKind c.prog c.w) a kvs ∧ PairsR h l kvs := by
  rcases x with e | ⟨⟨kvs, d, r⟩, _⟩
  · exact (R.obj a _ e).2
  · exact ⟨kvs, d.keep R.static, PairsR.mono (IsTup.stat R) _ _ r⟩
theorem Rel.notMods {h : Heap} (R : Rel c σ h) {a : Addr} {m : MO} (e : σ a = some m) : a ≠ sysModules := fun q => by
  have h1 := (R.obj a m e).1
  have h2 := c.g.lt
  rw [q] at h1
  have : mainGlobals < 2 := Nat.lt_of_lt_of_le h2 (Nat.le_trans h1 (by decide))
  exact absurd this (by decide)

theorem DR.off {h : Heap} {a : Addr} {l : List (Str × V)} (x : DR c σ a l) (R : Rel c σ h) : a ≠ sysModules := x.elim (fun e => R.notMods e) fun e => e.2

theorem PairsR.at {h : Heap} : ∀ {l : List (Str × V)} {kvs : List (Str × Value)} (k : Str), PairsR h l kvs → match assoc l k with
    | some v => ∃ x, valueAt kvs k = some x ∧ VR h v x
    | none => valueAt kvs k = none
  | [], kvs, k, r => by simp only [PairsR] at r; subst r; rfl
  | (k', v) :: l, kvs, k, r => by
    simp only [PairsR] at r
    obtain ⟨x, r', rfl, r1, r2⟩ := r
    have ih := PairsR.at k r2
    simp only [assoc, valueAt, List.find?_cons] at ih ⊢
    by_cases e : k' = k
    · rw [if_pos e, decide_eq_true e]; exact ⟨x, rfl, r1⟩
    · rw [if_neg e, decide_eq_false e]; exact ih
noncomputable def putA : List (Str × V) → Str → V → List (Str × V)
  | [], k, v => [(k, v)]
  | (x, u) :: l, k, v => if x = k then (k, v) :: l else (x, u) :: putA l k v
theorem PairsR.keys {h : Heap} : ∀ {l : List (Str × V)} {kvs : List (Str × Value)}, PairsR h l kvs → kvs.map (·.1) = l.map (·.1)
  | [], kvs, r => by simp only [PairsR] at r; subst r; rfl
  | (k', v) :: l, kvs, r => by
    simp only [PairsR] at r
    obtain ⟨x, r', rfl, r1, r2⟩ := r
    simp [PairsR.keys r2]
theorem PairsR.put {h : Heap} {k : Str} {v : V} {x : Value} (rv : VR h v x) : ∀ {l : List (Str × V)} {kvs : List (Str × Value)}, PairsR h l kvs → (kvs.map (·.1)).Nodup → PairsR h (putA l k v) (stored kvs k x)
  | [], kvs, r, _ => by simp only [PairsR] at r; subst r; simp only [stored, putA]; exact ⟨x, [], rfl, rv, rfl⟩
  | (k', u) :: l, kvs, r, hn => by
    simp only [PairsR] at r
    obtain ⟨y, r', rfl, r1, r2⟩ := r
    rw [List.map_cons, List.nodup_cons] at hn
    have ih := PairsR.put (k := k) rv r2 hn.2
    simp only [stored, putA, List.any_cons, List.map_cons] at ih ⊢
    by_cases e : k' = k
    · subst e
      simp only [if_pos rfl, decide_true, Bool.true_or, if_true]
      have : r'.map (fun kv => if kv.1 = k' then (kv.1, x) else kv) = r' := map_store_of_not_mem _ _ _ hn.1
      rw [this]
      exact ⟨x, r', rfl, rv, r2⟩
    · simp only [if_neg e, decide_eq_false e, Bool.false_or]
      refine ⟨y, stored r' k x, ?_, r1, ih⟩
      simp only [stored]
      split <;> simp
theorem PairsR.length {h : Heap} {l : List (Str × V)} {kvs : List (Str × Value)} (r : PairsR h l kvs) : kvs.length = l.length := by
  have := congrArg List.length r.keys
  simpa using this

theorem Sl_tup {l : List V} {lo hi st : Option Int} (q : Q (.tup (tslice l lo hi st)) σ) (h0 : st ≠ some 0)
    (hz : Builtin.Slice.slicePlaces (Builtin.Slice.sliceAdjust lo hi (st.getD 1) l.length).1 (Builtin.Slice.sliceAdjust lo hi (st.getD 1) l.length).2 (st.getD 1) ≤ 1000000) : SliceOp c N σ (.tup l) lo hi st Q X := fun A s QQ EE x sl vl vu vs ak R r1 hs pl pu pk p xp => by
  simp only [VR] at r1
  obtain ⟨t, xs, rfl, ht, r1⟩ := r1
  have hlen : xs.size = l.length := by rw [← Array.length_toList, r1.length]
  refine ⟨_, _, ht.typeIs, slot_tuple_getitem.lookup, getItem_tslice ht hs pl pu pk h0 (by rw [hlen, sizeLine_is]; omega) (fun hw => ?_) ?_⟩
  · refine p.here R q ?_
    rw [hlen] at hw
    simp only [Bool.and_eq_true, beq_iff_eq] at hw
    obtain ⟨⟨w1, w2⟩, w3⟩ := hw
    have : tslice l lo hi st = l := by
      simp only [tslice, w2] at w1 w3 ⊢
      rw [w3, w1]
      have e : (fun (i : Nat) => l[((0 : Int) + (i : Int) * 1).toNat]?) = fun i => l[i]? := by funext i; congr 1; omega
      rw [e]; exact range_pick l
    rw [this]
    simp only [VR]
    exact ⟨t, xs, rfl, ht, r1⟩
  · rw [hlen]
    have := newTup p R q (r1.filterMap (fun i => ((Builtin.Slice.sliceAdjust lo hi (st.getD 1) l.length).1 + (i : Int) * st.getD 1).toNat) (List.range (Builtin.Slice.slicePlaces (Builtin.Slice.sliceAdjust lo hi (st.getD 1) l.length).1 (Builtin.Slice.sliceAdjust lo hi (st.getD 1) l.length).2 (st.getD 1)))) (tks s)
    simp only [Array.getElem?_toList] at this
    exact this
noncomputable def lslice (l : List V) (lo hi st : Option Int) : List V := (sliceRange (sliceBounds lo hi st l.length).1 (sliceBounds lo hi st l.length).2.1 (sliceBounds lo hi st l.length).2.2).filterMap (l[·]?)
theorem Sl_list {a : Addr} {l : List V} {lo hi st : Option Int} (q : ∀ d, σ d = none → Q (.raw (.ref d)) (upd σ d (.list (lslice l lo hi st)))) (hl : LR c σ a l) (h0 : st ≠ some 0) (hz : l.length ≤ 1000000) : SliceOp c N σ (.raw (.ref a)) lo hi st Q X := fun A s QQ EE x sl vl vu vs ak R r1 hs pl pu pk p xp => by
  simp only [VR] at r1; subst r1
  obtain ⟨xs, hx, r⟩ := hl.real R
  have hlen : xs.size = l.length := by rw [← Array.length_toList, r.length]
  refine ⟨_, _, hx.typeIs, slot_list_getitem.lookup, wpAny_getItem_list_slice hx hs pl pu pk h0 ?_ (by rw [hlen, sizeLine_is]; omega)⟩
  have := newLst p R q (r.filterMap (fun i => i) (sliceRange (sliceBounds lo hi st l.length).1 (sliceBounds lo hi st l.length).2.1 (sliceBounds lo hi st l.length).2.2)) (tks s)
  simp only [Array.getElem?_toList] at this
  unfold slicePick
  rw [hlen]
  exact this
theorem Sl_str {x : Str} {lo hi : Option Int} (q : Q (.str (Txt.slice x lo hi)) σ) (hx : (Txt.slice x lo hi).length ≤ 1000 ∧ PyData.strOk (Txt.slice x lo hi) = true) : SliceOp c N σ (.str x) lo hi none Q X := fun A s QQ EE y sl vl vu vs ak R r1 hs pl pu pk p xp => by
  simp only [VR] at r1
  obtain ⟨hx1, t, rfl⟩ := r1
  have e3 : vs = .none := by cases pk; rfl
  subst e3
  obtain ⟨l, hl, hl'⟩ : ∃ l : Option (Int × Tok), vl = partValue l ∧ l.map (·.1) = lo := by
    cases pl with
    | none => exact ⟨none, rfl, rfl⟩
    | int i u => exact ⟨some (i, u), rfl, rfl⟩
  obtain ⟨u, hu, hu'⟩ : ∃ l : Option (Int × Tok), vu = partValue l ∧ l.map (·.1) = hi := by
    cases pu with
    | none => exact ⟨none, rfl, rfl⟩
    | int i u => exact ⟨some (i, u), rfl, rfl⟩
  subst hl hu hl' hu'
  refine ⟨_, _, typeIs_str _ _ _, F.slot_str_getitem.lookup, wpAny_getItem_str_slice (st := none) hs rfl (post_val_or_str (y := x) ⟨?_, fun t' k => ?_⟩)⟩
  · exact Nat.le_trans hx.1 (by rw [sizeLine_is]; omega)
  · exact p.tok R q (by simp only [VR]; exact ⟨hx, _, rfl⟩)
theorem I_dict {d : Addr} {l : List (Str × V)} {k : Str} {v : V} (q : Q v σ) (ed : DR c σ d l) (hx : assoc l k = some v) : SubOp c N σ (.raw (.ref d)) (.str k) Q X := fun A s QQ EE x y ak R r1 r2 p xp => by
  simp only [VR] at r1 r2
  subst r1
  obtain ⟨_, t, rfl⟩ := r2
  obtain ⟨kvs, hd, r1⟩ := ed.real R
  have := r1.at k
  rw [hx] at this
  obtain ⟨z, hz, rz⟩ := this
  exact ⟨_, _, hd.typeIs, slot_dict_getitem.lookup, wpAny_getItem_of (strKind_is c.prog c.w k t) hd.mapOf hz (p.tok R q rz)⟩
theorem O_in {d : Addr} {l : List (Str × V)} {k : Str} (q : Q (.bool (assoc l k).isSome) σ) (ed : DR c σ d l) : Op2 c N σ (.str k) (.raw (.ref d)) (compareOp .In) Q X := fun A s QQ EE x y ak R r1 r2 p xp => by
  simp only [VR] at r1 r2
  subst r2
  obtain ⟨_, t, rfl⟩ := r1
  obtain ⟨kvs, hd, r1⟩ := ed.real R
  refine wpAny_in_of (strKind_is c.prog c.w k t) (beq_eq_false_iff_ne.mpr (ed.off R)) hd.mapOf (p.tok R q ?_)
  have := r1.at k
  cases e : assoc l k with
  | none => rw [e] at this; rw [this]; simp only [VR]; rfl
  | some v => rw [e] at this; obtain ⟨z, hz, _⟩ := this; rw [hz]; simp only [VR]; rfl
theorem O_notIn {d : Addr} {l : List (Str × V)} {k : Str} (q : Q (.bool (!(assoc l k).isSome)) σ) (ed : DR c σ d l) : Op2 c N σ (.str k) (.raw (.ref d)) (compareOp .NotIn) Q X := fun A s QQ EE x y ak R r1 r2 p xp => by
  simp only [VR] at r1 r2
  subst r2
  obtain ⟨_, t, rfl⟩ := r1
  obtain ⟨kvs, hd, r1⟩ := ed.real R
  refine wpAny_notIn_of (strKind_is c.prog c.w k t) (beq_eq_false_iff_ne.mpr (ed.off R)) hd.mapOf (p.tok R q ?_)
  have := r1.at k
  cases e : assoc l k with
  | none => rw [e] at this; rw [this]; simp only [VR]; rfl
  | some v => rw [e] at this; obtain ⟨z, hz, _⟩ := this; rw [hz]; simp only [VR]; rfl
end
end Mine

-- part P11
namespace Mine

section
variable {c : Cx} {N : Lv} {env : Env} {ρ : Rho} {σ : Sig} {Q : V → Sig → Prop} {X : Exn → Sig → Prop} {SQ : GF → Rho → Sig → Prop} {SX : Exn → Rho → Sig → Prop}

/-- a call -/
noncomputable def CallOp (c : Cx) (N : Lv) (σ : Sig) (f : Value) (args : List V) (Q : V → Sig → Prop) (X : Exn → Sig → Prop) : Prop :=
  ∀ (A : Around) (s : Shared) (QQ : Value → Shared → Prop) (EE : Value → Shared → Prop) (ys : List Value), AOk c N A σ s.heap → Rel c σ s.heap → VRs s.heap args ys → Post c σ s VR Q QQ → XPost c σ s X EE → wpAny (model c.prog c.w) A (call f ys) QQ EE s
/-- who holds the arguments -/
noncomputable def Kee (c : Cx) (σ : Sig) (f : Value) : Prop := ∀ h, Rel c σ h → ∃ k, (k = Keeper.frame ∨ k = Keeper.machine ∨ k = Keeper.boundFrame) ∧ Looks (model c.prog c.w) h (keeperOf f) k
theorem Kee.builtin {id : String} : Kee c σ (.builtin id) := fun h _ => ⟨.machine, .inr (.inl rfl), Looks.of_pure rfl⟩
theorem Kee.type {T : String} : Kee c σ (.type T) := fun h _ => ⟨.machine, .inr (.inl rfl), Looks.of_pure rfl⟩
theorem Kee.K {f : Value} (hk : keepIn c.K f = true) : Kee c σ f := fun h R => keeps_K hk h (c.KIn.keeps R.static)
theorem evalArgs_any {M : Model} {A : Around} {E : Value → Shared → Prop} {s : Shared} {f : Value} {args : List (Bool × Sem Value)} {QQ : Args → Shared → Prop} (hp : args.any (·.1) = false) (h : wpAny M A (spliced args) (fun vs s' => QQ ⟨vs, []⟩ s') E s) : wpAny M A (evalArgs f true args []) QQ E s := by
  cases args with
  | nil =>
    unfold evalArgs
    show wpAny M A (spliced [] >>= _) QQ E s
    refine wpAny_bind (wpAny_mono h (fun vs s' h' => ?_) fun _ _ x => x)
    refine wpAny_holding ?_
    exact wpAny_bind (wpAny_pure (wpAny_bind (wpAny_pure (wpAny_pure h'))))
  | cons a r =>
    obtain ⟨b, x⟩ := a
    cases b with
    | true => simp at hp
    | false => exact evalArgs_plain h

theorem call_node {M : Model} {A : Around} {E : Value → Shared → Prop} {s : Shared} {f : Value} {first : List Value} {es : List PySem.Expr} {pos : Pos} {QQ : Value → Shared → Prop} {P : Heap → Prop}
    (hk : ∀ h, P h → ∃ k, (k = Keeper.frame ∨ k = Keeper.machine ∨ k = Keeper.boundFrame) ∧ Looks M h (keeperOf f) k)
    (h : wpAny M A (spliced (backTo pos (starEach es env))) (fun vs s₁ => P s₁.heap ∧ wpAny M A (call f (first ++ vs)) QQ E s₁) E s) (hp : (backTo pos (starEach es env)).any (·.1) = false) :
    wpAny M A (callWith pos f first (backTo pos (starEach es env)) []) QQ E s :=
  callWith_of (by rw [hp]; rfl) hk (evalArgs_any hp h)
theorem G_call {fe : PySem.Expr} {es : List PySem.Expr} {pos : Pos} (g : EvG c N env ρ fe σ (fun v σ1 => ∃ f, v = .raw f ∧ ArgsG c N env ρ es pos σ1 (fun vs σ2 => Kee c σ2 f ∧ CallOp c N σ2 f vs Q X) X) X)
    (he : eval (.Call fe es [] pos) env = (do let f ← eval fe env; callWith pos f [] (backTo pos (starEach es env)) []) := by rfl) (hp : (backTo pos (starEach es env)).any (·.1) = false := by rfl) : EvG c N env ρ (.Call fe es [] pos) σ Q X := fun A s QQ EE a R E p xp => by
  rw [he]
  exact wpAny_bind (g.run a R E xp fun v x σ1 h1 tk1 ⟨f, e1, g1⟩ r1 a1 R1 E1 x1 gr1 => by
    subst e1
    simp only [VR] at r1
    subst r1
    refine call_node (P := fun h => ∃ k, (k = Keeper.frame ∨ k = Keeper.machine ∨ k = Keeper.boundFrame) ∧ Looks (model c.prog c.w) h (keeperOf x) k) (fun h q => q) (g1.run a1 R1 E1 (xp.step x1 gr1) fun vs ys σ2 h2 tk2 ⟨k2, q⟩ r2 a2 R2 E2 x2 gr2 => ⟨k2 h2 R2, ?_⟩) hp
    exact q A _ QQ EE ys a2 R2 r2 ((p.step x1 gr1).step x2 gr2) ((xp.step x1 gr1).step x2 gr2))

/-- a method -/
noncomputable def MethOp (c : Cx) (N : Lv) (σ : Sig) (a : V) (name : Str) (f : Value) : Prop :=
  ∀ (A : Around) (s : Shared) (EE : Value → Shared → Prop) (x : Value) (pl : Sem Bool) (QQ : Value × List Value → Shared → Prop), AOk c N A σ s.heap → Rel c σ s.heap → VR s.heap a x → QQ (f, [x]) s → wpAny (model c.prog c.w) A (getMethod x name pl) QQ EE s
theorem G_meth {o : PySem.Expr} {name : Str} {apos pos : Pos} {es : List PySem.Expr} {pl : Sem Bool} (g : EvG c N env ρ o σ (fun v σ1 => ∃ f, MethOp c N σ1 v name f ∧ ArgsG c N env ρ es pos σ1 (fun vs σ2 => Kee c σ2 f ∧ CallOp c N σ2 f (v :: vs) Q X) X) X)
    (he : eval (.Call (.Attribute o name apos) es [] pos) env = (do
      let ov ← eval o env
      standAt apos.atName
      let (f, first) ← holding [ov] (getMethod ov name pl)
      callWith pos f first (backTo pos (starEach es env)) []) := by rfl) (hp : (backTo pos (starEach es env)).any (·.1) = false := by rfl) : EvG c N env ρ (.Call (.Attribute o name apos) es [] pos) σ Q X := fun A s QQ EE a R E p xp => by
  refine MethodCall_ (pl := pl) (g.run a R E xp fun v x σ1 h1 tk1 ⟨f, m1, g1⟩ r1 a1 R1 E1 x1 gr1 => m1 A _ EE x pl _ a1 R1 r1 ?_) he
  refine call_node (P := fun h => ∃ k, (k = Keeper.frame ∨ k = Keeper.machine ∨ k = Keeper.boundFrame) ∧ Looks (model c.prog c.w) h (keeperOf f) k) (fun h q => q) (g1.run a1 R1 E1 (xp.step x1 gr1) fun vs ys σ2 h2 tk2 ⟨k2, q⟩ r2 a2 R2 E2 x2 gr2 => ⟨k2 h2 R2, ?_⟩) hp
  exact q A _ QQ EE (x :: ys) a2 R2 (.cons (R1.vr x2 r1) r2) ((p.step x1 gr1).step x2 gr2) ((xp.step x1 gr1).step x2 gr2)
end
end Mine

-- part P12
namespace Mine

section
variable {c : Cx} {N : Lv} {env : Env} {ρ : Rho} {σ : Sig} {A : Around} {M : Model} {E : Value → Shared → Prop} {s : Shared}
/-- records that are newer -/
noncomputable def FB (c : Cx) (σ : Sig) (lo : Nat) (h : Heap) : Addr → Prop := fun a => lo ≤ a ∧ c.S.objs.size ≤ a ∧ σ a = none ∧ (h.objs.size ≤ a ∨ ∃ o us, h.get? a = some o ∧ o.data = .fields us)
theorem FB.noTup {lo : Nat} {h : Heap} : NoTup (FB c σ lo h) h := fun a xs q ⟨o, e, hc, _, n, hd⟩ => by
  obtain ⟨_, _, _, q⟩ := q
  rcases q with q | ⟨o', us, e', hd'⟩
  · exact absurd (Heap.lt_size e) (Nat.not_lt.mpr q)
  · rw [e] at e'; cases e'; rw [hd] at hd'; cases hd'
theorem FB.mono {lo lo' : Nat} {h : Heap} (hl : lo' ≤ lo) : ∀ a, FB c σ lo h a → FB c σ lo' h a := fun a q => ⟨Nat.le_trans hl q.1, q.2⟩
/-- frames alone have changed, or newer records -/
structure Flew (c : Cx) (σ : Sig) (lo : Nat) (h h' : Heap) : Prop where
  ext : Ext (FB c σ lo h) h h'
  static : ∀ a o, c.S.get? a = some o → h.get? a = some o → h'.get? a = some o
theorem Flew.refl {lo : Nat} {h : Heap} : Flew c σ lo h h := ⟨.refl _, fun _ _ _ e => e⟩
theorem Flew.trans {lo : Nat} {h h1 h2 : Heap} (x : Flew c σ lo h h1) (y : Flew c σ lo h1 h2) : Flew c σ lo h h2 :=
  ⟨⟨fun a o ha e => by
    obtain ⟨o1, e1, l1⟩ := x.ext.keep a o ha e
    have hb : ¬ FB c σ lo h1 a := fun q => ha ⟨q.1, q.2.1, q.2.2.1, by
      rcases q.2.2.2 with q | ⟨o', us, e', hd'⟩
      · exact absurd (Heap.lt_size e1) (Nat.not_lt.mpr q)
      · rw [e1] at e'; cases e'
        exact .inr ⟨o, us, e, l1.data.symm.trans hd'⟩⟩
    obtain ⟨o2, e2, l2⟩ := y.ext.keep a o1 hb e1
    exact ⟨o2, e2, l1.trans l2⟩, Nat.le_trans x.ext.size y.ext.size⟩, fun a o hs e => y.static a o hs (x.static a o hs e)⟩
theorem Flew.rel {lo : Nat} {h h' : Heap} (x : Flew c σ lo h h') (R : Rel c σ h) : Rel c σ h' :=
  R.beside x.ext FB.noTup (fun a q => q.2.2.1) (fun a q => q.2.1) fun a o e => x.static a o e (R.static a o e)
theorem Flew.envR {lo : Nat} {h h' : Heap} (x : Flew c σ lo h h') (Ev : EnvR c σ env ρ h) : EnvR c σ env ρ h' := by
  obtain ⟨m, hn, hv⟩ := Ev.vars
  have hnf : ∀ {a : Addr} {o : Obj}, h.get? a = some o → (∀ us, o.data ≠ .fields us) → ¬ FB c σ lo h a := fun e hd q => by
    rcases q.2.2.2 with q | ⟨o', us, e', hd'⟩
    · exact absurd (Heap.lt_size e) (Nat.not_lt.mpr q)
    · rw [e] at e'; cases e'; exact hd us hd'
  have hl : ¬ FB c σ lo h env.locals := by
    obtain ⟨o, es, ep, e1, e2, _⟩ := hn
    exact hnf e1 fun us q => by rw [e2] at q; cases q
  have hc : ∀ {k v}, h.IsCell k v → ¬ FB c σ lo h k := fun ⟨o, e1, e2⟩ => hnf e1 fun us q => by rw [e2] at q; cases q
  refine ⟨Ev.kind, Ev.glob, Ev.blt, Ev.loc, fun y k e => ?_, Ev.apart, ⟨m, Ns.like hn x.ext hl, fun y v hm => ?_⟩, Ev.nodup, Ev.kinds, ?_, ?_⟩
  · obtain ⟨a1, a2, v, a3⟩ := Ev.cells y k e
    exact ⟨a1, a2, v, IsCell.like a3 x.ext (hc a3)⟩
  · rcases hv y v hm with ⟨k1, z, e1, e2⟩ | ⟨k1, k, z, e1, e2, e3⟩
    · exact .inl ⟨k1, z, e1, VR.ext FB.noTup x.ext e2⟩
    · exact .inr ⟨k1, k, z, e1, IsCell.like e2 x.ext (hc e2), VR.ext FB.noTup x.ext e3⟩
  · refine Ev.own.imp id fun ⟨o, e1, e2⟩ => ?_
    obtain ⟨o', e', l⟩ := x.ext.keep _ o hl e1
    exact ⟨o', e', fun q => e2 (l.cls.symm.trans q)⟩
  · obtain ⟨f, o, e1, e2, e3, es, n, e4⟩ := Ev.hand
    obtain ⟨o', e', l⟩ := x.ext.keep f o (hnf e2 fun us q => by rw [e4] at q; cases q) e2
    exact ⟨f, o', e1, e', l.cls.trans e3, es, n, l.data.trans e4⟩
theorem Flew.ok {lo : Nat} {h h' : Heap} (x : Flew c σ lo h h') (a : AOk c N A σ h) : AOk c N A σ h' :=
  ⟨a.depth, a.units, a.han, let ⟨l, e, f⟩ := a.frames; ⟨l, e, fun y hy => (f y hy).ext x.ext (fun k hk q => by
    obtain ⟨f', o, e1, e2, _, ⟨es, n, e4⟩, _⟩ := f y hy
    rw [e1] at hk; cases hk
    rcases q.2.2.2 with q | ⟨o', us, e', hd'⟩
    · exact absurd (Heap.lt_size e2) (Nat.not_lt.mpr q)
    · rw [e2] at e'; cases e'; rw [e4] at hd'; cases hd') (.refl _ _)⟩, a.guards⟩
/-- the ghost heap is not asked -/
theorem Flew.toExt {lo : Nat} {h0 h h' : Heap} {B : Addr → Prop} (x : Flew c σ lo h h') (y : Ext B h0 h) (hl : h0.objs.size ≤ lo) : Ext B h0 h' := y.trans x.ext fun a q => .inr (Nat.le_trans hl q.1)
/-- it bears a traceback -/
noncomputable def FlyT (c : Cx) (σ : Sig) (lo : Nat) (h : Heap) (e : Addr) (ex : Exn) : Prop := Fly c σ lo h e ex ∧ ∃ o vs tb, h.get? e = some o ∧ o.data = .fields vs ∧ vs[1]? = some (.ref tb)

theorem slots_flew {lo : Nat} {h h' : Heap} {l : List Env} (hs : Heap.SlotsOnly (l.filterMap (·.frame)) h h') (hf : ∀ e ∈ l, FrameOk c σ h e) : Flew c σ lo h h' := by
  have key : ∀ b o, h.get? b = some o → b ∈ l.filterMap (·.frame) → o.cls = .type "frame" ∧ c.S.objs.size ≤ b := fun b o e hb => by
    obtain ⟨y, hy, hy'⟩ := List.mem_filterMap.mp hb
    obtain ⟨f, o', e1, e2, e3, _, _, e6, _⟩ := hf y hy
    rw [hy'] at e1; cases e1
    rw [e] at e2; cases e2
    exact ⟨e3, e6⟩
  refine ⟨⟨fun a o _ e => ?_, Nat.le_of_eq hs.1.symm⟩, fun a o hst e => ?_⟩
  · by_cases hm : a ∈ l.filterMap (·.frame)
    · obtain ⟨sl, e'⟩ := hs.2.2 a o e
      exact ⟨_, e', .inr ⟨(key a o e hm).1, sl, rfl⟩⟩
    · exact ⟨o, (hs.2.1 a hm).trans e, .refl _⟩
  · by_cases hm : a ∈ l.filterMap (·.frame)
    · exact absurd (Heap.lt_size hst) (Nat.not_lt.mpr (key a o e hm).2)
    · exact (hs.2.1 a hm).trans e
theorem funFrames {h : Heap} : ∀ {l : List Env}, (∀ e ∈ l, FrameOk c σ h e) → h.FunFrames c.S l
  | [], _ => trivial
  | e :: l, hf => by
    obtain ⟨f, o, e1, e2, e3, ⟨es, n, e4⟩, e5, e6, e7⟩ := hf e (.head _)
    exact ⟨e7, ⟨f, o, e1, Heap.get?_none_of_le e6, e2, fun vs q => by rw [e4] at q; cases q⟩, funFrames fun y hy => hf y (.tail _ hy)⟩
theorem frameOf_ {lo : Nat} {Q : Value → Shared → Prop} (ot : OnTop A env) (a : AOk c N A σ s.heap) {L : Addr} (hf : env.frame = some L) (h : ∀ h', Flew c σ lo s.heap h' → h'.objs.size = s.heap.objs.size → (∀ b o, s.heap.get? b = some o → o.cls ≠ .type "frame" → h'.get? b = some o) → Q (.ref L) { s with heap := h' }) : wpAny M A (PySem.frameOf env) Q E s := by
  obtain ⟨e, l, e1, e2⟩ := ot
  obtain ⟨l', e1', f⟩ := a.frames
  rw [e1] at e1'; cases e1'
  unfold PySem.frameOf
  refine wpAny_bind (wpAny_frameEnvs e1 ?_)
  have hdw : ((e :: l).dropWhile fun x => x.frame != env.frame) = e :: l := by rw [List.dropWhile_cons_of_neg]; rw [e2]; simp
  rw [hdw]
  unfold frameObject
  refine wpAny_bind (wpAny_bind (wpAny_readyFrames_fun (funFrames f) fun h₁ hs₁ => wpAny_pure ?_))
  rw [e2, hf]
  refine wpAny_pure (h h₁ (slots_flew hs₁ f) hs₁.1 fun b o hb hc => ?_)
  by_cases hm : b ∈ (e :: l).filterMap (·.frame)
  · obtain ⟨y, hy, hy'⟩ := List.mem_filterMap.mp hm
    obtain ⟨f', o', q1, q2, q3, _⟩ := f y hy
    rw [hy'] at q1; cases q1
    rw [hb] at q2; cases q2
    exact absurd q3 hc
  · exact (hs₁.2.1 b hm).trans hb

theorem set_flew {lo : Nat} {h : Heap} {b : Addr} {o : Obj} {us : Array Value} (f : Array Value → Array Value) (e : h.get? b = some o) (hd : o.data = .fields us) (h1 : lo ≤ b) (h2 : c.S.objs.size ≤ b) (h3 : σ b = none) :
    Flew c σ lo h (h.update b (Obj.mapFields f)) ∧ (h.update b (Obj.mapFields f)).get? b = some (o.mapFields f) := by
  have hs : Heap.SameBut b h (h.update b (Obj.mapFields f)) := .update ..
  refine ⟨⟨.same hs (.inl ⟨h1, h2, h3, .inr ⟨o, us, e, hd⟩⟩), fun a o' hst ho => (hs.2 a (oldS h2 hst)).trans ho⟩, Heap.get?_update_self _ e (Obj.isFreed_of_fields (Obj.data_mapFields hd f))⟩

theorem Fly.there {lo : Nat} {h : Heap} {e : Addr} {ex : Exn} (F : Fly c σ lo h e ex) : ∃ dx vs, h.get? e = some ⟨.ref ex.C, some dx, .fields vs, #[]⟩ ∧ 6 ≤ vs.size := let ⟨_, _, _, dx, vs, d, e', _⟩ := F; ⟨dx, vs, d, e'⟩
/-- the flight's mark -/
theorem setFlight_ {lo : Nat} {e : Addr} {ex : Exn} {fr : Option Addr} {Q : Unit → Shared → Prop} (F : Fly c σ lo s.heap e ex)
    (h : ∀ h', Flew c σ lo s.heap h' → Fly c σ lo h' e ex → (FlyT c σ lo s.heap e ex → FlyT c σ lo h' e ex) → Q () { s with heap := h' }) : wpAny M A (setFlight (.ref e) fr) Q E s := by
  have F0 := F
  obtain ⟨f1, f2, f3, dx, vs, he, hv, f4, f5, f6, f7, f8, f9⟩ := F
  unfold setFlight
  rcases f9 with h1 | ⟨tb, ot, us, h1, g1, g2, g3, g4, g5, g6, g7, g8, g9⟩
  · refine wpAny_bind (wpAny_field he rfl h1 ?_)
    rw [if_neg (by decide)]
    exact wpAny_pure (h s.heap .refl F0 id)
  · refine wpAny_bind (wpAny_field he rfl h1 ?_)
    rw [if_pos (show (Value.ref tb != Value.none) = true from by simp)]
    refine wpAny_setField g6 g8 (by omega) ?_
    obtain ⟨w1, w2⟩ := set_flew (lo := lo) (σ := σ) (c := c) (·.setIfInBounds 3 (fr.elim .none fun f => rawInt f)) g6 g8 g1 g2 g3
    have hs : Heap.SameBut tb s.heap (s.heap.update tb (Obj.mapFields (·.setIfInBounds 3 (fr.elim .none fun f => rawInt f)))) := .update ..
    have he' := (hs.2 e g4.symm).trans he
    have F1 : Fly c σ lo (s.heap.update tb (Obj.mapFields (·.setIfInBounds 3 (fr.elim .none fun f => rawInt f)))) e ex := by
      refine ⟨f1, f2, f3, dx, vs, he', hv, f4, f5, f6, f7, ?_, .inr ⟨tb, _, _, h1, g1, g2, g3, g4, g5, w2, (Obj.cls_mapFields ..).trans g7, Obj.data_mapFields g8 _, by simpa using g9⟩⟩
      obtain ⟨es, n, q1, q2⟩ := f8
      exact ⟨es, n, (hs.2 dx g5.symm).trans q1, EsR.mono (fun a xs t => IsTup.ext FB.noTup w1.ext t) _ _ q2⟩
    exact h _ w1 F1 fun _ => ⟨F1, _, vs, tb, he', rfl, h1⟩
theorem field1_none {lo : Nat} {e : Addr} {ex : Exn} {Q : Value → Shared → Prop} (F : FlyT c σ lo s.heap e ex) (h : ∀ tb, Q (.ref tb) s) : wpAny M A (field (.ref e) 1) Q E s := by
  obtain ⟨_, o, vs, tb, h1, h2, h3⟩ := F
  exact wpAny_field h1 h2 h3 (h tb)
/-- it comes back out of an own activation -/
theorem cameBack_ {lo : Nat} {e : Addr} {ex : Exn} {EE : Value → Shared → Prop} (F : FlyT c σ lo s.heap e ex) (h : ∀ h', Flew c σ lo s.heap h' → FlyT c σ lo h' e ex → EE (.ref e) { s with heap := h' }) : cameBackBy M A env EE (.ref e) s := by
  unfold cameBackBy
  refine wpAny_bind (field1_none F fun tb => ?_)
  rw [if_neg (show ¬ ((Value.ref tb == Value.none) = true) from Bool.false_ne_true)]
  exact setFlight_ F.1 fun h' x F' t => h h' x (t F)
theorem fresh_flew {lo : Nat} {h : Heap} (o : Obj) (hl : lo ≤ h.objs.size) : Flew c σ lo h (h.push o) := ⟨.push _ _, fun _ _ _ e => Heap.get?_push_of_some _ e⟩
theorem Flew.mono {lo lo' : Nat} {h h' : Heap} (x : Flew c σ lo h h') (hl : lo' ≤ lo) : Flew c σ lo' h h' := ⟨x.ext.mono (FB.mono hl), x.static⟩
/-- the frame is noted -/
theorem Fly.nf {lo : Nat} {h h' : Heap} {e : Addr} {ex : Exn} (F : Fly c σ lo h e ex) (k : ∀ b o, h.get? b = some o → o.cls ≠ .type "frame" → h'.get? b = some o) : Fly c σ lo h' e ex := by
  obtain ⟨f1, f2, f3, dx, vs, he, hv, f4, f5, f6, f7, ⟨es, n, q1, q2⟩, f9⟩ := F
  have kt : ∀ a xs, IsTup h a xs → IsTup h' a xs := fun a xs ⟨o, e, hc, r⟩ => ⟨o, k a o e (by rw [hc]; decide), hc, r⟩
  refine ⟨f1, f2, f3, dx, vs, k _ _ he (by simp), hv, f4, f5, f6, f7, ⟨es, n, k _ _ q1 (show Value.type "dict" ≠ _ by decide), EsR.mono kt _ _ q2⟩, f9.imp id fun ⟨tb, ot, us, h1, g1, g2, g3, g4, g5, g6, g7, r⟩ => ⟨tb, ot, us, h1, g1, g2, g3, g4, g5, k _ _ g6 (by rw [g7]; decide), g7, r⟩⟩
theorem noteFrame_ {lo : Nat} {e : Addr} {ex : Exn} {L : Addr} {Q : Unit → Shared → Prop} (ot : OnTop A env) (a : AOk c N A σ s.heap) (R : Rel c σ s.heap) (hf : env.frame = some L) (F : Fly c σ lo s.heap e ex)
    (h : ∀ h', Flew c σ lo s.heap h' → FlyT c σ lo h' e ex → Q () { s with heap := h' }) : wpAny M A (noteFrame (.ref e) env) Q E s := by
  have tail : ∀ {h1 : Heap} (head : Value) (b : Bool), Flew c σ lo s.heap h1 → Fly c σ lo h1 e ex →
      wpAny M A (do setField (.ref e) 1 (← EntryCells.newEntry head (← PySem.frameOf env) .none (rawInt L) .none (← entryPlaceOf L b))) Q E { s with heap := h1 } := by
    intro h1 head b x1 F1
    have a1 := x1.ok a
    refine wpAny_bind (frameOf_ (s := { s with heap := h1 }) (lo := lo) ot a1 hf fun h2 x2 hs2 k2 => ?_)
    refine wpAny_bind (wpAny_entryPlaceOf fun pl hpl => ?_)
    unfold EntryCells.newEntry newFields
    refine wpAny_bind (wpAny_newObj_type ?_ (hpl.sizeOk5 _ _ _ _ _))
    have R2 := (x1.trans x2).rel R
    have F2 := F1.nf k2
    obtain ⟨f1, f2, f3, dx, vs, he, hv, f4, f5, f6, f7, ⟨es, n, q1, q2⟩, f9⟩ := F2
    have hlo : lo ≤ h2.objs.size := Nat.le_trans f1 (Nat.le_of_lt (Heap.lt_size he))
    have hS : c.S.objs.size ≤ h2.objs.size := R2.size
    generalize hT : ({ cls := .type "traceback", dict := none, data := .fields ([head, Value.ref L, .none, rawInt L, .none] ++ (if pl.isEmpty then List.replicate 6 Value.none else pl)).toArray } : Obj) = T
    have hTc : T.cls = .type "traceback" := by rw [← hT]
    have hTd : T.data = .fields ([head, Value.ref L, .none, rawInt L, .none] ++ (if pl.isEmpty then List.replicate 6 Value.none else pl)).toArray := by rw [← hT]
    have hTf : T.isFreed = false := by rw [← hT]; rfl
    have x3 : Flew c σ lo h2 (h2.push T) := fresh_flew T hlo
    have he3 := Heap.get?_push_of_some T he
    have hte : h2.objs.size ≠ e := Nat.ne_of_gt (Heap.lt_size he)
    have htd : h2.objs.size ≠ dx := Nat.ne_of_gt (Heap.lt_size q1)
    refine wpAny_setField he3 rfl (by omega) ?_
    obtain ⟨w1, w2⟩ := set_flew (lo := lo) (σ := σ) (c := c) (·.setIfInBounds 1 (Value.ref h2.objs.size)) he3 rfl f1 f2 f3
    have hs : Heap.SameBut e (h2.push T) ((h2.push T).update e (Obj.mapFields (·.setIfInBounds 1 (Value.ref h2.objs.size)))) := .update ..
    have xx : Flew c σ lo s.heap ((h2.push T).update e (Obj.mapFields (·.setIfInBounds 1 (Value.ref h2.objs.size)))) := ((x1.trans x2).trans x3).trans w1
    have hv1 : (vs.setIfInBounds 1 (Value.ref h2.objs.size))[1]? = some (Value.ref h2.objs.size) := by rw [Array.getElem?_setIfInBounds_self_of_lt (by omega)]
    refine h _ xx ⟨⟨f1, f2, f3, dx, vs.setIfInBounds 1 (Value.ref h2.objs.size), w2, by simpa using hv, f4, f5, f6, f7, ⟨es, n, (hs.2 dx f7).trans (Heap.get?_push_of_some _ q1), ?_⟩, .inr ⟨h2.objs.size, T, _, hv1, hlo, hS, R2.fresh, hte, htd, (hs.2 _ hte).trans (Heap.get?_push_size _ hTf), hTc, hTd, ?_⟩⟩, _, _, _, w2, rfl, hv1⟩
    · exact EsR.mono (fun a xs t => IsTup.ext FB.noTup (x3.trans w1).ext t) _ _ q2
    · simp only [List.size_toArray, List.length_append, List.length_cons, List.length_nil]; omega
  unfold noteFrame
  simp only [hf]
  have F0 := F
  obtain ⟨f1, f2, f3, dx, vs, he, hv, f4, f5, f6, f7, f8, f9⟩ := F
  rcases f9 with h1 | ⟨tb, ot', us, h1, g1, g2, g3, g4, g5, g6, g7, g8, g9⟩
  · refine wpAny_bind (wpAny_field he rfl h1 ?_)
    rw [if_neg (by decide)]
    exact tail Value.none _ .refl F0
  · refine wpAny_bind (wpAny_field he rfl h1 ?_)
    rw [if_pos (show (Value.ref tb != Value.none) = true from by simp)]
    obtain ⟨z, hz⟩ : ∃ z, us[3]? = some z := ⟨us[3], Array.getElem?_eq_getElem (by omega)⟩
    refine wpAny_bind (wpAny_field g6 g8 hz ?_)
    by_cases hq : (z == rawInt L) = true
    · rw [if_pos hq]
      exact wpAny_pure (h s.heap .refl ⟨F0, _, vs, tb, he, rfl, h1⟩)
    · rw [if_neg hq]
      refine wpAny_bind (wpAny_setField g6 g8 (by omega) ?_)
      obtain ⟨w1, w2⟩ := set_flew (lo := lo) (σ := σ) (c := c) (·.setIfInBounds 3 Value.none) g6 g8 g1 g2 g3
      have hs : Heap.SameBut tb s.heap (s.heap.update tb (Obj.mapFields (·.setIfInBounds 3 Value.none))) := .update ..
      have F1 : Fly c σ lo (s.heap.update tb (Obj.mapFields (·.setIfInBounds 3 Value.none))) e ex := by
        refine ⟨f1, f2, f3, dx, vs, (hs.2 e g4.symm).trans he, hv, f4, f5, f6, f7, ?_, .inr ⟨tb, _, _, h1, g1, g2, g3, g4, g5, w2, (Obj.cls_mapFields ..).trans g7, Obj.data_mapFields g8 _, by simpa using g9⟩⟩
        obtain ⟨es, n, q1, q2⟩ := f8
        exact ⟨es, n, (hs.2 dx g5.symm).trans q1, EsR.mono (fun a xs t => IsTup.ext FB.noTup w1.ext t) _ _ q2⟩
      exact tail (Value.ref tb) _ w1 F1
theorem leaving_ {lo : Nat} {e : Addr} {ex : Exn} {L : Addr} {Q : Unit → Shared → Prop} (ot : OnTop A env) (a : AOk c N A σ s.heap) (R : Rel c σ s.heap) (hf : env.frame = some L) (F : Fly c σ lo s.heap e ex)
    (h : ∀ h', Flew c σ lo s.heap h' → Fly c σ lo h' e ex → Q () { s with heap := h' }) : wpAny M A (leaving env (.ref e)) Q E s := by
  unfold leaving
  exact wpAny_bind (noteFrame_ ot a R hf F fun h1 x1 F1 => setFlight_ (s := { s with heap := h1 }) F1.1 fun h2 x2 F2 _ => h h2 (x1.trans x2) F2)
end
end Mine

-- part P13
namespace Mine

inductive Binds : List (Str × V) → Rho → Rho → Prop
  | nil {ρ} : Binds [] ρ ρ
  | cons {x v l ρ ρ1 ρ2} : Put x (some v) ρ ρ1 → Binds l ρ1 ρ2 → Binds ((x, v) :: l) ρ ρ2

section
variable {c : Cx} {N : Lv} {env : Env} {ρ : Rho} {σ : Sig} {A : Around} {M : Model} {E : Value → Shared → Prop} {s : Shared}
theorem bind_loop (f : Str × Value → PUnit → Sem (ForInStep PUnit)) (hf : ∀ n v u, f (n, v) u = (do storeName env n v; pure (.yield ⟨⟩))) :
    ∀ (xs : List Str) (vs : List V) (ys : List Value) (ρ ρ' : Rho) (s : Shared) (Q : PUnit → Shared → Prop), VRs s.heap vs ys → Binds (xs.zip vs) ρ ρ' → Rel c σ s.heap → EnvR c σ env ρ s.heap →
      (∀ h' tk, Rel c σ h' → EnvR c σ env ρ' h' → Ext (mine env) s.heap h' → (∀ o, s.heap.get? env.locals = some o → ∃ o', h'.get? env.locals = some o' ∧ o'.cls = o.cls) → Q ⟨⟩ (at_ s h' tk)) → wpAny M A (forIn (xs.zip ys) ⟨⟩ f) Q E s
  | [], vs, ys, ρ, ρ', s, Q, r, b, R, Ev, h => by
    simp only [List.zip_nil_left] at b ⊢
    cases b
    rw [List.forIn_nil]
    exact wpAny_pure (h s.heap (tks s) R Ev (.refl _) fun o e => ⟨o, e, rfl⟩)
  | x :: xs, [], ys, ρ, ρ', s, Q, r, b, R, Ev, h => by
    simp only [VRs] at r; subst r
    simp only [List.zip_nil_right] at b ⊢
    cases b
    rw [List.forIn_nil]
    exact wpAny_pure (h s.heap (tks s) R Ev (.refl _) fun o e => ⟨o, e, rfl⟩)
  | x :: xs, v :: vs, ys, ρ, ρ', s, Q, r, b, R, Ev, h => by
    simp only [VRs] at r
    obtain ⟨y, ys, rfl, r1, r2⟩ := r
    simp only [List.zip_cons_cons] at b ⊢
    cases b with
    | cons pt b =>
      rw [List.forIn_cons, hf]
      refine wpAny_bind (wpAny_bind (store_ R Ev pt r1 fun h1 tk1 R1 E1 x1 k1 => wpAny_pure ?_))
      refine bind_loop f hf xs vs ys _ _ (at_ s h1 tk1) Q (VRs.ext Ev.mine_noTup x1 r2) b R1 E1 fun h2 tk2 R2 E2 x2 k2 => h h2 tk2 R2 E2 (x1.trans x2 fun a q => .inl q) fun o e => ?_
      obtain ⟨o1, e1, c1⟩ := k1 o e
      obtain ⟨o2, e2, c2⟩ := k2 o1 e1
      exact ⟨o2, e2, c2.trans c1⟩

theorem pushCells_size : ∀ (names : List (Str × NameKind)) (h : Heap), h.objs.size ≤ (pushCells h names).objs.size
  | [], h => Nat.le_refl _
  | (_, k) :: r, h => by
    unfold pushCells
    split
    · exact Nat.le_trans (by rw [Heap.size_push]; exact Nat.le_succ _) (pushCells_size r _)
    · exact pushCells_size r h
theorem enter_ {scope : Scope} {xs : List Str} {vs : List V} {ys : List Value} {qual : Str} {func : Option Addr} {code : Value} {ρ0 ρ1 : Rho} {Q : Env → Shared → Prop} (R : Rel c σ s.heap) (r : VRs s.heap vs ys) (hk : scope.kind = .function)
    (hkeys : ∀ x ∈ ρ0.map (·.1), scope.names.lookup x = some .local ∨ scope.names.lookup x = some .cell) (hnd : (ρ0.map (·.1)).Nodup) (hnone : ∀ p ∈ ρ0, p.2 = none) (hb : Binds (xs.zip vs) ρ0 ρ1)
    (h : ∀ env h' tk, env = newEnv scope s.heap.objs.size mainGlobals (cellsFrom (s.heap.objs.size + 1) scope.names []) qual func code none builtinsNs → Rel c σ h' → EnvR c σ env ρ1 h' → Ext (dom σ) s.heap h' → (∃ o es n, h'.get? s.heap.objs.size = some o ∧ o.cls = .type "frame" ∧ o.data = .dict es n) → Q env (at_ s h' tk)) :
    wpAny M A (newFunctionEnv scope mainGlobals [] (xs.zip ys) qual func code none builtinsNs) Q E s := by
  simp only [newFunctionEnv, Option.isSome_none, Bool.false_eq_true, if_false]
  refine wpAny_bind (wpAny_alloc ?_)
  refine wpAny_bind (wpAny_layCells _ (fun name kind cells => by cases hkc : kind == NameKind.cell <;> simp [hkc]) _ _ _ _ ?_)
  have ok := cellsFrom_ok scope.names (s.heap.push { cls := .type "frame", data := .dict #[] }) (s.heap.objs.size + 1) [] ⟨fun _ _ hm => (nomatch hm), List.Pairwise.nil⟩ (by rw [Heap.size_push]; exact Nat.le_refl _)
  rw [Heap.size_push] at ok
  rw [show ({ s with heap := s.heap.push { cls := .type "frame", data := .dict #[] } } : Shared).heap.objs.size = s.heap.objs.size + 1 from Heap.size_push ..]
  have keep : ∀ b o, s.heap.get? b = some o → (pushCells (s.heap.push { cls := .type "frame", data := .dict #[] }) scope.names).get? b = some o := fun b o e => pushCells_keeps _ _ b o (Heap.get?_push_of_some _ e)
  have hsz : s.heap.objs.size + 1 ≤ (pushCells (s.heap.push { cls := .type "frame", data := .dict #[] }) scope.names).objs.size := by
    have := pushCells_size scope.names (s.heap.push { cls := .type "frame", data := .dict #[] })
    rw [Heap.size_push] at this; exact this
  have hL : (pushCells (s.heap.push { cls := .type "frame", data := .dict #[] }) scope.names).get? s.heap.objs.size = some { cls := .type "frame", data := .dict #[] } := pushCells_keeps _ _ _ _ (Heap.get?_push_size _ rfl)
  generalize hH : pushCells (s.heap.push { cls := .type "frame", data := .dict #[] }) scope.names = H at *
  have R1 : Rel c σ H := R.grow keep (Nat.le_trans (Nat.le_succ _) hsz)
  have X1 : Ext (dom σ) s.heap H := ⟨fun a o _ e => ⟨o, keep a o e, .refl _⟩, Nat.le_trans (Nat.le_succ _) hsz⟩
  have big : ∀ a, s.heap.objs.size ≤ a → σ a = none := fun a ha => by
    cases q : σ a with
    | none => rfl
    | some m => exact absurd (R.lt (a := a) (by rw [q]; simp)) (Nat.not_lt.mpr ha)
  have E1 : EnvR c σ (newEnv scope s.heap.objs.size mainGlobals (cellsFrom (s.heap.objs.size + 1) scope.names []) qual func code none builtinsNs) ρ0 H := by
    refine ⟨hk, rfl, rfl, ⟨R.fresh, R.size⟩, fun x k e => ?_, ok.apart, ⟨fun _ => none, ?_, fun x v hm => ?_⟩, hnd, fun x hx => ?_, .inl rfl, ⟨_, _, rfl, hL, rfl, _, _, rfl⟩⟩
    · have := ok.empty x k (mem_of_lookup e)
      exact ⟨big k (Nat.le_trans (Nat.le_succ _) this.2), Nat.le_trans R.size (Nat.le_trans (Nat.le_succ _) this.2), none, this.1⟩
    · exact ⟨_, #[], 0, hL, rfl, fun e he => by simp at he, fun _ => rfl⟩
    · have := hnone _ hm
      cases this
    · rcases hkeys x hx with q | q
      · exact .inl q
      · exact .inr ⟨q, Option.isSome_iff_exists.mp (cellsFrom_some scope.names (s.heap.objs.size + 1) [] (.inl q))⟩
  refine wpAny_bind (bind_loop (s := { s with heap := H }) (env := newEnv scope s.heap.objs.size mainGlobals (cellsFrom (s.heap.objs.size + 1) scope.names []) qual func code none builtinsNs) _ (fun _ _ _ => rfl) xs vs ys ρ0 ρ1 _ (R.vrs X1 r) hb R1 E1 fun h2 tk2 R2 E2 x2 k2 => wpAny_pure ?_)
  refine h _ h2 tk2 rfl R2 E2 (X1.trans (B' := mine _) x2 fun a q => ?_) ?_
  · rcases q with rfl | ⟨x, e⟩
    · exact .inr (Nat.le_refl _)
    · exact .inr (Nat.le_trans (Nat.le_succ _) (ok.empty x a (mem_of_lookup e)).2)
  · obtain ⟨o', e', c'⟩ := k2 _ hL
    obtain ⟨m, ⟨o2, es, ep, q1, q2, _⟩, _⟩ := E2.vars
    have q1' : h2.get? s.heap.objs.size = some o2 := q1
    have e'' : h2.get? s.heap.objs.size = some o' := e'
    rw [e''] at q1'; cases q1'
    exact ⟨o', es, ep, e', c', q2⟩
end
end Mine

-- part P14
namespace Mine

section
variable {c : Cx} {σ : Sig} {Q : V → Sig → Prop} {X : Exn → Sig → Prop}
noncomputable def outV : GF → V
  | .next => .none
  | .ret v => v
theorem AOk.deeper {n : Nat} {hn : Bool} {A : Around} {h : Heap} {env : Env} (a : AOk c ⟨n + 1, hn⟩ A σ h) (F : FrameOk c σ h env) : AOk c ⟨n, hn⟩ (A.deeper env) σ h := by
  obtain ⟨l, e, f⟩ := a.frames
  refine ⟨?_, ?_, a.han, ⟨env :: l, Around.frames_deeper e, fun y hy => ?_⟩, a.guards⟩
  · have := a.depth
    show A.depth + 1 + n < _
    simp only at this; omega
  · have := a.units
    show A.units + 3 + 16 * n < _
    simp only at this; omega
  · rcases List.mem_cons.mp hy with rfl | hy
    · exact F
    · exact f y hy
/-- a call as a code -/
noncomputable def CodeOp (c : Cx) (N : Lv) (σ : Sig) (f : Value) (args : List V) (Q : V → Sig → Prop) (X : Exn → Sig → Prop) : Prop :=
  ∀ (A : Around) (s : Shared) (R' : Result → Shared → Prop) (ys : List Value), AOk c N A σ s.heap → Rel c σ s.heap → VRs s.heap args ys → Post c σ s VR Q (fun v s' => R' (.ok (.ret v)) s') → XPost c σ s X (fun e s' => R' (.error e) s') → codeAny (model c.prog c.w) A (.call f ⟨ys, []⟩) R' s
theorem CodeOp.call {N : Lv} {f : Value} {args : List V} (g : CodeOp c N σ f args Q X) : CallOp c N σ f args Q X := fun A s QQ EE ys a R r p xp =>
  wpAny_call (g A s (fun r s' => match r with | .ok (.ret v) => QQ v s' | .ok _ => False | .error e => EE e s') ys a R r p xp)
/-- a function of the text -/
theorem K_fn {n : Nat} {hn : Bool} {f : Addr} {fd : FuncData} {body : List Stmt} {params : List Str} {oc : Value} {od : Option Addr} {osl : Array (Option Value)} {ρ0 ρ1 : Rho} {args : List V}
    (hK : c.K.lookup f = some ⟨oc, od, .func fd, osl⟩) (hb : fd.body = .stmts body) (hcl : fd.closure = []) (hg : fd.globals = mainGlobals) (hbl : fd.builtins = builtinsNs) (hcd : codeIn c.K fd.code fd.qualname = true)
    (hk : fd.scope.kind = .function) (hco : fd.scope.isCoroutine = false) (hgen : fd.scope.isGenerator = false) (hbind : ∀ ys : List Value, ys.length = args.length → bindArgs fd ⟨ys, []⟩ = pure (params.zip ys))
    (hkeys : ∀ x ∈ ρ0.map (·.1), fd.scope.names.lookup x = some .local ∨ fd.scope.names.lookup x = some .cell) (hnd : (ρ0.map (·.1)).Nodup) (hnone : ∀ p ∈ ρ0, p.2 = none) (hbs : Binds (params.zip args) ρ0 ρ1)
    (g : ∀ L, SsG c ⟨n, hn⟩ (callEnvC fd L f) ρ1 body σ (fun fl ρ' σ' => ∃ σ'', Sub σ'' σ' ∧ Q (outV fl) σ'') (fun ex ρ' σ' => ∃ σ'', Sub σ'' σ' ∧ X ex σ'')) : CodeOp c ⟨n + 1, hn⟩ σ (.ref f) args Q X := fun A s R' ys a R r p xp => by
  refine (codeAny_call_function (o := ⟨oc, od, .func fd, osl⟩) (fd := fd) (body := body) (by have := a.depth; omega) (R.static _ _ (c.KIn _ _ hK)) rfl hco hgen hb (codeRec_of (c.KIn.keeps R.static) hcd) ?_)
  rw [hbind ys r.length, hcl, hg, hbl]
  refine wpAny_pure (enter_ R r hk hkeys hnd hnone hbs fun env h1 tk1 he R1 E1 x1 hF => ⟨c.nol.keeps R1.static, ?_⟩)
  have he' : env = callEnvC fd s.heap.objs.size f := by rw [he]; unfold callEnvC; rw [hg, hbl]
  have hfr : env.frame = some s.heap.objs.size := by rw [he]; rfl
  have hloc : env.locals = s.heap.objs.size := by rw [he]; rfl
  have F : FrameOk c σ h1 env := by
    obtain ⟨o, es, m, q1, q2, q3⟩ := hF
    exact ⟨_, o, hfr, q1, q2, ⟨es, m, q3⟩, R.fresh, R.size, by rw [E1.kind]; decide⟩
  have a1 : AOk c ⟨n, hn⟩ (A.deeper env) σ h1 := (a.ext x1 (.refl _ _)).deeper F
  have ot : OnTop (A.deeper env) env := let ⟨l, e, _⟩ := a.frames; ⟨env, l, Around.frames_deeper e, rfl⟩
  have old : ∀ a, both σ env a → dom σ a ∨ s.heap.objs.size ≤ a := fun a q => by
    rcases q with q | q | ⟨x, q⟩
    · exact .inl q
    · rw [q, hloc]; exact .inr (Nat.le_refl _)
    · refine .inr ?_
      have ok := cellsFrom_ok fd.scope.names (s.heap.push { cls := .type "frame", data := .dict #[] }) (s.heap.objs.size + 1) [] ⟨fun _ _ hm => (nomatch hm), List.Pairwise.nil⟩ (by rw [Heap.size_push]; exact Nat.le_refl _)
      rw [Heap.size_push] at ok
      rw [he] at q
      exact Nat.le_trans (Nat.le_succ _) (ok.empty x a (mem_of_lookup q)).2
  refine codeAny_func ?_
  have gg := g s.heap.objs.size
  rw [← he'] at gg
  refine gg (A.deeper env) (at_ s h1 tk1) _ _ ot a1 R1 E1 (fun fl flv ρ' σ' h2 tk2 ⟨σ'', hs, q⟩ rf R2 E2 x2 gr2 => ?_) (fun e ex ρ' σ' h2 tk2 ⟨σ'', hs, q⟩ F2 R2 E2 x2 gr2 => ?_)
  · have X2 : Ext (dom σ) s.heap h2 := x1.trans x2 old
    have G2 : Grown σ s.heap σ'' := ((Grown.refl σ s.heap).trans gr2 x1.size).sub hs
    cases fl with
    | next => simp only [FR] at rf; subst rf; exact p .none .none σ'' h2 tk2 q (by simp only [VR]) (R2.forget hs) X2 G2
    | ret v => simp only [FR] at rf; obtain ⟨y, rfl, rf⟩ := rf; exact p v y σ'' h2 tk2 q rf (R2.forget hs) X2 G2
  · have a2 : AOk c ⟨n, hn⟩ (A.deeper env) σ' h2 := a1.ext2 E1 x2 gr2 E2
    refine leaving_ (s := at_ (at_ s h1 tk1) h2 tk2) ot a2 R2 hfr F2 fun h3 x3 F3 => ?_
    have X3 : Ext (dom σ) s.heap h3 := (x1.trans x2 old).trans x3.ext fun a q => .inr (Nat.le_trans x1.size q.1)
    have G3 : Grown σ s.heap σ'' := ((Grown.refl σ s.heap).trans gr2 x1.size).sub hs
    have F4 : Fly c σ'' s.heap.objs.size h3 e ex := by
      have F3' := F3.lo x1.size
      obtain ⟨f1, f2, f3, dx, vs, d, e', f4, f5, f6, f7, f8, f9⟩ := F3'
      have sn : ∀ {a}, σ' a = none → σ'' a = none := fun {a} h0 => by
        cases q0 : σ'' a with
        | none => rfl
        | some m => rw [hs a m q0] at h0; cases h0
      exact ⟨f1, f2, sn f3, dx, vs, d, e', f4, f5, sn f6, f7, f8, f9.imp id fun ⟨tb, ot, us, h1, g1, g2, g3, r⟩ => ⟨tb, ot, us, h1, g1, g2, sn g3, r⟩⟩
    exact xp e ex σ'' h3 tk2 q F4 ((x3.rel R2).forget hs) X3 G3
end
end Mine

-- part P15
namespace Mine

section
variable {c : Cx} {N : Lv} {env : Env} {ρ : Rho} {σ : Sig} {Q : V → Sig → Prop} {X : Exn → Sig → Prop} {SQ : GF → Rho → Sig → Prop} {SX : Exn → Rho → Sig → Prop}

theorem EsR.norefs {h : Heap} : ∀ {l : List (Str × V)} {es : List DictEntry}, EsR h l es → es.any (·.refKey) = false
  | [], es, r => by simp only [EsR] at r; subst r; rfl
  | (k, v) :: l, es, r => by
    simp only [EsR] at r
    obtain ⟨hs, t, x, r', rfl, r1, r2⟩ := r
    rw [List.any_cons, EsR.norefs r2, Bool.or_false]; rfl
theorem EsR.find {h : Heap} (name : Str) : ∀ {l : List (Str × V)} {es : List DictEntry}, EsR h l es → match assoc l name with
    | some v => ∃ e, es.find? (·.key.isStr name) = some e ∧ VR h v e.val
    | none => es.find? (·.key.isStr name) = none
  | [], es, r => by simp only [EsR] at r; subst r; rfl
  | (k, v) :: l, es, r => by
    simp only [EsR] at r
    obtain ⟨hs, t, x, r', rfl, r1, r2⟩ := r
    have ih := EsR.find name r2
    simp only [assoc, List.find?_cons] at ih ⊢
    have hk : (Value.str k t).isStr name = decide (k = name) := by
      show (k == name) = _
      rfl
    by_cases e : k = name
    · rw [if_pos e]; simp only [hk, decide_eq_true e]; exact ⟨_, rfl, r1⟩
    · rw [if_neg e]; simp only [hk, decide_eq_false e]; exact ih
theorem EsR.getL {h : Heap} {name : Str} {l : List (Str × V)} {es : List DictEntry} (r : EsR h l es) : match assoc l name with
    | some v => ∃ x, PySem.W.getL name es = some (some x) ∧ VR h v x
    | none => PySem.W.getL name es = some none := by
  have q := r.find name
  unfold PySem.W.getL
  cases e : assoc l name with
  | some v => rw [e] at q; obtain ⟨y, q1, q2⟩ := q; rw [q1]; exact ⟨_, rfl, q2⟩
  | none => rw [e] at q; simp only [q, r.norefs]; rfl
theorem EsR.isSome {h : Heap} {name : Str} {l : List (Str × V)} {es : List DictEntry} (r : EsR h l es) : (PySem.W.getL name es).isSome = true := by
  have q := r.getL (name := name)
  cases e : assoc l name with
  | some v => rw [e] at q; obtain ⟨y, q1, q2⟩ := q; rw [q1]; rfl
  | none => rw [e] at q; rw [q]; rfl
theorem EsR.put {h : Heap} {name : Str} {v : V} {x : Value} {hsh : Int} {tk : Tok} (rv : VR h v x) : ∀ {l : List (Str × V)} {es : List DictEntry}, EsR h l es → EsR h (putA l name v) (putL name hsh (.str name tk) x es)
  | [], es, r => by simp only [EsR] at r; subst r; simp only [putA, putL, EsR]; exact ⟨_, _, _, _, rfl, rv, rfl⟩
  | (k, u) :: l, es, r => by
    simp only [EsR] at r
    obtain ⟨hs, t, y, r', rfl, r1, r2⟩ := r
    have hk : (Value.str k t).isStr name = decide (k = name) := by
      show (k == name) = _
      rfl
    simp only [putA, putL, hk]
    by_cases e : k = name
    · subst e
      simp only [if_pos, decide_true, EsR]
      exact ⟨_, _, _, _, rfl, rv, r2⟩
    · simp only [if_neg e, decide_eq_false e, EsR]
      exact ⟨_, _, _, _, rfl, r1, EsR.put rv r2⟩
theorem EsR.length {h : Heap} : ∀ {l : List (Str × V)} {es : List DictEntry}, EsR h l es → es.length = l.length
  | [], es, r => by simp only [EsR] at r; subst r; rfl
  | (k, v) :: l, es, r => by
    simp only [EsR] at r
    obtain ⟨hs, t, x, r', rfl, r1, r2⟩ := r
    simp [EsR.length r2]

/-- an object of an own class, and what it holds -/
noncomputable def ObjR (σ : Sig) (a C : Addr) (l : List (Str × V)) : Prop := ∃ dx, σ a = some (.inst C dx) ∧ σ dx = some (.ns l)
theorem ObjR.real {a C : Addr} {l : List (Str × V)} {h : Heap} (o : ObjR σ a C l) (R : Rel c σ h) : ∃ dx es n, dx ≠ a ∧ σ dx = some (.ns l) ∧ EsR h l es ∧ h.get? dx = some (W.dictOf es n) ∧ InstAt h a (instObj C dx) C (some (W.dictOf es n)) := by
  obtain ⟨dx, e1, e2⟩ := o
  obtain ⟨es, n, q1, q2⟩ := (R.obj dx _ e2).2
  refine ⟨dx, es, n, fun q => ?_, e2, q2, q1, ⟨(R.obj a _ e1).2, rfl, rfl, q1⟩⟩
  subst q; rw [e1] at e2; cases e2

noncomputable def handedV : V → Bool
  | .raw v => handedIn v
  | _ => true
theorem handedV_of {h : Heap} {v : V} {x : Value} (r : VR h v x) (e : handedV v = true) : handedIn x = true := by
  cases v with
  | none => simp only [VR] at r; subst r; rfl
  | bool b => simp only [VR] at r; subst r; rfl
  | int i => simp only [VR] at r; obtain ⟨t, rfl⟩ := r; rfl
  | str i => simp only [VR] at r; obtain ⟨_, t, rfl⟩ := r; rfl
  | tup l => simp only [VR] at r; obtain ⟨a, xs, rfl, _⟩ := r; rfl
  | raw v => simp only [VR] at r; subst r; exact e

/-- an attribute -/
noncomputable abbrev GetOp (c : Cx) (N : Lv) (σ : Sig) (a : V) (name : Str) (Q : V → Sig → Prop) (X : Exn → Sig → Prop) : Prop :=
  ∀ (A : Around) (s : Shared) (QQ : Value → Shared → Prop) (EE : Value → Shared → Prop) (x : Value), AOk c N A σ s.heap → Rel c σ s.heap → VR s.heap a x → Post c σ s VR Q QQ → XPost c σ s X EE → wpAny (model c.prog c.w) A (getAttr x name true) QQ EE s
theorem G_attr {o : PySem.Expr} {name : Str} {pos : Pos} (g : EvG c N env ρ o σ (fun v σ1 => GetOp c N σ1 v name Q X) X)
    (he : eval (.Attribute o name pos) env = (do
      let o' ← eval o env
      standAt pos.atName
      let r ← holding [o'] (getAttr o' name true)
      letTemporaryGo o o' r
      pure r) := by with_unfolding_all rfl) : EvG c N env ρ (.Attribute o name pos) σ Q X := fun A s QQ EE a R E p xp =>
  Attribute_any_ (g.run a R E xp fun v x σ1 h1 tk1 g1 r1 a1 R1 E1 x1 gr1 => g1 A _ QQ EE x a1 R1 r1 (p.step x1 gr1) (xp.step x1 gr1)) he
theorem A_own {a C : Addr} {l : List (Str × V)} {name : Str} {v : V} (q : Q v σ) (ho : ObjR σ a C l) (hl : assoc l name = some v) (hv : handedV v = true) (h1 : plainGet c.K C name = true) (h2 : hasDictIn c.K C = true) (h3 : findIn c.K (.ref C) name = some none) :
    GetOp c N σ (.raw (.ref a)) name Q X := fun A s QQ EE x ak R r p xp => by
  simp only [VR] at r; subst r
  obtain ⟨dx, es, n, e1, e2, e3, e4, I⟩ := ho.real R
  have := e3.getL (name := name)
  rw [hl] at this
  obtain ⟨z, hz, rz⟩ := this
  exact get_value (c.KIn.keeps R.static) I (plainGet_of h1).1 (findObj_own h2 h3 rfl hz) (handedV_of rz hv) (p.tok R q rz)

/-- a method of an own class -/
theorem M_own {a C : Addr} {l : List (Str × V)} {name : Str} {f : Addr} (ho : ObjR σ a C l) (hl : assoc l name = none) (h1 : plainGet c.K C name = true) (h2 : findIn c.K (.ref C) name = some (some (.ref f))) (h3 : isFn c.K (.ref f) = true) :
    MethOp c N σ (.raw (.ref a)) name (.ref f) := fun A s EE x pl QQ ak R r q => by
  simp only [VR] at r; subst r
  obtain ⟨dx, es, n, e1, e2, e3, e4, I⟩ := ho.real R
  have := e3.getL (name := name)
  rw [hl] at this
  exact method_fn (c.KIn.keeps R.static) I (plainGet_of h1).1 (plainGet_of h1).2 h2 (beq_iff_eq.mp h3) (by show (lookIn name (W.dictOf es n)).map _ = _; rw [lookIn_dict, this]; rfl) q

theorem putL_length (name : Str) (hsh : Int) (key v : Value) : ∀ es : List DictEntry, (putL name hsh key v es).length ≤ es.length + 1
  | [] => Nat.le_refl _
  | e :: r => by
    have := putL_length name hsh key v r
    simp only [putL]
    split
    · simp
    · simp only [List.length_cons]; omega
/-- an attribute is set -/
noncomputable abbrev SetOp (c : Cx) (N : Lv) (σ : Sig) (a : V) (name : Str) (b : V) (Q : Sig → Prop) (X : Exn → Sig → Prop) : Prop :=
  ∀ (A : Around) (s : Shared) (QQ : Unit → Shared → Prop) (EE : Value → Shared → Prop) (x y : Value), AOk c N A σ s.heap → Rel c σ s.heap → VR s.heap a x → VR s.heap b y → Post c σ s (fun _ (_ : Unit) (_ : Unit) => True) (fun _ => Q) QQ → XPost c σ s X EE → wpAny (model c.prog c.w) A (setAttr x name y) QQ EE s
theorem A_set {a C dx : Addr} {l : List (Str × V)} {name : Str} {v : V} {Q : Sig → Prop} (e1 : σ a = some (.inst C dx)) (e2 : σ dx = some (.ns l)) (q : Q (upd σ dx (.ns (putA l name v)))) (hz : l.length ≤ 900)
    (hs : findIn c.K (.ref C) "__setattr__" = some (some (.builtin "object.__setattr__"))) (hp : plainOver c.K C = true) (ht : takerIn c.K C name = some none) (hh : hasDictIn c.K C = true) : SetOp c N σ (.raw (.ref a)) name v Q X := fun A s QQ EE x y ak R r1 r2 p xp => by
  simp only [VR] at r1; subst r1
  have KX := c.KIn.keeps R.static
  obtain ⟨es, n, q1, q2⟩ := (R.obj dx _ e2).2
  have hx := (R.obj a _ e1).2
  have I : InstAt s.heap a (instObj C dx) C (some (W.dictOf es n)) := ⟨hx, rfl, rfl, q1⟩
  refine set_plain KX I hs (osa_open (s := { s with toks := s.toks + 1 }) KX I hp ht fun b => ?_)
  obtain ⟨cd, hc, hd'⟩ := any_some hh
  refine wpAny_bind (wpAny_pure (wpAny_bind (wpAny_bind (wpAny_loadPart hx (wpAny_bind ((looks_clsIn KX hc) _ _ _ _ (fun _ _ e => e) ?_))))))
  rw [hd']
  refine wpAny_pure (a := some dx) (wpAny_bind (wpAny_pure (wpAny_bind ?_)))
  unfold nsSet
  refine wpAny_bind (wpAny_bind (wpAny_askSetting (wpAny_pure (wpAny_bind (wpAny_mkText (wpAny_bind (wpAny_loadPart q1 ?_)))))))
  have cc : (!es.toArray.any (·.key.isStr name) && es.toArray.any (·.refKey)) = false := by
    rw [← Array.any_toList, ← Array.any_toList]
    show (!es.any (·.key.isStr name) && es.any (·.refKey)) = false
    rw [q2.norefs, Bool.and_false]
  dsimp only
  rw [aRefKeyMayBeTheName_at, cc]
  refine wpAny_updatePart q1 ?_
  have hfr : (W.dictOf es n).isFreed = false := rfl
  have hp2 : ∀ hsh key, (s.heap.update dx (Obj.putName name hsh key y)).get? dx = some (W.dictOf (putL name hsh key y es) (putN name es n)) := fun hsh key => by
    rw [← putName_dict]
    exact Heap.get?_update_self _ q1 (by rw [putName_dict]; rfl)
  refine wpAny_bind (wpAny_lookBehind (hp2 _ _) (pastItsLine_dict ?_) ?_)
  · rw [List.size_toArray, sizeLine_is]
    refine Nat.le_trans (putL_length ..) ?_
    rw [q2.length]; omega
  · refine wpAny_pure ?_
    have fin : ∀ hsh tk (s' : Shared), s' = at_ s (s.heap.update dx (Obj.putName name hsh (.str name tk) y)) (tks s') → QQ () s' := fun hsh tk s' e => by
      rw [e]
      have hsb : Heap.SameBut dx s.heap (s.heap.update dx (Obj.putName name hsh (.str name tk) y)) := .update ..
      have x : Ext (dom σ) s.heap (s.heap.update dx (Obj.putName name hsh (.str name tk) y)) := .same hsb (.inl (by show σ dx ≠ none; rw [e2]; simp))
      exact p () () _ _ _ q trivial (R.change e2 hsb ⟨_, _, hp2 _ _, EsR.mono (fun _ _ t => IsTup.ext R.noTup x t) _ _ (EsR.put r2 q2)⟩) x (.upd (.inl (by rw [e2]; simp)))
    exact fin _ _ _ rfl
end
end Mine

-- part P16
namespace Mine

section
variable {c : Cx} {N : Lv} {env : Env} {ρ : Rho} {σ : Sig} {Q : V → Sig → Prop} {X : Exn → Sig → Prop} {SQ : GF → Rho → Sig → Prop} {SX : Exn → Rho → Sig → Prop}
theorem S_setattr {o : PySem.Expr} {name : Str} {pos' pos : Pos} {e : PySem.Expr} (g : EvG c N env ρ e σ (fun v σ1 => EvG c N env ρ o σ1 (fun a σ2 => SetOp c N σ2 a name v (fun σ3 => SQ .next ρ σ3) (fun ex σ' => SX ex ρ σ')) (fun ex σ' => SX ex ρ σ')) (fun ex σ' => SX ex ρ σ'))
    (hs : swapsWith e (some (.Attribute o name pos')) pos.line env = pure false := by rfl) : StG c N env ρ (.Assign [.Attribute o name pos'] e pos) σ SQ SX := fun A s QQ EE ot a R E p xp =>
  plainObj_wpAny_Assign_Attribute (EvG.runS g a R E xp fun v y σ1 h1 tk1 g1 r1 a1 R1 E1 x1 gr1 => EvG.runS g1 a1 R1 E1 (xp.step x1.both gr1) fun u z σ2 h2 tk2 g2 r2 a2 R2 E2 x2 gr2 =>
    g2 A _ _ EE z y a2 R2 r2 (R1.vr x2 r1) (fun _ _ σ3 h3 tk3 q _ R3 x3 gr3 => ((p.step x1.both gr1).step x2.both gr2) .next .next ρ σ3 h3 tk3 q rfl R3 (E2.ext R2 x3 gr3) x3.both gr3)
      (fun ex e' σ3 h3 tk3 q f R3 x3 gr3 => ((xp.step x1.both gr1).step x2.both gr2) ex e' ρ σ3 h3 tk3 q f R3 (E2.ext R2 x3 gr3) x3.both gr3)) hs

theorem AOk.make {n : Nat} {hn : Bool} {A : Around} {h : Heap} {C : Addr} {rest : List Value} (a : AOk c ⟨n + 1, hn⟩ A σ h) : AOk c ⟨n, hn⟩ (A.under (.builtin "type.__call__" ⟨.ref C :: rest, []⟩)) σ h := by
  refine ⟨?_, ?_, a.han, a.frames, a.guards⟩
  · have := a.depth
    show A.depth + 1 + n < _
    simp only at this; omega
  · have := a.units
    show A.units + 1 + 16 * n < _
    simp only at this; omega
theorem C_cls {n : Nat} {hn : Bool} {C fI : Addr} {args : List V} (hm : makesIn c.K C = true) (hi : findIn c.K (.ref C) "__init__" = some (some (.ref fI))) (hf : isFn c.K (.ref fI) = true)
    (g : ∀ a dx, σ a = none → σ dx = none → a ≠ dx → CodeOp c ⟨n, hn⟩ (upd (upd σ dx (.ns [])) a (.inst C dx)) (.ref fI) (.raw (.ref a) :: args) (fun v σ' => v = .none ∧ Q (.raw (.ref a)) σ') X) : CodeOp c ⟨n + 1, hn⟩ σ (.ref C) args Q X := fun A s R' ys a R r p xp => by
  have KX := c.KIn.keeps R.static
  refine make_core (makes_of (M := model c.prog c.w) KX hm) (looks_findIn KX hi) (fun self => bind_fn KX self (beq_iff_eq.mp hf)) (.inl rfl) ?_
  have hsz : (s.heap.push emptyDict).objs.size = s.heap.objs.size + 1 := Heap.size_push ..
  have x1 : Ext (dom σ) s.heap ((s.heap.push emptyDict).push (instObj C s.heap.objs.size)) := (Ext.push _ _).trans (B' := dom σ) (.push _ _) fun _ q => .inl q
  have R1 : Rel c σ ((s.heap.push emptyDict).push (instObj C s.heap.objs.size)) := (R.push _).push _
  have f1 : σ s.heap.objs.size = none := R.fresh
  have f2 : σ (s.heap.objs.size + 1) = none := by have := (R.push emptyDict).fresh; rwa [hsz] at this
  have hd : ((s.heap.push emptyDict).push (instObj C s.heap.objs.size)).get? s.heap.objs.size = some emptyDict := Heap.get?_push_of_some _ (Heap.get?_push_size _ rfl)
  have ho : ((s.heap.push emptyDict).push (instObj C s.heap.objs.size)).get? (s.heap.objs.size + 1) = some (instObj C s.heap.objs.size) := by
    have := Heap.get?_push_size (o := instObj C s.heap.objs.size) (s.heap.push emptyDict) rfl
    rwa [hsz] at this
  have R2 := R1.add (m := .ns []) R.size ⟨[], 0, hd, rfl⟩
  have R3 := R2.add (m := .inst C s.heap.objs.size) (Nat.le_trans R.size (Nat.le_succ _)) ho
  have gr : Grown σ s.heap (upd (upd σ s.heap.objs.size (.ns [])) (s.heap.objs.size + 1) (.inst C s.heap.objs.size)) := fun b q => by
    by_cases h1 : b = s.heap.objs.size + 1
    · exact .inr (h1 ▸ Nat.le_succ _)
    · rw [upd_ne _ _ h1] at q
      by_cases h2 : b = s.heap.objs.size
      · exact .inr (h2 ▸ Nat.le_refl _)
      · rw [upd_ne _ _ h2] at q; exact .inl q
  refine g (s.heap.objs.size + 1) s.heap.objs.size f2 f1 (Nat.succ_ne_self _) _ (at_ s _ (tks s)) _ (.ref (s.heap.objs.size + 1) :: ys) (a.ext x1 gr).make R3 (.cons (by simp only [VR]) (R.vrs x1 r)) ?_ ?_
  · intro v y σ' h' tk' ⟨e, q⟩ ry R' x gr'
    subst e
    simp only [VR] at ry
    refine ⟨ry, ?_⟩
    exact p _ _ σ' h' tk' q (by simp only [VR]) R' (x1.trans x (dom_back gr)) (gr.trans gr' x1.size)
  · exact fun e ex σ' h' tk' q f R' x gr' => xp e ex σ' h' tk' q (f.lo x1.size) R' (x1.trans x (dom_back gr)) (gr.trans gr' x1.size)
end
end Mine

-- part P17
namespace Mine

theorem runs_size {M : Model} {Γ : Ctx} {p : Pos} {t : Sem Fin} {fs : List Frame} {s s' : Shared} {e : End} (h : Runs M Γ p t fs s e s') : s.heap.objs.size ≤ s'.heap.objs.size := by
  induction h <;> (try simp only [Shared.setGen, Heap.size_push, Heap.size_update] at *) <;> omega
theorem wakes_size {M : Model} {Γ : Ctx} {p : Pos} {g : Nat} {r : Resume} {s s' : Shared} {res : GenResult} (h : Wakes M Γ p g r s res s') : s.heap.objs.size ≤ s'.heap.objs.size := by
  unfold Wakes at h
  split at h
  · exact h.elim
  · split at h
    · obtain ⟨e₁, s₁, hr, _, _, rfl⟩ := h
      have := runs_size hr
      exact this
    · rw [h.2]; exact Nat.le_refl _
    · rw [h.2]; exact Nat.le_refl _
  · obtain ⟨e₁, s₁, hr, _, _, rfl⟩ := h
    have := runs_size hr
    exact this
  · rw [h.2]; exact Nat.le_refl _
  · rw [h.2]; exact Nat.le_refl _
theorem wp_size {α : Type} (M : Model) (Γ : Ctx) (n : Nat) (t : Sem α) : ∀ (Q : α → Pos → Shared → Prop) (E : Value → Pos → Shared → Prop) (p : Pos) (s : Shared), n ≤ s.heap.objs.size → Sem.wp M Γ t Q E p s →
    Sem.wp M Γ t (fun a p' s' => n ≤ s'.heap.objs.size ∧ Q a p' s') (fun e p' s' => n ≤ s'.heap.objs.size ∧ E e p' s') p s := by
  induction t with
  | pure a => exact fun Q E p s hn h => ⟨hn, h⟩
  | raise e => exact fun Q E p s hn h => ⟨hn, h⟩
  | unsupported _ => exact fun Q E p s _ h => h
  | finish _ => exact fun Q E p s _ h => h
  | rule _ k ih => exact fun Q E p s hn h => ih () Q E p s hn h
  | «at» p' k ih => exact fun Q E p s hn h => ih () Q E p' s hn h
  | load a _ k ih => exact fun Q E p s hn ⟨o, ho, h⟩ => ⟨o, ho, ih o Q E p s hn h⟩
  | update a _ f k ih => exact fun Q E p s hn h => ⟨h.1, ih () Q E p _ (by show n ≤ (s.heap.update a f).objs.size; rw [Heap.size_update]; exact hn) h.2⟩
  | loadIfAlive a k ih => exact fun Q E p s hn h => ih _ Q E p s hn h
  | point _ k ih => exact fun Q E p s hn h => ih () Q E p s hn h
  | register _ _ => exact fun Q E p s _ h => h
  | alloc o k ih => exact fun Q E p s hn h => ih _ Q E p _ (by show n ≤ (s.heap.push o).objs.size; rw [Heap.size_push]; exact Nat.le_succ_of_le hn) h
  | fresh k ih => exact fun Q E p s hn h => ih _ Q E p _ hn h
  | ask k ih => exact fun Q E p s hn h => ih _ Q E p s hn h
  | choose src m k ih => exact fun Q E p s hn h => ⟨h.1, ih _ Q E p _ hn h.2⟩
  | os q _ k ih => exact fun Q E p s hn h => ih _ Q E p _ hn h
  | call c hd _ _ k ih => exact fun Q E p s hn ⟨r, s', hr, h⟩ => ⟨r, s', hr, ih r Q E p s' (Nat.le_trans hn (runs_size hr)) h⟩
  | handled own k ih => exact fun Q E p s hn h => ih _ Q E p s hn h
  | genState g k ih => exact fun Q E p s hn ⟨st, hs, h⟩ => ⟨st, hs, ih _ Q E p s hn h⟩
  | newGen c k ih => exact fun Q E p s hn h => ih _ Q E p _ hn h
  | resume g r _ k ih => exact fun Q E p s hn ⟨res, s', hw, h⟩ => ⟨res, s', hw, ih res Q E p s' (Nat.le_trans hn (wakes_size hw)) h⟩
  | yield _ _ _ _ => exact fun Q E p s _ h => h
  | stack k ih => exact fun Q E p s hn h => ih _ Q E p s hn h
  | fork _ _ => exact fun Q E p s _ h => h
  | thread k ih => exact fun Q E p s hn h => ih _ Q E p s hn h
  | await _ _ _ _ _ => exact fun Q E p s _ h => h
theorem sized {α : Type} {M : Model} {A : Around} {s : Shared} {t : Sem α} {Q : α → Shared → Prop} {E : Value → Shared → Prop}
    (h : wpAny M A t (fun a s' => s.heap.objs.size ≤ s'.heap.objs.size → Q a s') (fun e s' => s.heap.objs.size ≤ s'.heap.objs.size → E e s') s) : wpAny M A t Q E s := fun Γ p hΓ =>
  Sem.wp_mono M Γ _ (fun _ _ _ q => q.2 q.1) (fun _ _ _ q => q.2 q.1) p s (wp_size M Γ _ t _ _ p s (Nat.le_refl _) (h Γ p hΓ))

section
variable {c : Cx} {N : Lv} {env : Env} {ρ ρ' : Rho} {σ : Sig} {Q : V → Sig → Prop} {X : Exn → Sig → Prop} {M : Model} {A : Around} {s : Shared}

/-- a name can be bound, and B alone is touched -/
noncomputable def StoreOk (c : Cx) (σ : Sig) (env : Env) (B : Addr → Prop) (x : Str) : Prop := ∀ (ρ ρ' : Rho) (v : V) (y : Value) (s : Shared) (M : Model) (A : Around) (Q : Unit → Shared → Prop) (E : Value → Shared → Prop), Rel c σ s.heap → EnvR c σ env ρ s.heap → Put x (some v) ρ ρ' → VR s.heap v y →
  (∀ h' tk, Rel c σ h' → EnvR c σ env ρ' h' → Ext B s.heap h' → Q () (at_ s h' tk)) → wpAny M A (storeName env x y) Q E s
theorem store_ok {x : Str} : StoreOk c σ env (mine env) x := fun ρ ρ' v y s M A Q E R Ev p r h => store_ R Ev p r fun h' tk R' E' x' _ => h h' tk R' E' x'
theorem storeL_ok {x : Str} (hl : env.kindOf x = some .local) : StoreOk c σ env (fun a => a = env.locals) x := fun ρ ρ' v y s M A Q E R Ev p r h => by
  obtain ⟨m, hn, hv⟩ := Ev.vars
  have hp : (env.scope.kind == .class || (env.scope.kind == .module && env.locals != env.globals)) = false := by rw [Ev.kind]; rfl
  have nt := Ev.mine_noTup
  rw [storeName_local hl hp]
  refine nsSet_ hn fun h' hn' hs hc => ?_
  have X : Ext (fun a => a = env.locals) s.heap h' := .same hs (.inl rfl)
  have X' : Ext (mine env) s.heap h' := X.mono fun _ q => .inl q
  have R' : Rel c σ h' := R.same hs Ev.loc.1 Ev.loc.2 fun xs t => nt _ _ (.inl rfl) t
  refine h h' (s.toks + 1, s.drawn) R' ⟨Ev.kind, Ev.glob, Ev.blt, Ev.loc, fun z k' e => ?_, Ev.apart, ⟨_, hn', fun z u hm => ?_⟩, by rw [p.keys]; exact Ev.nodup, fun z hz => Ev.kinds z (by rw [← p.keys]; exact hz), Ev.own.imp id fun ⟨o, e1, e2⟩ => (hc o e1).imp fun o' q => ⟨q.1, by rw [q.2]; exact e2⟩, ?_⟩ X
  · obtain ⟨a1, a2, u, a3⟩ := Ev.cells z k' e
    refine ⟨a1, a2, u, a3.sameBut hs fun q => ?_⟩
    subst q
    obtain ⟨o, h1, h2⟩ := a3
    obtain ⟨o', es, ep, h3, h4, _⟩ := hn
    rw [h1] at h3; cases h3; rw [h2] at h4; cases h4
  · rcases p.cases Ev.nodup hm with ⟨rfl, e⟩ | ⟨hne, hm'⟩
    · cases e
      exact .inl ⟨hl, y, by simp, VR.ext nt X' r⟩
    · rcases hv z u hm' with ⟨k1, y1, e1, e2⟩ | ⟨k1, k', y1, e1, e2, e3⟩
      · exact .inl ⟨k1, y1, by simp [hne, e1], VR.ext nt X' e2⟩
      · refine .inr ⟨k1, k', y1, e1, e2.sameBut hs fun q => ?_, VR.ext nt X' e3⟩
        subst q
        obtain ⟨o, h1, h2⟩ := e2
        obtain ⟨o', es, ep, h3, h4, _⟩ := hn
        rw [h1] at h3; cases h3; rw [h2] at h4; cases h4
  · obtain ⟨f, o, e1, e2, e3⟩ := Ev.hand
    by_cases hf : f = env.locals
    · subst hf
      obtain ⟨o', e4, e5⟩ := hc o e2
      obtain ⟨o'', es, ep, e6, e7, _⟩ := hn'
      rw [e4] at e6; cases e6
      exact ⟨_, o', e1, e4, e5.trans e3.1, es, ep, e7⟩
    · exact ⟨f, o, e1, (hs.2 f hf).trans e2, e3⟩

/-- targets -/
noncomputable def names1 : PySem.Expr → List Str
  | .Name x _ => [x]
  | _ => []
noncomputable def namesL : List PySem.Expr → List Str
  | [] => []
  | e :: es => names1 e ++ namesL es
noncomputable def names : PySem.Expr → List Str
  | .Tuple es _ _ => namesL es
  | e => names1 e
inductive TakesL : List PySem.Expr → List V → Rho → Rho → Prop
  | nil {ρ : Rho} : TakesL [] [] ρ ρ
  | cons {x : Str} {p : Pos} {v : V} {es : List PySem.Expr} {l : List V} {ρ ρ1 ρ2 : Rho} : Put x (some v) ρ ρ1 → TakesL es l ρ1 ρ2 → TakesL (.Name x p :: es) (v :: l) ρ ρ2
/-- the target takes v -/
inductive Takes : PySem.Expr → V → Rho → Rho → Prop
  | name {x : Str} {p : Pos} {v : V} {ρ ρ' : Rho} : Put x (some v) ρ ρ' → Takes (.Name x p) v ρ ρ'
  | tup {es : List PySem.Expr} {k : Nat} {p : Pos} {l : List V} {ρ ρ' : Rho} : TakesL es l ρ ρ' → Takes (.Tuple es k p) (.tup l) ρ ρ'
theorem TakesL.length {es : List PySem.Expr} {l : List V} (t : TakesL es l ρ ρ') : (assignEach es env).length = l.length ∧ (assignEach es env).findIdx? (·.1) = none := by
  induction t with
  | nil => exact ⟨rfl, rfl⟩
  | @cons x p v es l ρ ρ1 ρ2 pt t ih =>
    have e : assignEach (.Name x p :: es) env = (false, assign (.Name x p) env) :: assignEach es env := rfl
    rw [e, List.findIdx?_cons]
    refine ⟨by simp [ih.1], ?_⟩
    simp only [Bool.false_eq_true, if_false, ih.2, Option.map_none]

theorem takesL_ {B : Addr → Prop} (hm : ∀ a, B a → mine env a) {es : List PySem.Expr} {l : List V} {ρ ρ' : Rho} (t : TakesL es l ρ ρ') : ∀ {ys : List Value} {s : Shared} {Q : Unit → Shared → Prop} {E : Value → Shared → Prop}, (∀ x ∈ namesL es, StoreOk c σ env B x) → Rel c σ s.heap → EnvR c σ env ρ s.heap → VRs s.heap l ys →
    (∀ h' tk, Rel c σ h' → EnvR c σ env ρ' h' → Ext B s.heap h' → Q () (at_ s h' tk)) → wpAny M A (assignInOrder ((assignEach es env).map (·.2)) ys) Q E s := by
  induction t with
  | nil =>
    intro ys s Q E _ R Ev r h
    exact PyProof.Rows.assignInOrder_nil (h s.heap (tks s) R Ev (.refl _))
  | @cons x p v es l ρ ρ1 ρ2 pt t ih =>
    intro ys s Q E hB R Ev r h
    simp only [VRs] at r
    obtain ⟨y, ys, rfl, r1, r2⟩ := r
    have e : assignEach (.Name x p :: es) env = (false, assign (.Name x p) env) :: assignEach es env := rfl
    rw [e, List.map_cons]
    refine PyProof.Rows.assignInOrder_cons (wpAny_assign_Name (hB x (by simp [namesL, names1]) ρ ρ1 v y s M A _ E R Ev pt r1 fun h1 tk1 R1 E1 x1 => ?_))
    exact ih (s := at_ s h1 tk1) (fun z hz => hB z (by simp [namesL, names1, hz])) R1 E1 (VRs.ext (fun a xs q t => Ev.mine_noTup a xs (hm a q) t) x1 r2) fun h2 tk2 R2 E2 x2 => h h2 tk2 R2 E2 (x1.trans x2 fun a q => .inl q)
theorem extBut_ext {h h' : Heap} {B : Addr → Prop} (x : Heap.ExtBut h.objs.size h h') (hs : h.objs.size ≤ h'.objs.size) : Ext B h h' :=
  ⟨fun a o _ e => ⟨o, x a o (Nat.ne_of_lt (Heap.lt_size e)) e, .refl o⟩, hs⟩
theorem takes_ {prog : Program} {w : World} {B : Addr → Prop} (hm : ∀ a, B a → mine env a) {target : PySem.Expr} {v : V} {y : Value} {Q : Unit → Shared → Prop} {E : Value → Shared → Prop} (hh : A.handled = none) (t : Takes target v ρ ρ') (hB : ∀ x ∈ names target, StoreOk c σ env B x) (R : Rel c σ s.heap) (Ev : EnvR c σ env ρ s.heap) (r : VR s.heap v y)
    (h : ∀ h' tk, Rel c σ h' → EnvR c σ env ρ' h' → Ext B s.heap h' → Q () (at_ s h' tk)) : wpAny (model prog w) A (assign target env y) Q E s := by
  cases t with
  | name pt => exact wpAny_assign_Name (hB _ (by simp [names, names1]) ρ ρ' v y s _ A _ E R Ev pt r h)
  | @tup es k p l _ _ t =>
    simp only [VR] at r
    obtain ⟨a, xs, rfl, ht, r⟩ := r
    have hl : (assignEach es env).length = xs.size := by rw [t.length.1, ← Array.length_toList, r.length]
    rw [PyProof.Rows.assign_Tuple]
    refine wpAny_bind (wpAny_standAt ?_)
    unfold unpack
    rw [hl, t.length.2]
    refine wpAny_bind (wpAny_holding (sized (unpackItems_tuple hh ht.lib fun h1 x1 hs => ?_)))
    have X : ∀ B, Ext B s.heap h1 := fun B => extBut_ext x1 hs
    have hk : ∀ b o, s.heap.get? b = some o → h1.get? b = some o := fun b o e => x1 b o (Nat.ne_of_lt (Heap.lt_size e)) e
    exact takesL_ (s := at_ s h1 (tks s)) hm t hB (R.grow hk hs) (Ev.ext R (X _) (.refl _ _)) (R.vrs (X _) r) fun h2 tk2 R2 E2 x2 => h h2 tk2 R2 E2 ((X B).trans x2 fun a q => .inl q)
end
end Mine

-- part P18
namespace Mine

/-- an iterator -/
structure It (c : Cx) (lo : Nat) (I : Addr) (W : Addr → Prop) (Need : Sig → Prop) (tg : PySem.Expr → Prop) (St : List V → Heap → Prop) : Prop where
  ge : ∀ a, W a → lo ≤ a ∧ c.S.objs.size ≤ a
  rec_ : ∀ l h, St l h → ∀ a, W a → ∃ o us, h.get? a = some o ∧ o.data = .fields us
  frame : ∀ l h h' B, St l h → Ext B h h' → NoTup B h → (∀ a, W a → ¬ B a) → St l h'
  self : ∀ l A s Q E, St l s.heap → Q (.ref I) s → wpAny (model c.prog c.w) A (pyIter (.ref I)) Q E s
  step : ∀ A σ v l target s (QQ : Value → Shared → Prop) E0 E1, A.handled = none → tg target → Rel c σ s.heap → Need σ → (∀ a, W a → σ a = none) → St (v :: l) s.heap →
    (∀ x h' tk, VR h' v x → St l h' → Flew c σ lo s.heap h' → QQ x (at_ s h' tk)) →
    wpAny (model c.prog c.w) A (pyNext (.ref I)) (fun r s1 => ∃ x, r = some x ∧ wpAny (model c.prog c.w) A (letOwnedTupleGo target (.ref I) x) (fun _ s2 => QQ x s2) E1 s1) E0 s
  done : ∀ A σ s (QQ : Shared → Prop) E0, A.handled = none → Rel c σ s.heap → Need σ → (∀ a, W a → σ a = none) → St [] s.heap →
    (∀ h' tk, Flew c σ lo s.heap h' → QQ (at_ s h' tk)) → wpAny (model c.prog c.w) A (pyNext (.ref I)) (fun r s1 => r = none ∧ QQ s1) E0 s

section
variable {c : Cx} {σ : Sig}
theorem It.low {lo lo' : Nat} {I : Addr} {W : Addr → Prop} {Need : Sig → Prop} {tg : PySem.Expr → Prop} {St : List V → Heap → Prop} (i : It c lo I W Need tg St) (hl : lo' ≤ lo) : It c lo' I W Need tg St :=
  ⟨fun a w => ⟨Nat.le_trans hl (i.ge a w).1, (i.ge a w).2⟩, i.rec_, i.frame, i.self, fun A σ v l target s QQ E0 E1 hh h1 h2 h3 h4 h5 h6 => i.step A σ v l target s QQ E0 E1 hh h1 h2 h3 h4 h5 fun x h' tk a b f => h6 x h' tk a b (f.mono hl),
    fun A σ s QQ E0 h0 h1 h2 h3 h4 h5 => i.done A σ s QQ E0 h0 h1 h2 h3 h4 fun h' tk f => h5 h' tk (f.mono hl)⟩
theorem flew_of {lo : Nat} {h h' : Heap} {W : Addr → Prop} (hk : ∀ b o, ¬ W b → h.get? b = some o → h'.get? b = some o) (hs : h.objs.size ≤ h'.objs.size) (ge : ∀ a, W a → lo ≤ a ∧ c.S.objs.size ≤ a) (hn : ∀ a, W a → σ a = none)
    (hr : ∀ a, W a → ∃ o us, h.get? a = some o ∧ o.data = .fields us) : Flew c σ lo h h' :=
  ⟨⟨fun a o hb e => ⟨o, hk a o (fun w => hb ⟨(ge a w).1, (ge a w).2, hn a w, .inr (hr a w)⟩) e, .refl o⟩, hs⟩, fun a o hst e => hk a o (fun w => absurd (Heap.lt_size hst) (Nat.not_lt.mpr (ge a w).2)) e⟩
theorem Like.fields {o o' : Obj} (l : Like o o') (hc : o.cls ≠ .type "frame") : o' = o := l.eq hc

/-- no tuple of its own to let go -/
theorem letGo_plain {M : Model} {A : Around} {E : Value → Shared → Prop} {s : Shared} {target : PySem.Expr} {I : Addr} {v : Value} {T : String} {o : Obj} {Q : Unit → Shared → Prop} (ho : s.heap.get? I = some o) (hc : o.cls = .type T)
    (hT : ["enumerate", "zip", "dict_itemiterator", "dict_reverseitemiterator", "odict_iterator", "itertools.zip_longest", "itertools.pairwise"].contains T = false) (h : Q () s) : wpAny M A (letOwnedTupleGo target (.ref I) v) Q E s := by
  unfold letOwnedTupleGo
  have key : ∀ r a, wpAny M A (do
      let o ← load r
      match o.cls, o.data with
      | .type n, .fields vs => if ["enumerate", "zip", "dict_itemiterator", "dict_reverseitemiterator", "odict_iterator", "itertools.zip_longest", "itertools.pairwise"].contains n && vs[0]? == some (rawInt a) then (do rule "for.unpacks-the-owned-tuple"; updateField r 0 .none) else pure ()
      | _, _ => pure ()) Q E s ∨ r ≠ I := fun r a => by
    by_cases e : r = I
    · subst e
      refine .inl (wpAny_bind (wpAny_load ho ?_))
      rw [hc]
      cases hd : o.data <;> first | (dsimp only; rw [hT, Bool.false_and]; exact wpAny_pure h) | exact wpAny_pure h
    · exact .inr e
  cases target <;> first
    | exact wpAny_pure h
    | (cases v <;> first | exact wpAny_pure h | exact (key I _).resolve_right fun q => q rfl)

/-- a tuple is walked -/
noncomputable def StT (I t : Addr) (l : List V) (h : Heap) : Prop := ∃ i xs, h.IsTupleIter I t i ∧ IsTup h t xs ∧ VRs h l (xs.toList.drop i)
theorem drop_get {α : Type} {xs : List α} {i : Nat} {x : α} {r : List α} (e : xs.drop i = x :: r) : xs[i]? = some x ∧ xs.drop (i + 1) = r := by
  have h1 : (xs.drop i)[0]? = some x := by rw [e]; rfl
  rw [List.getElem?_drop] at h1
  refine ⟨h1, ?_⟩
  have : xs.drop (i + 1) = (xs.drop i).drop 1 := by rw [List.drop_drop]
  rw [this, e]; rfl
theorem isTuple_of {h : Heap} {t : Addr} {xs : Array Value} (x : IsTup h t xs) : h.IsTuple t xs := x.lib
theorem It.tuple {lo : Nat} {I t : Addr} (h1 : lo ≤ I) (h2 : c.S.objs.size ≤ I) : It c lo I (fun a => a = I) (fun _ => True) (fun _ => True) (StT I t) where
  ge := fun a e => by subst e; exact ⟨h1, h2⟩
  rec_ := fun l h ⟨i, xs, ⟨o, ho, _, hd⟩, _⟩ a e => by subst e; exact ⟨o, _, ho, hd⟩
  frame := fun l h h' B ⟨i, xs, ⟨o, ho, hc, hd⟩, ht, r⟩ x n hb => by
    obtain ⟨o', e', lk⟩ := x.keep I o (hb I rfl) ho
    have : o' = o := lk.eq (by rw [hc]; decide)
    subst this
    exact ⟨i, xs, ⟨o', e', hc, hd⟩, IsTup.ext n x ht, VRs.ext n x r⟩
  self := fun l A s Q E ⟨i, xs, hit, _⟩ q => by
    refine wpAny_pyIter_slot hit.typeIs F.slot_tuple_iterator_iter (wpAny_call_entry F.slot_tuple_iterator_iter hit.typeIs F.entry_tuple_iterator_iter ?_ (F.args_tuple_iterator_iter_1 _))
    show wpAny _ _ (ret (.ref I)) _ _ s
    exact wpAny_pure ⟨_, rfl, "tuple_iterator", _, hit.typeIs, F.slot_tuple_iterator_next.lookup, q⟩
  step := fun A σ v l target s QQ E0 E1 _ _ R _ hn ⟨i, xs, hit, ht, r⟩ h => by
    simp only [VRs] at r
    obtain ⟨x, r', e, r1, r2⟩ := r
    obtain ⟨e1, e2⟩ := drop_get e
    have hne : t ≠ I := fun q => by
      subst q
      obtain ⟨o, ho, hc, _⟩ := ht; obtain ⟨o', ho', hc', _⟩ := hit
      rw [ho] at ho'; cases ho'; rw [hc] at hc'; exact absurd hc' (by decide)
    refine wpAny_pyNext_tuple_item hit (isTuple_of ht) (x := x) (by rw [← Array.getElem?_toList]; exact e1) fun h' hit' hs => ⟨x, rfl, ?_⟩
    have X : Ext (fun a => a = I) s.heap h' := .same hs (.inl rfl)
    have n : NoTup (fun a => a = I) s.heap := fun a xs q ⟨o, ho, hc, _⟩ => by
      subst q
      obtain ⟨o', ho', hc', _⟩ := hit
      rw [ho] at ho'; cases ho'; rw [hc] at hc'; exact absurd hc' (by decide)
    have hit0 := hit'
    obtain ⟨o', ho', hc', _⟩ := hit'
    refine letGo_plain (s := { s with heap := h' }) ho' hc' (by decide) ?_
    refine h x h' (tks s) (VR.ext n X r1) ⟨i + 1, xs, hit0, IsTup.ext n X ht, by rw [e2]; exact VRs.ext n X r2⟩ ?_
    refine flew_of (W := fun a => a = I) (fun b o hb e => (hs.2 b hb).trans e) (Nat.le_of_eq hs.1.symm) (fun a e => by subst e; exact ⟨h1, h2⟩) hn fun a e => ?_
    subst e
    obtain ⟨o, ho, _, hd⟩ := hit
    exact ⟨o, _, ho, hd⟩
  done := fun A σ s QQ E0 hh R _ hn ⟨i, xs, hit, ht, r⟩ h => by
    simp only [VRs] at r
    refine sized (wpAny_pyNext_tuple_end hh hit (isTuple_of ht) ?_ fun h' x hs => ⟨rfl, h h' (tks s) ?_⟩)
    · rw [← Array.getElem?_toList]
      exact List.getElem?_eq_none (List.drop_eq_nil_iff.mp r)
    · refine flew_of (W := fun a => a = I) (fun b o hb e => x b o hb e) hs (fun a e => by subst e; exact ⟨h1, h2⟩) hn fun a e => ?_
      subst e
      obtain ⟨o, ho, _, hd⟩ := hit
      exact ⟨o, _, ho, hd⟩
/-- a list is walked -/
noncomputable def StL (I a : Addr) (l0 : List V) (l : List V) (h : Heap) : Prop := ∃ i, h.IsListIter I a i ∧ l = l0.drop i
theorem It.list {lo : Nat} {I a : Addr} {l0 : List V} (h1 : lo ≤ I) (h2 : c.S.objs.size ≤ I) : It c lo I (fun a => a = I) (fun σ => LR c σ a l0) (fun _ => True) (StL I a l0) where
  ge := fun a e => by subst e; exact ⟨h1, h2⟩
  rec_ := fun l h ⟨i, ⟨o, ho, _, hd⟩, _⟩ a e => by subst e; exact ⟨o, _, ho, hd⟩
  frame := fun l h h' B ⟨i, ⟨o, ho, hc, hd⟩, e⟩ x n hb => by
    obtain ⟨o', e', lk⟩ := x.keep I o (hb I rfl) ho
    have : o' = o := lk.eq (by rw [hc]; decide)
    subst this
    exact ⟨i, ⟨o', e', hc, hd⟩, e⟩
  self := fun l A s Q E ⟨i, hit, _⟩ q => wpAny_pyIter_listiter hit q
  step := fun A σ v l target s QQ E0 E1 _ _ R hl hn ⟨i, hit, e⟩ h => by
    obtain ⟨xs, ha, r⟩ := hl.real R
    obtain ⟨e1, e2⟩ := drop_get e.symm
    obtain ⟨x, hx, r1⟩ := r.get e1
    have hne : a ≠ I := fun q => by
      subst q
      obtain ⟨o, ho, hc, _⟩ := ha; obtain ⟨o', ho', hc', _⟩ := hit
      rw [ho] at ho'; cases ho'; rw [hc] at hc'; exact absurd hc' (by decide)
    refine wpAny_pyNext_list_item hit ha (x := x) (by rw [← Array.getElem?_toList]; exact hx) fun h' hit' hs => ⟨x, rfl, ?_⟩
    have X : Ext (fun a => a = I) s.heap h' := .same hs (.inl rfl)
    have n : NoTup (fun a => a = I) s.heap := fun a xs q ⟨o, ho, hc, _⟩ => by
      subst q
      obtain ⟨o', ho', hc', _⟩ := hit
      rw [ho] at ho'; cases ho'; rw [hc] at hc'; exact absurd hc' (by decide)
    have hit0 := hit'
    obtain ⟨o', ho', hc', _⟩ := hit'
    refine letGo_plain (s := { s with heap := h' }) ho' hc' (by decide) ?_
    refine h x h' (tks s) (VR.ext n X r1) ⟨i + 1, hit0, e2.symm⟩ ?_
    refine flew_of (W := fun a => a = I) (fun b o hb e => (hs.2 b hb).trans e) (Nat.le_of_eq hs.1.symm) (fun a e => by subst e; exact ⟨h1, h2⟩) hn fun a e => ?_
    subst e
    obtain ⟨o, ho, _, hd⟩ := hit
    exact ⟨o, _, ho, hd⟩
  done := fun A σ s QQ E0 hh R hl hn ⟨i, hit, e⟩ h => by
    obtain ⟨xs, ha, r⟩ := hl.real R
    refine sized (wpAny_pyNext_list_end hh hit ha ?_ fun h' x hs => ⟨rfl, h h' (tks s) ?_⟩)
    · rw [← Array.getElem?_toList]
      refine List.getElem?_eq_none ?_
      have := List.drop_eq_nil_iff.mp e.symm
      rw [r.length]; exact this
    · refine flew_of (W := fun a => a = I) (fun b o hb e => x b o hb e) hs (fun a e => by subst e; exact ⟨h1, h2⟩) hn fun a e => ?_
      subst e
      obtain ⟨o, ho, _, hd⟩ := hit
      exact ⟨o, _, ho, hd⟩
/-- a range is walked -/
noncomputable def upFrom (x : Int) : Nat → List V
  | 0 => []
  | n + 1 => .int x :: upFrom (x + 1) n
noncomputable def StR (I : Addr) (l : List V) (h : Heap) : Prop := ∃ (x : Int) (n : Nat), IsRangeIter h I x n 1 ∧ l = upFrom x n
theorem It.range {lo : Nat} {I : Addr} (h1 : lo ≤ I) (h2 : c.S.objs.size ≤ I) : It c lo I (fun a => a = I) (fun _ => True) (fun e => ∃ x p, e = .Name x p) (StR I) where
  ge := fun a e => by subst e; exact ⟨h1, h2⟩
  rec_ := fun l h ⟨x, n, ho, _⟩ a e => by subst e; exact ⟨_, _, ho, rfl⟩
  frame := fun l h h' B ⟨x, n, ho, e⟩ xx nt hb => by
    obtain ⟨o', e', lk⟩ := xx.keep I _ (hb I rfl) ho
    have := lk.eq (show Value.type "range_iterator" ≠ _ by decide)
    subst this
    exact ⟨x, n, e', e⟩
  self := fun l A s Q E ⟨x, n, ho, _⟩ q => by
    have hT : s.TypeIs (.ref I) "range_iterator" := ⟨_, ho, rfl⟩
    refine wpAny_pyIter_slot hT F.slot_range_iterator_iter (wpAny_call_entry F.slot_range_iterator_iter hT F.entry_range_iterator_iter ?_ (F.args_range_iterator_iter_1 _))
    show wpAny _ _ (ret (.ref I)) _ _ s
    exact wpAny_pure ⟨_, rfl, "range_iterator", _, hT, F.slot_range_iterator_next.lookup, q⟩
  step := fun A σ v l target s QQ E0 E1 _ ⟨y, p, et⟩ R _ hn ⟨x, n, ho, e⟩ h => by
    subst et
    cases n with
    | zero => cases e
    | succ n =>
      simp only [upFrom] at e
      obtain ⟨rfl, rfl⟩ := List.cons.inj e
      refine wpAny_pyNext_range_item ho (by omega) fun h' hit' hs => ⟨_, rfl, ?_⟩
      refine wpAny_pure (a := ()) ?_
      refine h (.int x s.toks) h' (s.toks + 1, s.drawn) (by simp only [VR]; exact ⟨_, rfl⟩) ⟨x + 1, n, by rw [show ((n + 1 : Nat) : Int) - 1 = n by omega] at hit'; exact hit', rfl⟩ ?_
      refine flew_of (W := fun a => a = I) (fun b o hb e => (hs.2 b hb).trans e) (Nat.le_of_eq hs.1.symm) (fun a e => by subst e; exact ⟨h1, h2⟩) hn fun a e => ?_
      subst e
      exact ⟨_, _, ho, rfl⟩
  done := fun A σ s QQ E0 hh R hl hn ⟨x, n, ho, e⟩ h => by
    cases n with
    | succ n => cases e
    | zero =>
      refine sized (wpAny_pyNext_range_end hh ho (by simp) fun h' x hs => ⟨rfl, h h' (tks s) ?_⟩)
      refine flew_of (W := fun a => a = I) (fun b o hb e => x b o hb e) hs (fun a e => by subst e; exact ⟨h1, h2⟩) hn fun a e => ?_
      subst e
      exact ⟨_, _, ho, rfl⟩
end
end Mine

-- part P19
namespace Mine

section
variable {c : Cx} {N : Lv} {env : Env} {ρ : Rho} {σ : Sig} {Q : V → Sig → Prop} {X : Exn → Sig → Prop} {SQ : GF → Rho → Sig → Prop} {SX : Exn → Rho → Sig → Prop}
/-- an iterable -/
noncomputable abbrev IK := List V → (Sig → Prop) → (PySem.Expr → Prop) → Sig → Prop
noncomputable def IterG (c : Cx) (N : Lv) (env : Env) (ρ : Rho) (e : PySem.Expr) (σ : Sig) (K : IK) (X : Exn → Sig → Prop) : Prop :=
  ∀ (A : Around) (s : Shared) (QQ : Value → Shared → Prop) (EE : Value → Shared → Prop), AOk c N A σ s.heap → Rel c σ s.heap → EnvR c σ env ρ s.heap → XPost c σ s X EE →
    (∀ l Need tg I W St σ' h' tk, K l Need tg σ' → It c s.heap.objs.size I W Need tg St → St l h' → Rel c σ' h' → Ext (dom σ) s.heap h' → Grown σ s.heap σ' → (∀ a, W a → σ' a = none) → QQ (.ref I) (at_ s h' tk)) →
    wpAny (model c.prog c.w) A (eval e env) (fun x s1 => wpAny (model c.prog c.w) A (pyIter x) QQ EE s1) EE s
noncomputable def IterOp (c : Cx) (N : Lv) (σ : Sig) (v : V) (K : IK) : Prop :=
  ∀ (A : Around) (s : Shared) (QQ : Value → Shared → Prop) (EE : Value → Shared → Prop) (x : Value), AOk c N A σ s.heap → Rel c σ s.heap → VR s.heap v x →
    (∀ l Need tg I W St h' tk, K l Need tg σ → It c s.heap.objs.size I W Need tg St → St l h' → Rel c σ h' → Ext (dom σ) s.heap h' → (∀ a, W a → σ a = none) → QQ (.ref I) (at_ s h' tk)) → wpAny (model c.prog c.w) A (pyIter x) QQ EE s
theorem IG_plain {e : PySem.Expr} {K : IK} (g : EvG c N env ρ e σ (fun v σ1 => IterOp c N σ1 v K) X) : IterG c N env ρ e σ K X := fun A s QQ EE a R E xp h =>
  g.run a R E xp fun v x σ1 h1 tk1 g1 r1 a1 R1 E1 x1 gr1 => g1 A _ QQ EE x a1 R1 r1 fun l Need tg I W St h2 tk2 k i st R2 x2 wn =>
    h l Need tg I W St σ1 h2 tk2 k (i.low x1.size) st R2 (x1.trans x2 (dom_back gr1)) gr1 wn
theorem IO_tup {l : List V} {K : IK} (q : K l (fun _ => True) (fun _ => True) σ) : IterOp c N σ (.tup l) K := fun A s QQ EE x a R r h => by
  simp only [VR] at r
  obtain ⟨t, xs, rfl, ht, r⟩ := r
  refine wpAny_pyIter_tuple (isTuple_of ht) (h l _ _ _ _ (StT s.heap.objs.size t) _ (tks s) q (.tuple (Nat.le_refl _) R.size) ⟨0, xs, ⟨_, Heap.get?_push_size _ rfl, rfl, rfl⟩, ht.push _, ?_⟩ (R.push _) (.push _ _) fun a e => by subst e; exact R.fresh)
  rw [List.drop_zero]
  exact R.vrs (.push _ _) r
theorem IO_list {l : List V} {d : Addr} {K : IK} (hl : LR c σ d l) (q : K l (fun σ' => LR c σ' d l) (fun _ => True) σ) : IterOp c N σ (.raw (.ref d)) K := fun A s QQ EE x a R r h => by
  simp only [VR] at r; subst r
  obtain ⟨xs, hx, _⟩ := hl.real R
  exact wpAny_pyIter_list hx (h l _ _ _ _ (StL s.heap.objs.size d l) _ (tks s) q (.list (Nat.le_refl _) R.size) ⟨0, ⟨_, Heap.get?_push_size _ rfl, rfl, rfl⟩, rfl⟩ (R.push _) (.push _ _) fun a e => by subst e; exact R.fresh)

theorem It.step' {lo : Nat} {I : Addr} {W : Addr → Prop} {Need : Sig → Prop} {tg : PySem.Expr → Prop} {St : List V → Heap → Prop} (i : It c lo I W Need tg St) {A : Around} {v : V} {l : List V} {target : PySem.Expr} {s : Shared} {P : Option Value → Shared → Prop} {QQ : Value → Shared → Prop} {E0 E1 : Value → Shared → Prop}
    (hh : A.handled = none) (htg : tg target) (R : Rel c σ s.heap) (nd : Need σ) (wn : ∀ a, W a → σ a = none) (st : St (v :: l) s.heap) (hP : ∀ x s1, wpAny (model c.prog c.w) A (letOwnedTupleGo target (.ref I) x) (fun _ s2 => QQ x s2) E1 s1 → P (some x) s1)
    (h : ∀ x h' tk, VR h' v x → St l h' → Flew c σ lo s.heap h' → QQ x (at_ s h' tk)) : wpAny (model c.prog c.w) A (pyNext (.ref I)) P E0 s :=
  wpAny_mono (i.step A σ v l target s QQ E0 E1 hh htg R nd wn st h) (fun r s1 ⟨x, e, z⟩ => by subst e; exact hP x s1 z) fun _ _ z => z
theorem It.done' {lo : Nat} {I : Addr} {W : Addr → Prop} {Need : Sig → Prop} {tg : PySem.Expr → Prop} {St : List V → Heap → Prop} (i : It c lo I W Need tg St) {A : Around} {s : Shared} {P : Option Value → Shared → Prop} {E0 : Value → Shared → Prop}
    (hh : A.handled = none) (R : Rel c σ s.heap) (nd : Need σ) (wn : ∀ a, W a → σ a = none) (st : St [] s.heap)
    (h : ∀ h' tk, Flew c σ lo s.heap h' → P none (at_ s h' tk)) : wpAny (model c.prog c.w) A (pyNext (.ref I)) P E0 s :=
  wpAny_mono (i.done A σ s (fun s1 => P none s1) E0 hh R nd wn st h) (fun r s1 ⟨e, z⟩ => by subst e; exact z) fun _ _ z => z

theorem notBoth {h : Heap} {W : Addr → Prop} {I : Addr} {lo : Nat} {Need : Sig → Prop} {tg : PySem.Expr → Prop} {St : List V → Heap → Prop} {l : List V} (i : It c lo I W Need tg St) (st : St l h) (E : EnvR c σ env ρ h) (wn : ∀ a, W a → σ a = none) : ∀ a, W a → ¬ both σ env a := fun a w q => by
  obtain ⟨o, us, ho, hd⟩ := i.rec_ l h st a w
  rcases q with q | rfl | ⟨x, e⟩
  · exact q (wn a w)
  · obtain ⟨m, ⟨o', es, ep, q1, q2, _⟩, _⟩ := E.vars
    rw [ho] at q1; cases q1; rw [hd] at q2; cases q2
  · obtain ⟨_, _, v, o', q1, q2⟩ := E.cells x a e
    rw [ho] at q1; cases q1; rw [hd] at q2; cases q2
theorem both_noTup {h : Heap} (R : Rel c σ h) (E : EnvR c σ env ρ h) : NoTup (both σ env) h := fun a xs q t => q.elim (fun z => R.noTup a xs z t) fun z => E.mine_noTup a xs z t

theorem EnvR.frame_ {h : Heap} (E : EnvR c σ env ρ h) : ∃ L, env.frame = some L := let ⟨f, _, e, _⟩ := E.hand; ⟨f, e⟩
/-- an exception flies out of an own activation -/
theorem noted_back {A : Around} {EE : Value → Shared → Prop} {s0 s : Shared} {e : Addr} {ex : Exn} {ρ' : Rho} {σ' : Sig} (ot : OnTop A env) (a : AOk c N A σ' s.heap) (R : Rel c σ' s.heap) (E : EnvR c σ' env ρ' s.heap) (F : Fly c σ' s0.heap.objs.size s.heap e ex)
    (h : ∀ h' , Flew c σ' s0.heap.objs.size s.heap h' → Fly c σ' s0.heap.objs.size h' e ex → EE (.ref e) { s with heap := h' }) :
    notedBy (model c.prog c.w) A env (cameBackBy (model c.prog c.w) A env EE) (.ref e) s := by
  obtain ⟨L, hL⟩ := E.frame_
  unfold notedBy
  exact noteFrame_ ot a R hL F fun h1 x1 F1 => cameBack_ (s := { s with heap := h1 }) F1 fun h2 x2 F2 => h h2 (x1.trans x2) F2.1

theorem S_for {target iter : PySem.Expr} {body : List Stmt} {pos : Pos} (hhn : N.hn = true)
    (g : IterG c N env ρ iter σ (fun l Need tg σ1 => tg target ∧ ∃ Inv : List V → Rho → Sig → Prop, Inv l ρ σ1 ∧
        (∀ v l ρ1 σ1, Inv (v :: l) ρ1 σ1 → Need σ1 ∧ ∃ ρ2, Takes target v ρ1 ρ2 ∧ SsG c N env ρ2 body σ1 (fun f ρ3 σ3 => match f with | .next => Inv l ρ3 σ3 | .ret v => SQ (.ret v) ρ3 σ3) SX) ∧
        (∀ ρ1 σ1, Inv [] ρ1 σ1 → Need σ1 ∧ SQ .next ρ1 σ1)) (fun ex σ' => SX ex ρ σ'))
    (hs : ∀ x, foldedSetIterable iter env x = pure x := by intro _; rfl) : StG c N env ρ (.For target iter body [] pos) σ SQ SX := fun A s QQ EE ot ak R E p xp => by
  refine wpAny_For (g A s _ EE ak R E (fun e ex σ1 h1 tk1 q f R1 x1 gr1 => xp e ex ρ σ1 h1 tk1 q f R1 (E.ext R x1 gr1) x1.both gr1)
    fun l Need tg I W St σ1 h1 tk1 ⟨htg, Inv, q0, qs, qd⟩ it st R1 x1 gr1 wn => ?_) hs
  have E1 := E.ext R x1 gr1
  have a1 := ak.ext x1 gr1
  refine codeAny_forLoop_any (fun n s' => ∃ l ρ1 σ1 h tk, s' = at_ s h tk ∧ Inv l ρ1 σ1 ∧ AOk c N A σ1 h ∧ Rel c σ1 h ∧ EnvR c σ1 env ρ1 h ∧ Ext (both σ env) s.heap h ∧ Grown σ s.heap σ1 ∧ St l h ∧ (∀ a, W a → σ1 a = none) ∧ n = l.length) ?_ l.length
    ⟨l, ρ, σ1, h1, tk1, rfl, q0, a1, R1, E1, x1.both, gr1, st, wn, rfl⟩
  rintro n s' ⟨l, ρ1, σ1, h, tk, rfl, qI, a1, R1, E1, x1, gr1, st, wn, rfl⟩
  cases l with
  | nil =>
    obtain ⟨nd, q⟩ := qd ρ1 σ1 qI
    refine it.done' (σ := σ1) (a1.han hhn) R1 nd wn st fun h2 tk2 f => wpAny_execs_nil ?_
    exact p .next .next ρ1 σ1 h2 tk2 q rfl (f.rel R1) (f.envR E1) (f.toExt x1 (Nat.le_refl _)) gr1
  | cons v l =>
    obtain ⟨nd, ρ2, tk, g2⟩ := qs v l ρ1 σ1 qI
    refine it.step' (σ := σ1) (a1.han hhn) htg R1 nd wn st (fun x s1 z => z) fun x h2 tk2 r st2 f => ?_
    have R2 := f.rel R1
    have E2 := f.envR E1
    have a2 := f.ok a1
    refine takes_ (s := at_ s h2 tk2) (B := mine env) (fun _ q => q) (a1.han hhn) tk (fun x _ => store_ok) R2 E2 r fun h3 tk3 R3 E3 x3 => ?_
    have x3' : Ext (both σ1 env) h2 h3 := x3.mono fun _ q => .inr q
    have a3 := a2.ext2 E2 x3' (.refl _ _) E3
    have st3 : St l h3 := it.frame l h2 h3 _ st2 x3' (both_noTup R2 E2) (notBoth it st2 E2 wn)
    have X3 : Ext (both σ env) s.heap h3 := (f.toExt x1 (Nat.le_refl _)).trans x3 fun a q => .inl (.inr q)
    refine g2 A (at_ s h3 tk3) _ _ ot a3 R3 E3 (fun fl flv ρ4 σ4 h4 tk4 q rf R4 E4 x4 gr4 => ?_) (fun e ex ρ4 σ4 h4 tk4 q F4 R4 E4 x4 gr4 => ?_)
    · have X4 : Ext (both σ env) s.heap h4 := X3.trans x4 (both_back gr1)
      have G4 : Grown σ s.heap σ4 := gr1.trans gr4 X3.size
      cases fl with
      | next =>
        simp only [FR] at rf; subst rf
        have wl : ∀ a, W a → a < h3.objs.size := fun a w => by obtain ⟨o, us, ho, _⟩ := it.rec_ l h3 st3 a w; exact Heap.lt_size ho
        exact ⟨l.length, by simp, l, ρ4, σ4, h4, tk4, rfl, q, a3.ext2 E3 x4 gr4 E4, R4, E4, X4, G4, it.frame l h3 h4 _ st3 x4 (both_noTup R3 E3) (notBoth it st3 E3 wn), fun a w => grown_none gr4 (wn a w) (wl a w), rfl⟩
      | ret v =>
        simp only [FR] at rf; obtain ⟨y, rfl, rf⟩ := rf
        exact p (.ret v) (.ret y) ρ4 σ4 h4 tk4 q (by simp only [FR]; exact ⟨y, rfl, rf⟩) R4 E4 X4 G4
    · have X4 : Ext (both σ env) s.heap h4 := X3.trans x4 (both_back gr1)
      have G4 : Grown σ s.heap σ4 := gr1.trans gr4 X3.size
      have a4 := a3.ext2 E3 x4 gr4 E4
      exact noted_back (s0 := s) (s := at_ s h4 tk4) ot a4 R4 E4 (F4.lo X3.size) fun h5 f5 F5 => xp e ex ρ4 σ4 h5 tk4 q F5 (f5.rel R4) (f5.envR E4) (f5.toExt X4 (Nat.le_refl _)) G4
end
end Mine

-- part P20
namespace Mine

section
variable {prog : Program} {w : World} {A : Around} {E : Value → Shared → Prop} {R : Result → Shared → Prop} {s : Shared}
theorem compLoop_any {elt target iter : PySem.Expr} {ifs : List PySem.Expr} {scope : Scope} {pos : Pos} {it acc : Value} {env : Env} (J : Nat → Shared → Prop)
    (turn : ∀ n s, J n s → wpAny (model prog w) A (pyNext it) (fun r s₁ => match r with
      | none => R (.ok .next) s₁
      | some v => wpAny (model prog w) A (letOwnedTupleGo target it v) (fun _ s₁' => wpAny (model prog w) A (assign target env v) (fun _ s₂ =>
          wpAny (model prog w) A (forIn ifs true fun c r => if r = true then do let ok ← isTrue c env (eval c env); pure (ForInStep.yield ok) else pure (ForInStep.yield r)) (fun ok s₃ =>
            if ok = true then wpAny (model prog w) A (eval elt env) (fun x s₄ =>
              wpAny (model prog w) A (call (.builtin "list.append") [acc, x]) (fun _ s₅ => ∃ m, m < n ∧ J m s₅) (notedBy (model prog w) A env fun e s' => R (.error e) s') s₄) (notedBy (model prog w) A env fun e s' => R (.error e) s') s₃
            else ∃ m, m < n ∧ J m s₃) (notedBy (model prog w) A env fun e s' => R (.error e) s') s₂) (notedBy (model prog w) A env fun e s' => R (.error e) s') s₁') (notedBy (model prog w) A env fun e s' => R (.error e) s') s₁) (notedBy (model prog w) A env fun e s' => R (.error e) s') s)
    (n : Nat) (h : J n s) : codeAny (model prog w) A (.compLoop (.ListComp elt [⟨target, iter, ifs, 0⟩] scope pos) 0 it acc env) R s := by
  refine codeAny_loop rfl J (fun n s hI => ?_) n h
  show wpAny _ A ((compTurn (.ListComp elt [⟨target, iter, ifs, 0⟩] scope pos) 0 it acc env).onRaise (fun x => do noteFrame x env; theTreesLotGoes x)) _ _ s
  refine wpAny_noted ?_
  rw [compTurn_list]
  refine wpAny_bind (wpAny_standAt (wpAny_bind (wpAny_mono (turn n s hI) (fun r s₁ h₁ => ?_) fun _ _ h' => h')))
  cases r with
  | none => exact wpAny_pure h₁
  | some v =>
    refine wpAny_bind (wpAny_mono h₁ (fun _ s₁' h₁' => wpAny_bind (wpAny_mono h₁' (fun _ s₂ h₂ => wpAny_bind (wpAny_mono h₂ (fun ok s₃ h₃ => ?_) fun _ _ h' => h')) fun _ _ h' => h')) fun _ _ h' => h')
    cases ok with
    | false => exact wpAny_pure ⟨rfl, h₃⟩
    | true => exact wpAny_bind (wpAny_bind (wpAny_mono h₃ (fun x s₄ h₄ => wpAny_bind (wpAny_mono h₄ (fun _ s₅ h₅ => wpAny_pure (wpAny_pure ⟨rfl, h₅⟩)) fun _ _ h' => h')) fun _ _ h' => h'))
end

theorem pushCells_no : ∀ (names : List (Str × NameKind)) (h : Heap), (∀ y ∈ names, y.2 ≠ .cell) → pushCells h names = h
  | [], h, _ => rfl
  | (x, k) :: r, h, hn => by
    have : (k == NameKind.cell) = false := by simpa using hn (x, k) (.head _)
    unfold pushCells
    simp only [this, Bool.false_eq_true, if_false]
    exact pushCells_no r h fun y hy => hn y (.tail _ hy)
theorem cellsFrom_no : ∀ (names : List (Str × NameKind)) (a : Addr) (cl : List (Str × Addr)), (∀ y ∈ names, y.2 ≠ .cell) → cellsFrom a names cl = cl
  | [], _, _, _ => rfl
  | (x, k) :: r, a, cl, hn => by
    have : (k == NameKind.cell) = false := by simpa using hn (x, k) (.head _)
    unfold cellsFrom
    simp only [this, Bool.false_eq_true, if_false]
    exact cellsFrom_no r a cl fun y hy => hn y (.tail _ hy)

section
variable {c : Cx} {N : Lv} {env : Env} {ρ ρc : Rho} {σ σ' : Sig} {Q : V → Sig → Prop} {X : Exn → Sig → Prop} {M : Model} {A : Around} {s : Shared}
theorem EnvR.off {h h' : Heap} {B : Addr → Prop} (Ev : EnvR c σ env ρ h) (x : Ext B h h') (n : NoTup B h) (hb : ∀ a o, B a → h.get? a = some o → (∀ es n, o.data ≠ .dict es n) ∧ ∀ v, o.data ≠ .cell v) : EnvR c σ env ρ h' := by
  obtain ⟨m, hn, hv⟩ := Ev.vars
  have hl : ¬ B env.locals := by
    obtain ⟨o, es, ep, e1, e2, _⟩ := hn
    exact fun q => (hb _ o q e1).1 es ep e2
  have hc : ∀ {k v}, h.IsCell k v → ¬ B k := fun {k v} ⟨o, e1, e2⟩ q => (hb _ o q e1).2 v e2
  refine ⟨Ev.kind, Ev.glob, Ev.blt, Ev.loc, fun y k e => ?_, Ev.apart, ⟨m, Ns.like hn x hl, fun y v hm => ?_⟩, Ev.nodup, Ev.kinds, ?_, ?_⟩
  · obtain ⟨a1, a2, v, a3⟩ := Ev.cells y k e
    exact ⟨a1, a2, v, IsCell.like a3 x (hc a3)⟩
  · rcases hv y v hm with ⟨k1, z, e1, e2⟩ | ⟨k1, k, z, e1, e2, e3⟩
    · exact .inl ⟨k1, z, e1, VR.ext n x e2⟩
    · exact .inr ⟨k1, k, z, e1, IsCell.like e2 x (hc e2), VR.ext n x e3⟩
  · refine Ev.own.imp id fun ⟨o, e1, e2⟩ => ?_
    obtain ⟨o', e', l⟩ := x.keep _ o hl e1
    exact ⟨o', e', fun q => e2 (l.cls.symm.trans q)⟩
  · obtain ⟨f, o, e1, e2, e3, es, m', e4⟩ := Ev.hand
    obtain ⟨o', e', l⟩ := x.keep f o (fun q => (hb _ o q e2).1 es m' e4) e2
    exact ⟨f, o', e1, e', l.cls.trans e3, es, m', l.data.trans e4⟩
theorem AOk.off {h h' : Heap} {B : Addr → Prop} (a : AOk c N A σ h) (x : Ext B h h') (hb : ∀ a o, B a → h.get? a = some o → ∀ es n, o.data ≠ .dict es n) : AOk c N A σ h' :=
  ⟨a.depth, a.units, a.han, let ⟨l, e, f⟩ := a.frames; ⟨l, e, fun y hy => (f y hy).ext x (fun k hk q => by
    obtain ⟨f', o, e1, e2, _, ⟨es, n, e4⟩, _⟩ := f y hy
    rw [e1] at hk; cases hk
    exact hb _ o q e2 es n e4) (.refl _ _)⟩, a.guards⟩
theorem EnvR.weak {h : Heap} {ρ' : Rho} (Ev : EnvR c σ env ρ h) (hk : ρ'.map (·.1) = ρ.map (·.1)) (hm : ∀ x v, (x, some v) ∈ ρ' → (x, some v) ∈ ρ) : EnvR c σ env ρ' h :=
  { Ev with
    vars := let ⟨m, hn, hv⟩ := Ev.vars; ⟨m, hn, fun y v q => hv y v (hm y v q)⟩
    nodup := by rw [hk]; exact Ev.nodup
    kinds := fun y hy => Ev.kinds y (by rw [← hk]; exact hy) }
theorem Put.other {x : Str} {v : Option V} {ρ ρ' : Rho} (p : Put x v ρ ρ') {y : Str} {u : Option V} (m : (y, u) ∈ ρ) (hy : y ≠ x) : (y, u) ∈ ρ' := by
  induction p with
  | here =>
    rcases List.mem_cons.mp m with e | m
    · cases e; exact absurd rfl hy
    · exact .tail _ m
  | there p ih =>
    rcases List.mem_cons.mp m with e | m
    · subst e; exact .head _
    · exact .tail _ (ih m)
theorem TakesL.other {es : List PySem.Expr} {l : List V} {ρ ρ' : Rho} (t : TakesL es l ρ ρ') {y : Str} {u : Option V} (hy : y ∉ namesL es) : ((y, u) ∈ ρ → (y, u) ∈ ρ') ∧ ρ'.map (·.1) = ρ.map (·.1) := by
  induction t with
  | nil => exact ⟨id, rfl⟩
  | cons pt t ih =>
    simp only [namesL, names1, List.mem_append, not_or, List.mem_singleton] at hy
    exact ⟨fun m => (ih hy.2).1 (pt.other m hy.1), (ih hy.2).2.trans pt.keys⟩
theorem Takes.other {target : PySem.Expr} {v : V} {ρ ρ' : Rho} (t : Takes target v ρ ρ') {y : Str} {u : Option V} (hy : y ∉ names target) : ((y, u) ∈ ρ → (y, u) ∈ ρ') := by
  cases t with
  | name pt => exact fun m => pt.other m (by simpa [names, names1] using hy)
  | tup t => exact (t.other hy).1
theorem TakesL.keys {es : List PySem.Expr} {l : List V} {ρ ρ' : Rho} (t : TakesL es l ρ ρ') : ρ'.map (·.1) = ρ.map (·.1) := by
  induction t with
  | nil => rfl
  | cons pt t ih => exact ih.trans pt.keys
theorem Takes.keys {target : PySem.Expr} {v : V} {ρ ρ' : Rho} (t : Takes target v ρ ρ') : ρ'.map (·.1) = ρ.map (·.1) := by
  cases t with
  | name pt => exact pt.keys
  | tup t => exact t.keys

/-- the room of a comprehension -/
structure CompOk (env : Env) (ρ : Rho) (scope : Scope) (cl : List (Str × Addr)) (ρc : Rho) : Prop where
  clos : closureFor scope env = pure cl
  kind : scope.kind = .function
  nocell : ∀ y ∈ scope.names, y.2 ≠ .cell
  locs : ∀ x ∈ scope.names, x.2 = .local → scope.names.lookup x.1 = some .local
  sub : ∀ x k, cl.lookup x = some k → env.cells.lookup x = some k
  apart : cl.Pairwise fun x y => x.2 ≠ y.2
  nodup : (ρc.map (·.1)).Nodup
  keys : ∀ x ∈ ρc.map (·.1), (relabel scope env).names.lookup x = some .local ∨ ((relabel scope env).names.lookup x = some .cell ∧ ∃ k, cl.lookup x = some k)
  vars : ∀ x v, (x, some v) ∈ ρc → (x, some v) ∈ ρ ∧ env.kindOf x = some .cell ∧ (relabel scope env).names.lookup x = some .cell
theorem compEnter_ {scope : Scope} {cl : List (Str × Addr)} {E : Value → Shared → Prop} {QQ : Env → Shared → Prop} (R : Rel c σ s.heap) (Ev : EnvR c σ env ρ s.heap) (H : CompOk env ρ scope cl ρc)
    (h : ∀ cenv h' tk, { cenv with scope := relabel scope env } = compEnvC scope cl s.heap.objs.size env → cenv.locals = s.heap.objs.size → Rel c σ h' → EnvR c σ (compEnvC scope cl s.heap.objs.size env) ρc h' → (∀ b o, s.heap.get? b = some o → h'.get? b = some o) → h'.objs.size = s.heap.objs.size + 1 → QQ cenv (at_ s h' tk)) :
    wpAny M A (newFunctionEnv scope env.globals cl [] env.qual none .none (some env)) QQ E s := by
  simp only [newFunctionEnv, Option.isSome_some, if_true]
  refine wpAny_bind (wpAny_alloc ?_)
  refine wpAny_bind (wpAny_layCells _ (fun name kind cells => by cases hkc : kind == NameKind.cell <;> simp [hkc]) _ _ _ _ ?_)
  rw [pushCells_no _ _ H.nocell, cellsFrom_no _ _ _ H.nocell]
  refine wpAny_bind (wpAny_pure ?_)
  refine wpAny_pure ?_
  have hk : ∀ b o, s.heap.get? b = some o → (s.heap.push { cls := .type "dict", data := .dict #[] }).get? b = some o := fun b o e => Heap.get?_push_of_some _ e
  have hL : (s.heap.push { cls := .type "dict", data := .dict #[] }).get? s.heap.objs.size = some { cls := .type "dict", data := .dict #[] } := Heap.get?_push_size _ rfl
  have R1 : Rel c σ (s.heap.push { cls := .type "dict", data := .dict #[] }) := R.push _
  have E1 := Ev.ext R (Ext.push _ { cls := .type "dict", data := .dict #[] }) (.refl _ _)
  refine h _ _ (tks s) rfl rfl R1 ?_ hk (Heap.size_push ..)
  obtain ⟨m, hn, hv⟩ := E1.vars
  refine ⟨H.kind, E1.glob, E1.blt, ⟨R.fresh, R.size⟩, fun x k e => E1.cells x k (H.sub x k e), H.apart, ⟨fun _ => none, ⟨_, #[], 0, hL, rfl, fun e he => by simp at he, fun _ => rfl⟩, fun x v hm => ?_⟩, H.nodup, fun x hx => H.keys x hx, .inr ⟨_, hL, (show Value.type "dict" ≠ _ by decide)⟩, E1.hand⟩
  obtain ⟨m1, m2, m3⟩ := H.vars x v hm
  rcases H.keys x (List.mem_map.mpr ⟨_, hm, rfl⟩) with q | ⟨q, k, hk'⟩
  · rw [m3] at q; cases q
  · rcases hv x v m1 with ⟨k1, _⟩ | ⟨k1, k2, z, e1, e2, e3⟩
    · rw [m2] at k1; cases k1
    · have := H.sub x k hk'
      rw [this] at e1; cases e1
      exact .inr ⟨m3, k, z, hk', e2, e3⟩
end
end Mine

-- part P21
namespace Mine
section
variable {c : Cx} {N : Lv} {env : Env} {ρ ρc : Rho} {σ σ' : Sig} {Q : V → Sig → Prop} {X : Exn → Sig → Prop} {M : Model} {A : Around} {s : Shared}
noncomputable abbrev NoX : Exn → Sig → Prop := fun _ _ => False
theorem noX {EE : Value → Shared → Prop} : XPost c σ s NoX EE := fun _ _ _ _ _ q => q.elim
/-- the tests of a comprehension -/
noncomputable def CompT (c : Cx) (N : Lv) (env : Env) (ρ : Rho) (σ : Sig) (K : Bool → Sig → Prop) : List PySem.Expr → Prop
  | [] => K true σ
  | [t] => TG c N env ρ t σ K NoX
  | _ => False
theorem compT_run {ifs : List PySem.Expr} {K : Bool → Sig → Prop} {QQ : Bool → Shared → Prop} {EE : Value → Shared → Prop} (g : CompT c N env ρ σ K ifs) (a : AOk c N A σ s.heap) (R : Rel c σ s.heap) (E : EnvR c σ env ρ s.heap)
    (h : ∀ b σ' h' tk', K b σ' → AOk c N A σ' h' → Rel c σ' h' → EnvR c σ' env ρ h' → Ext (dom σ) s.heap h' → Grown σ s.heap σ' → QQ b (at_ s h' tk')) :
    wpAny (model c.prog c.w) A (forIn ifs true fun c r => if r = true then do let ok ← isTrue c env (eval c env); pure (ForInStep.yield ok) else pure (ForInStep.yield r)) QQ EE s := by
  match ifs, g with
  | [], g => exact wpAny_tests_nil (h true σ s.heap (tks s) g a R E (.refl _) (.refl _ _))
  | [t], g => exact wpAny_tests_one (G.run g a R E noX fun b b' σ' h' tk' q r a' R' E' x gr => by subst r; exact h b' σ' h' tk' q a' R' E' x gr)
theorem comp_core {elt target iter : PySem.Expr} {ifs : List PySem.Expr} {scope : Scope} {pos : Pos} {cl : List (Str × Addr)} {F : List V → Sig → Prop} (hhn : N.hn = true) (H : CompOk env ρ scope cl ρc) (hloc : ∀ x ∈ names target, (relabel scope env).names.lookup x = some .local) (hfree : ∀ x v, (x, some v) ∈ ρc → x ∉ names target)
    (g : IterG c N env ρ iter σ (fun l Need tg σ1 => tg target ∧ ∃ Inv : List V → List V → Sig → Prop, Inv l [] σ1 ∧
        (∀ C v l acc σ1, Inv (v :: l) acc σ1 → Need σ1 ∧ acc.length < 1000000 ∧ ∃ ρ2, Takes target v ρc ρ2 ∧ CompT c N (compEnvC scope cl C env) ρ2 σ1 (fun b σ2 => match b with | true => EvG c N (compEnvC scope cl C env) ρ2 elt σ2 (fun u σ3 => Inv l (acc ++ [u]) σ3) NoX | false => Inv l acc σ2) ifs) ∧
        (∀ acc σ1, Inv [] acc σ1 → Need σ1 ∧ F acc σ1)) X)
    (hs : ∀ x, foldedSetIterable iter env x = pure x) {EE : Value → Shared → Prop} {QQ : Value → Shared → Prop} {use : Option (Value → Sem Unit)} (ak : AOk c N A σ s.heap) (R : Rel c σ s.heap) (E : EnvR c σ env ρ s.heap) (xp : XPost c σ s X EE)
    (fin : ∀ acc σ1 D C h tk, F acc σ1 → σ1 D = none → c.S.objs.size ≤ D → s.heap.objs.size ≤ D → C ≠ D → s.heap.objs.size ≤ C → Rel c σ1 h → AOk c N A σ1 h → EnvR c σ1 (compEnvC scope cl C env) ρc h → Ext (dom σ) s.heap h → Grown σ s.heap σ1 → (∃ ys, h.PlainList D ys ∧ VRs h acc ys.toList) → compPost (model c.prog c.w) A EE use QQ (.ref D) C (.ok .next) (at_ s h tk)) :
    wpAny (model c.prog c.w) A (comprehension (.ListComp elt [⟨target, iter, ifs, 0⟩] scope pos) scope env (firstIterPos [⟨target, iter, ifs, 0⟩] pos) (newList []) (firstAsync [⟨target, iter, ifs, 0⟩]) (firstIter [⟨target, iter, ifs, 0⟩] env) use) QQ EE s := by
  refine wpAny_comprehension_free rfl hs H.clos H.kind H.locs (g A s _ EE ak R E xp fun l Need tg I W St σ0 h0 tk0 ⟨htg, Inv, q0, qs, qd⟩ it st R0 x0 gr0 wn => ?_)
  have E0 := E.ext R x0 gr0
  have a0 := ak.ext x0 gr0
  -- the list
  refine wpAny_newObj_type ?_ (by size_fits)
  generalize hD : (at_ s h0 tk0).heap.objs.size = D
  have hDf : σ0 D = none := by rw [← hD]; exact R0.fresh
  have hDS : c.S.objs.size ≤ D := by rw [← hD]; exact R0.size
  have hDs : s.heap.objs.size ≤ D := by rw [← hD]; exact x0.size
  have x1 : Ext (dom σ) s.heap (h0.push { cls := .type "list", data := .seq ([] : List Value).toArray }) := x0.trans (B' := dom σ) (.push _ _) fun _ q => .inl q
  have kD : ∀ b o, h0.get? b = some o → (h0.push { cls := .type "list", data := .seq ([] : List Value).toArray }).get? b = some o := fun b o e => Heap.get?_push_of_some _ e
  have hDl : (h0.push { cls := .type "list", data := .seq ([] : List Value).toArray }).PlainList D #[] := ⟨_, by rw [← hD]; exact Heap.get?_push_size _ rfl⟩
  have R1 : Rel c σ0 (h0.push { cls := .type "list", data := .seq ([] : List Value).toArray }) := R0.push _
  have px : Ext (dom σ0) h0 (h0.push { cls := .type "list", data := .seq ([] : List Value).toArray }) := .push _ _
  have E1 := E0.ext R0 px (.refl _ _)
  have a1 := a0.ext px (.refl _ _)
  have st1 : St l (h0.push { cls := .type "list", data := .seq ([] : List Value).toArray }) := it.frame l _ _ _ st px R0.noTup fun a w q => q (wn a w)
  show wpAny _ _ _ _ _ (at_ s (h0.push { cls := .type "list", data := .seq ([] : List Value).toArray }) tk0)
  generalize hH : h0.push { cls := .type "list", data := .seq ([] : List Value).toArray } = H1 at *
  refine compEnter_ (s := at_ s H1 tk0) R1 E1 { H with } fun cenv h2 tk2 hce hcl R2 E2 k2 hz2 => ?_
  rw [hce, hcl]
  generalize hC : (at_ s H1 tk0).heap.objs.size = C at *
  have hCs : s.heap.objs.size ≤ C := by rw [← hC]; exact x1.size
  have hCf : σ0 C = none := E2.loc.1
  have hCD : C ≠ D := by
    rw [← hC]
    obtain ⟨n, e⟩ := hDl
    exact Nat.ne_of_gt (Heap.lt_size e)
  have px2 : Ext (dom σ0) H1 h2 := ⟨fun a o _ e => ⟨o, k2 a o e, .refl o⟩, by rw [hz2]; exact Nat.le_trans (Nat.le_of_eq hC) (Nat.le_succ _)⟩
  have x2 : Ext (dom σ) s.heap h2 := x1.trans px2 (dom_back gr0)
  have a2 := a1.ext px2 (.refl _ _)
  have st2 : St l h2 := it.frame l _ _ _ st1 px2 R1.noTup fun a w q => q (wn a w)
  have hDl2 : h2.PlainList D #[] := hDl.at fun o e => k2 _ o e
  have main : ∀ s3 : Shared, s3 = at_ s h2 tk2 → codeAny (model c.prog c.w) A (.compLoop (.ListComp elt [⟨target, iter, ifs, 0⟩] scope pos) 0 (.ref I) (.ref D) (compEnvC scope cl C env)) (compPost (model c.prog c.w) A EE use QQ (.ref D) C) s3 := by
    rintro s3 rfl
    refine compLoop_any (fun n s' => ∃ l acc σ1 h tk ys, s' = at_ s h tk ∧ Inv l acc σ1 ∧ AOk c N A σ1 h ∧ Rel c σ1 h ∧ EnvR c σ1 (compEnvC scope cl C env) ρc h ∧ Ext (dom σ) s.heap h ∧ Grown σ s.heap σ1 ∧ St l h ∧ (∀ a, W a → σ1 a = none) ∧ h.PlainList D ys ∧ VRs h acc ys.toList ∧ σ1 D = none ∧ n = l.length) ?_ l.length
      ⟨l, [], σ0, h2, tk2, #[], rfl, q0, a2, R2, E2, x2, gr0, st2, wn, hDl2, .nil, hDf, rfl⟩
    rintro n s' ⟨l, acc, σ1, h, tk, ys, rfl, qI, a1, R1, E1, x1, gr1, st, wn, hl, hr, hDn, rfl⟩
    cases l with
    | nil =>
      obtain ⟨nd, q⟩ := qd acc σ1 qI
      refine it.done' (σ := σ1) (a1.han hhn) R1 nd wn st fun h3 tk3 f => ?_
      have R3 := f.rel R1
      have E3 := f.envR E1
      have X3 := f.toExt x1 (Nat.le_refl _)
      have hk3 : ∀ xs, h.PlainList D xs → h3.PlainList D xs := fun xs ⟨n, e⟩ => by
        obtain ⟨o', e', lk⟩ := f.ext.keep D _ (fun q => by
          rcases q.2.2.2 with q | ⟨o, us, q1, q2⟩
          · exact absurd (Heap.lt_size e) (Nat.not_lt.mpr q)
          · have q1 : h.get? D = some o := q1
            rw [e] at q1; cases q1; cases q2) e
        have := lk.eq (show Value.type "list" ≠ _ by decide)
        subst this
        exact ⟨n, e'⟩
      exact fin acc σ1 D C h3 tk3 q hDn hDS hDs hCD hCs R3 (f.ok a1) E3 X3 gr1 ⟨ys, hk3 ys hl, VRs.ext FB.noTup f.ext hr⟩
    | cons v l =>
      obtain ⟨nd, hal, ρ2, tk', g2⟩ := qs C v l acc σ1 qI
      refine it.step' (σ := σ1) (a1.han hhn) htg R1 nd wn st (fun x s1 z => z) fun x h3 tk3 r st3 f => ?_
      have R3 := f.rel R1
      have E3 := f.envR E1
      have a3 := f.ok a1
      have X3 := f.toExt x1 (Nat.le_refl _)
      have hk3 : h3.PlainList D ys := by
        obtain ⟨n, e⟩ := hl
        obtain ⟨o', e', lk⟩ := f.ext.keep D _ (fun q => by
          rcases q.2.2.2 with q | ⟨o, us, q1, q2⟩
          · exact absurd (Heap.lt_size e) (Nat.not_lt.mpr q)
          · have q1 : h.get? D = some o := q1
            rw [e] at q1; cases q1; cases q2) e
        have := lk.eq (show Value.type "list" ≠ _ by decide)
        subst this
        exact ⟨n, e'⟩
      have hr3 : VRs h3 acc ys.toList := VRs.ext FB.noTup f.ext hr
      refine takes_ (s := at_ s h3 tk3) (B := fun a => a = C) (fun a q => .inl q) (a3.han hhn) tk' (fun x hx => storeL_ok (hloc x hx)) R3 E3 r fun h4 tk4 R4 E4 x4 => ?_
      have x4' : Ext (both σ1 (compEnvC scope cl C env)) h3 h4 := x4.mono fun _ q => .inr (.inl q)
      have a4 := a3.ext2 E3 x4' (.refl _ _) E4
      have st4 : St l h4 := it.frame l h3 h4 _ st3 x4' (both_noTup R3 E3) (notBoth it st3 E3 wn)
      have X4 : Ext (dom σ) s.heap h4 := X3.trans x4 fun a q => .inr (by subst q; exact hCs)
      have plain : ∀ {ha hb : Heap} {B : Addr → Prop} {xs}, Ext B ha hb → ¬ B D → ha.PlainList D xs → hb.PlainList D xs := fun x hb ⟨n, e⟩ => by
        obtain ⟨o', e', lk⟩ := x.keep D _ hb e
        have := lk.eq (show Value.type "list" ≠ _ by decide)
        subst this
        exact ⟨n, e'⟩
      have hl4 := plain x4 hCD.symm hk3
      have hr4 : VRs h4 acc ys.toList := VRs.ext (fun a xs q t => by subst q; exact E3.mine_noTup _ xs (.inl rfl) t) x4 hr3
      have wl : ∀ {hh}, St l hh → ∀ a, W a → a < hh.objs.size := fun st a w => by obtain ⟨o, us, ho, _⟩ := it.rec_ l _ st a w; exact Heap.lt_size ho
      have back : ∀ {σ2 : Sig} {hh : Heap}, EnvR c σ2 (compEnvC scope cl C env) ρ2 hh → EnvR c σ2 (compEnvC scope cl C env) ρc hh := fun Ev => Ev.weak tk'.keys.symm fun x v q => tk'.other (hfree x v q) q
      refine compT_run (s := at_ s h4 tk4) g2 a4 R4 E4 fun b σ2 h5 tk5 g3 a5 R5 E5 x5 gr5 => ?_
      have st5 : St l h5 := it.frame l h4 h5 _ st4 x5 R4.noTup fun a w q => q (wn a w)
      have X5 : Ext (dom σ) s.heap h5 := X4.trans x5 (dom_back gr1)
      have G5 : Grown σ s.heap σ2 := gr1.trans gr5 X4.size
      have w5 : ∀ a, W a → σ2 a = none := fun a w => grown_none gr5 (wn a w) (wl st4 a w)
      have hl5 := plain x5 (fun q => q hDn) hl4
      have hr5 : VRs h5 acc ys.toList := R4.vrs x5 hr4
      have hD5 : σ2 D = none := grown_none gr5 hDn (by obtain ⟨n, e⟩ := hl4; exact Heap.lt_size e)
      cases b with
      | false =>
        rw [if_neg (by decide)]
        exact ⟨l.length, by simp, l, acc, σ2, h5, tk5, ys, rfl, g3, a5, R5, back E5, X5, G5, st5, w5, hl5, hr5, hD5, rfl⟩
      | true =>
        rw [if_pos rfl]
        refine G.run (s := at_ s h5 tk5) g3 a5 R5 E5 noX fun u y σ3 h6 tk6 g4 r6 a6 R6 E6 x6 gr6 => ?_
        have st6 : St l h6 := it.frame l h5 h6 _ st5 x6 R5.noTup fun a w q => q (w5 a w)
        have X6 : Ext (dom σ) s.heap h6 := X5.trans x6 (dom_back G5)
        have G6 : Grown σ s.heap σ3 := G5.trans gr6 X5.size
        have w6 : ∀ a, W a → σ3 a = none := fun a w => grown_none gr6 (w5 a w) (wl st5 a w)
        have hl6 := plain x6 (fun q => q hD5) hl5
        have hr6 : VRs h6 acc ys.toList := R5.vrs x6 hr5
        have hD6 : σ3 D = none := grown_none gr6 hD5 (by obtain ⟨n, e⟩ := hl5; exact Heap.lt_size e)
        have hlen : ys.size = acc.length := by rw [← Array.length_toList, hr6.length]
        refine wpAny_list_append_plain (hsz := by rw [hlen, sizeLine_is]; omega) hl6 fun h7 hl7 hs7 => ?_
        have x7 : Ext (fun a => a = D) h6 h7 := .same hs7 (.inl rfl)
        have n7 : NoTup (fun a => a = D) h6 := fun a xs q ⟨o, e, hc, _⟩ => by
          subst q; obtain ⟨n, e'⟩ := hl6; rw [e] at e'; cases e'; exact absurd hc (show Value.type "list" ≠ _ by decide)
        have b7 : ∀ a o, a = D → h6.get? a = some o → (∀ es n, o.data ≠ .dict es n) ∧ ∀ v, o.data ≠ .cell v := fun a o q e => by
          subst q; obtain ⟨n, e'⟩ := hl6; rw [e] at e'; cases e'; exact And.intro (fun es m q => nomatch q) (fun v q => nomatch q)
        refine ⟨l.length, by simp, l, acc ++ [u], σ3, h7, tk6, ys.push y, rfl, g4, a6.off x7 fun a o q e => (b7 a o q e).1, R6.same hs7 hD6 hDS fun xs t => n7 _ xs rfl t, back (E6.off x7 n7 b7), X6.trans x7 fun a q => .inr (by subst q; exact hDs), G6, it.frame l h6 h7 _ st6 x7 n7 fun a w q => ?_, w6, hl7, ?_, hD6, rfl⟩
        · subst q
          obtain ⟨o, us, ho, hd⟩ := it.rec_ l h6 st6 a w
          obtain ⟨n, e⟩ := hl6
          rw [e] at ho; cases ho; cases hd
        · rw [Array.toList_push]
          exact (VRs.ext n7 x7 hr6).snoc (VR.ext n7 x7 r6)
  exact codeAny_compStart_list (main _ rfl) (it.self l A _ _ _ st2 (main _ rfl))
theorem G_listcomp {elt target iter : PySem.Expr} {ifs : List PySem.Expr} {scope : Scope} {pos : Pos} {cl : List (Str × Addr)} (hhn : N.hn = true) (H : CompOk env ρ scope cl ρc) (hloc : ∀ x ∈ names target, (relabel scope env).names.lookup x = some .local) (hfree : ∀ x v, (x, some v) ∈ ρc → x ∉ names target)
    (g : IterG c N env ρ iter σ (fun l Need tg σ1 => tg target ∧ ∃ Inv : List V → List V → Sig → Prop, Inv l [] σ1 ∧
        (∀ C v l acc σ1, Inv (v :: l) acc σ1 → Need σ1 ∧ acc.length < 1000000 ∧ ∃ ρ2, Takes target v ρc ρ2 ∧ CompT c N (compEnvC scope cl C env) ρ2 σ1 (fun b σ2 => match b with | true => EvG c N (compEnvC scope cl C env) ρ2 elt σ2 (fun u σ3 => Inv l (acc ++ [u]) σ3) NoX | false => Inv l acc σ2) ifs) ∧
        (∀ acc σ1, Inv [] acc σ1 → Need σ1 ∧ ∀ D, σ1 D = none → Q (.raw (.ref D)) (upd σ1 D (.list acc)))) X)
    (hs : ∀ x, foldedSetIterable iter env x = pure x := by intro _; rfl) : EvG c N env ρ (.ListComp elt [⟨target, iter, ifs, 0⟩] scope pos) σ Q X := fun A s QQ EE ak R E p xp => by
  rw [eval_ListComp]
  refine comp_core hhn H hloc hfree g hs ak R E xp fun acc σ1 D C h3 tk3 q hDn hDS hDs hCD hCs R3 a3 E3 X3 gr1 ⟨ys, hl, hr⟩ => ?_
  obtain ⟨m, hns, _⟩ := E3.vars
  refine ⟨m, hns, fun h4 hs4 => ?_⟩
  have X4' : Ext (fun a => a = C) h3 h4 := .same hs4 (.inl rfl)
  have R4 : Rel c σ1 h4 := R3.same hs4 E3.loc.1 E3.loc.2 fun xs t => E3.mine_noTup _ xs (.inl rfl) t
  have X4 : Ext (dom σ) s.heap h4 := X3.trans X4' fun a q => .inr (by subst q; exact hCs)
  obtain ⟨n, e⟩ := hl
  have hn4 : NoTup (fun a => a = C) h3 := fun a xs q t => by subst q; exact E3.mine_noTup _ xs (.inl rfl) t
  exact p (.raw (.ref D)) (.ref D) (upd σ1 D (.list acc)) h4 tk3 (q D hDn) (by simp only [VR]) (R4.add hDS ⟨ys, ⟨n, (hs4.2 D hCD.symm).trans e⟩, VRs.ext hn4 X4' hr⟩) X4 (gr1.trans (.upd (.inr hDs)) (Nat.le_refl _))
end
end Mine

-- part P22
namespace Mine
section
variable {c : Cx} {N : Lv} {env : Env} {ρ : Rho} {σ : Sig} {Q : V → Sig → Prop} {X : Exn → Sig → Prop}
theorem ext_grow {h h' : Heap} {B : Addr → Prop} (hk : ∀ b o, h.get? b = some o → h'.get? b = some o) (hs : h.objs.size ≤ h'.objs.size) : Ext B h h' := ⟨fun a o _ e => ⟨o, hk a o e, .refl o⟩, hs⟩
theorem Post.grew {s : Shared} {QQ : Value → Shared → Prop} (p : Post c σ s VR Q QQ) (R : Rel c σ s.heap) {v : V} {y : Value} {h' : Heap} {tk : Tk} (q : Q v σ) (r : VR h' v y) (hk : ∀ b o, s.heap.get? b = some o → h'.get? b = some o) (hs : s.heap.objs.size ≤ h'.objs.size) : QQ y (at_ s h' tk) :=
  p v y σ h' tk q r (R.grow hk hs) (ext_grow hk hs) (.refl _ _)

theorem B_len_tup {l : List V} (q : Q (.int l.length) σ) (hz : l.length ≤ 1000000) : CallOp c N σ (.builtin "len") [.tup l] Q X := fun A s QQ EE ys a R r p xp => by
  simp only [VRs] at r
  obtain ⟨x, _, rfl, r, rfl⟩ := r
  simp only [VR] at r
  obtain ⟨t, xs, rfl, ht, r⟩ := r
  have hl : xs.size = l.length := by rw [← Array.length_toList, r.length]
  exact len_tuple ht.lib (by rw [hl]; omega) (p.tok R q (by simp only [VR]; exact ⟨_, by rw [hl]⟩))
theorem B_len_list {d : Addr} {l : List V} (q : Q (.int l.length) σ) (hl : LR c σ d l) (hz : l.length ≤ 1000000) : CallOp c N σ (.builtin "len") [.raw (.ref d)] Q X := fun A s QQ EE ys a R r p xp => by
  simp only [VRs] at r
  obtain ⟨x, _, rfl, r, rfl⟩ := r
  simp only [VR] at r; subst r
  obtain ⟨xs, hx, r⟩ := hl.real R
  have hl : xs.size = l.length := by rw [← Array.length_toList, r.length]
  exact call_len_list hx (by rw [hl]; omega) (p.tok R q (by simp only [VR]; exact ⟨_, by rw [hl]⟩))
theorem B_tuple_list {d : Addr} {l : List V} (q : Q (.tup l) σ) (hl : LR c σ d l) (hz : l.length ≤ 1000000) : CallOp c N σ (.type "tuple") [.raw (.ref d)] Q X := fun A s QQ EE ys a R r p xp => by
  simp only [VRs] at r
  obtain ⟨x, _, rfl, r, rfl⟩ := r
  simp only [VR] at r; subst r
  obtain ⟨xs, hx, r⟩ := hl.real R
  have hl : xs.size = l.length := by rw [← Array.length_toList, r.length]
  refine sized (call_tuple_list hx (fun h' hk hs => ?_) (by rw [hl, sizeLine_is]; omega))
  have hk' : ∀ b o, s.heap.get? b = some o → (h'.push { cls := .type "tuple", data := .seq xs }).get? b = some o := fun b o e => Heap.get?_push_of_some _ (hk b o e)
  exact p.grew (tk := tks s) R q (by simp only [VR]; exact ⟨_, xs, rfl, .new _ _, R.vrs (ext_grow hk' hs) r⟩) hk' hs
theorem B_tuple_tup {l : List V} (q : Q (.tup l) σ) : CallOp c N σ (.type "tuple") [.tup l] Q X := fun A s QQ EE ys a R r p xp => by
  simp only [VRs] at r
  obtain ⟨x, _, rfl, r, rfl⟩ := r
  have r0 := r
  simp only [VR] at r
  obtain ⟨t, xs, rfl, ht, r⟩ := r
  exact call_tuple_tup ht.lib (p.here R q r0)
theorem newList_post {s : Shared} {QQ : Value → Shared → Prop} (p : Post c σ s VR Q QQ) (R : Rel c σ s.heap) {h' : Heap} {tk : Tk} {l : List V} {xs : Array Value} {n : Nat} (q : ∀ d, σ d = none → Q (.raw (.ref d)) (upd σ d (.list l))) (hk : ∀ b o, s.heap.get? b = some o → h'.get? b = some o) (hs : s.heap.objs.size ≤ h'.objs.size)
    {D : Addr} (hD : s.heap.objs.size ≤ D) (e : h'.get? D = some { cls := .type "list", dict := none, data := .seq xs n, slots := #[] }) (r : VRs s.heap l xs.toList) : QQ (.ref D) (at_ s h' tk) := by
  have f : σ D = none := by
    cases e : σ D with
    | none => rfl
    | some m => exact absurd (R.lt (a := D) (by rw [e]; simp)) (Nat.not_lt.mpr hD)
  exact p (.raw (.ref D)) _ (upd σ D (.list l)) h' tk (q _ f) (by simp only [VR]) ((R.grow hk hs).add (Nat.le_trans R.size hD) ⟨xs, ⟨n, e⟩, R.vrs (ext_grow hk hs) r⟩) (ext_grow hk hs) (.upd (.inr hD))
theorem B_list_list {d : Addr} {l : List V} (q : ∀ d, σ d = none → Q (.raw (.ref d)) (upd σ d (.list l))) (hl : LR c σ d l) (hz : l.length ≤ 1000000) : CallOp c N σ (.type "list") [.raw (.ref d)] Q X := fun A s QQ EE ys a R r p xp => by
  simp only [VRs] at r
  obtain ⟨x, _, rfl, r, rfl⟩ := r
  simp only [VR] at r; subst r
  obtain ⟨xs, ⟨o, ho, hc, n, hd⟩, r⟩ := hl.real R
  have hl : xs.size = l.length := by rw [← Array.length_toList, r.length]
  exact sized (call_list_seq d (.inl rfl) ho hc hd (fun h' c' hk e hs => newList_post (tk := tks s) p R q hk hs (Nat.le_refl _) e r) (by rw [hl, sizeLine_is]; omega))
theorem B_list_tup {l : List V} (q : ∀ d, σ d = none → Q (.raw (.ref d)) (upd σ d (.list l))) (hz : l.length ≤ 1000000) : CallOp c N σ (.type "list") [.tup l] Q X := fun A s QQ EE ys a R r p xp => by
  simp only [VRs] at r
  obtain ⟨x, _, rfl, r, rfl⟩ := r
  simp only [VR] at r
  obtain ⟨t, xs, rfl, ⟨o, ho, hc, _, n, hd⟩, r⟩ := r
  have hl : xs.size = l.length := by rw [← Array.length_toList, r.length]
  exact sized (call_list_seq t (.inr rfl) ho hc hd (fun h' c' hk e hs => newList_post (tk := tks s) p R q hk hs (Nat.le_refl _) e r) (by rw [hl, sizeLine_is]; omega))
theorem B_int {i : Int} (q : Q (.int i) σ) : CallOp c N σ (.type "int") [.int i] Q X := fun A s QQ EE ys a R r p xp => by
  simp only [VRs] at r
  obtain ⟨x, _, rfl, r, rfl⟩ := r
  have r0 := r
  simp only [VR] at r
  obtain ⟨t, rfl⟩ := r
  exact call_int_int (p.here R q r0)
theorem changed_post {s : Shared} {QQ : Value → Shared → Prop} (p : Post c σ s VR Q QQ) (R : Rel c σ s.heap) {h' : Heap} {tk : Tk} {d : Addr} {m m' : MO} (e : σ d = some m) (q : Q .none (upd σ d m')) (hs : Heap.SameBut d s.heap h') (hm : MR c.prog c.w h' d m') : QQ .none (at_ s h' tk) :=
  p .none .none (upd σ d m') h' tk q (by simp only [VR]) (R.change e hs hm) (.same hs (.inl (by show σ d ≠ none; rw [e]; simp))) (.upd (.inl (by rw [e]; simp)))
theorem VRs.same {s : Shared} {h' : Heap} {d : Addr} {m : MO} (R : Rel c σ s.heap) (e : σ d = some m) (hs : Heap.SameBut d s.heap h') {l : List V} {xs : List Value} (r : VRs s.heap l xs) : VRs h' l xs := R.vrs (.same hs (.inl (by show σ d ≠ none; rw [e]; simp))) r
theorem B_extend {d b : Addr} {l m : List V} (e : σ d = some (.list l)) (e2 : σ b = some (.list m)) (q : Q .none (upd σ d (.list (l ++ m)))) (hz : l.length + m.length ≤ 1000000) : CallOp c N σ (.builtin "list.extend") [.raw (.ref d), .raw (.ref b)] Q X := fun A s QQ EE ys a R r p xp => by
  simp only [VRs] at r
  obtain ⟨x, _, rfl, r, y, _, rfl, ry, rfl⟩ := r
  simp only [VR] at r ry; subst r ry
  obtain ⟨xs, ⟨n, ho⟩, r⟩ := (R.obj d _ e).2
  obtain ⟨zs, ⟨k, hb⟩, rz⟩ := (R.obj b _ e2).2
  have hl : xs.size = l.length := by rw [← Array.length_toList, r.length]
  have hl2 : zs.size = m.length := by rw [← Array.length_toList, rz.length]
  have hsz : xs.size + zs.size ≤ sizeLine := by rw [hl, hl2, sizeLine_is]; omega
  refine call_meets PySem.F.slot_list_extend ⟨_, ho, rfl⟩ PySem.F.entry_list_extend (PySem.F.args_list_extend_2 _ _) (AutoSeq1.list_extend_list_list_0 d xs n b zs k (extend_door hsz) (Nat.le_trans (Nat.le_add_right _ _) hsz)) ⟨ho, hb, ?_⟩
  have hs : Heap.SameBut d s.heap (s.heap.update d (Obj.mapSeq fun x => x ++ zs)) := .update ..
  refine changed_post (tk := tks s) p R e q hs ⟨xs ++ zs, ⟨_, Heap.get?_update_self _ ho (by rw [mapSeq_app]; rfl)⟩, ?_⟩
  rw [Array.toList_append]
  exact (VRs.same R e hs r).append (VRs.same R e hs rz)
/-- methods of lists and dicts -/
theorem M_list {d : Addr} {l : List V} {name : Str} {id : String} (e : σ d = some (.list l)) (sl : Slot "list" name id) (ty : typeOf (.builtin id) = pure (.type "method_descriptor")) : MethOp c N σ (.raw (.ref d)) name (.builtin id) := fun A s EE x pl QQ ak R r q => by
  simp only [VR] at r; subst r
  obtain ⟨xs, ⟨n, ho⟩, r⟩ := (R.obj d _ e).2
  exact getMethod_builtin (T := "list") ⟨_, ho, rfl⟩ PySem.F.plainAttrs_list sl ty (fun a e => by cases e; exact ⟨_, ho, rfl⟩) q
theorem M_dict {d : Addr} {l : List (Str × V)} {name : Str} {id : String} (e : DR c σ d l) (sl : Slot "dict" name id) (ty : typeOf (.builtin id) = pure (.type "method_descriptor")) : MethOp c N σ (.raw (.ref d)) name (.builtin id) := fun A s EE x pl QQ ak R r q => by
  simp only [VR] at r; subst r
  obtain ⟨kvs, hd, _⟩ := e.real R
  exact getMethod_builtin (T := "dict") hd.typeIs PySem.F.plainAttrs_dict sl ty hd.mapOf.noDict q
/-- in a tuple of data, in a list of data -/
noncomputable def hasV (l : List V) (v : V) : Bool := (toPs l).any fun y => PyData.eqv y (toP v)
theorem O_notInT {v : V} {l : List V} (q : Q (.bool (!hasV l v)) σ) (hv : tree v = true) (hl : trees l = true) (hd : 1 + min (PyData.depthAll (toPs l)) (toP v).depth ≤ 16 * N.n) : Op2 c N σ v (.tup l) (compareOp .NotIn) Q X := fun A s QQ EE x y ak R r1 r2 p xp => by
  obtain ⟨⟨as, q1⟩, c1⟩ := reads_of (.tup l) y r2 hl
  obtain ⟨⟨bs, q2⟩, c2⟩ := reads_of v x r1 hv
  simp only [toP] at q1
  simp only [toP, PyData.canLay0] at c1
  exact SeqAt.notIn_tuple_reads q1 q2 c1 c2 (by have := ak.dep hd; omega) (p.here R q (by simp only [VR, hasV]))
theorem O_notInL {v : V} {d : Addr} {l : List V} (q : Q (.bool (!hasV l v)) σ) (e : σ d = some (.list l)) (hv : tree v = true) (hl : trees l = true) (hd : 1 + min (PyData.depthAll (toPs l)) (toP v).depth ≤ 16 * N.n) : Op2 c N σ v (.raw (.ref d)) (compareOp .NotIn) Q X := fun A s QQ EE x y ak R r1 r2 p xp => by
  simp only [VR] at r2; subst r2
  obtain ⟨⟨as, q1⟩, c1⟩ := list_reads (R.obj d _ e).2 hl
  obtain ⟨⟨bs, q2⟩, c2⟩ := reads_of v x r1 hv
  simp only [PyData.canLay0] at c1
  exact SeqAt.notIn_list_reads q1 q2 c1 c2 (by have := ak.dep hd; omega) (p.here R q (by simp only [VR, hasV]))
/-- lists that can be read are compared -/
theorem lr_reads {h : Heap} {a : Addr} {l : List V} (R : Rel c σ h) (m : LR c σ a l) (ht : trees l = true) : (∃ as, Reads h (.ref a) (.list (toPs l)) as) ∧ PyData.canLay0 (.list (toPs l)) = true := by
  obtain ⟨xs, ⟨o, e, hc, n, hd⟩, r⟩ := m.real R
  obtain ⟨⟨as, q⟩, q2⟩ := reads_ofs l xs.toList r ht
  exact ⟨⟨_, .list e hc hd q⟩, by simp only [PyData.canLay0]; exact q2⟩
theorem O_eqLR {a b : Addr} {l m : List V} (q : Q (.bool (eqL l m)) σ) (ea : LR c σ a l) (eb : LR c σ b m) (ha : trees l = true) (hb : trees m = true) (hd : min (PyData.depthAll (toPs l)) (PyData.depthAll (toPs m)) + 1 ≤ 16 * N.n) :
    Op2 c N σ (.raw (.ref a)) (.raw (.ref b)) (compareOp .Eq) Q X := fun A s QQ EE x y ak R r1 r2 p xp => by
  simp only [VR] at r1 r2; subst r1 r2
  obtain ⟨⟨as, q1⟩, c1⟩ := lr_reads R ea ha
  obtain ⟨⟨bs, q2⟩, c2⟩ := lr_reads R eb hb
  exact SeqAt.eqOverData c.prog c.w A EE s _ _ _ _ as bs QQ q1 q2 c1 c2 (ak.dep (by simp only [PyData.depth]; omega)) (p.here R q (by simp only [VR, eqL, PyData.eqv]))
end
end Mine

-- part P23
namespace Mine
section
variable {c : Cx} {N : Lv} {env : Env} {ρ : Rho} {σ : Sig} {Q : V → Sig → Prop} {X : Exn → Sig → Prop} {SQ : GF → Rho → Sig → Prop} {SX : Exn → Rho → Sig → Prop}
/-- pairs of a display -/
noncomputable def PrR (c : Cx) (h : Heap) (l : List (Str × V)) (xs : List (Value × Value)) : Prop := ∃ kvs, Carries (strKind c.prog c.w) xs kvs ∧ PairsR h l kvs
noncomputable abbrev PairsG (c : Cx) (N : Lv) (env : Env) (ρ : Rho) (ks : List (Option PySem.Expr)) (vs : List PySem.Expr) (pos : Pos) (σ : Sig) (K : List (Str × V) → Sig → Prop) (X : Exn → Sig → Prop) : Prop := G c N env ρ σ (PrR c) (evalPairs (pairTrees ks vs env pos)) K X
theorem G_pairs_nil {pos : Pos} {K : List (Str × V) → Sig → Prop} (q : K [] σ) : PairsG c N env ρ [] [] pos σ K X := fun A s QQ EE a R E p xp =>
  pairTrees_nil_walk (p [] [] σ s.heap (tks s) q ⟨[], trivial, rfl⟩ R (.refl _) (.refl _ _))
theorem G_pairs_cons {k v : PySem.Expr} {ks : List (Option PySem.Expr)} {vs : List PySem.Expr} {pos : Pos} {K : List (Str × V) → Sig → Prop}
    (g : EvG c N env ρ k σ (fun a σ1 => ∃ x, a = .str x ∧ EvG c N env ρ v σ1 (fun u σ2 => PairsG c N env ρ ks vs pos σ2 (fun l σ3 => K ((x, u) :: l) σ3) X) X) X) : PairsG c N env ρ (some k :: ks) (v :: vs) pos σ K X := fun A s QQ EE a R E p xp =>
  pairTrees_cons_walk (g.run a R E xp fun a' y σ1 h1 tk1 ⟨x, e, g1⟩ r1 a1 R1 E1 x1 gr1 => g1.run a1 R1 E1 (xp.step x1 gr1) fun u z σ2 h2 tk2 g2 r2 a2 R2 E2 x2 gr2 =>
    g2.run a2 R2 E2 ((xp.step x1 gr1).step x2 gr2) fun l xs σ3 h3 tk3 q ⟨kvs, hc, hr⟩ a3 R3 E3 x3 gr3 => by
      subst e
      simp only [VR] at r1
      obtain ⟨_, t, rfl⟩ := r1
      exact ((p.step x1 gr1).step x2 gr2) _ _ σ3 h3 tk3 q ⟨(x, z) :: kvs, ⟨strKind_is c.prog c.w x t, rfl, hc⟩, ⟨z, kvs, rfl, R2.vr x3 r2, hr⟩⟩ R3 x3 gr3)
theorem nodup_of {h : Heap} {l : List (Str × V)} {kvs : List (Str × Value)} (r : PairsR h l kvs) (hn : (l.map (·.1)).Nodup) : (kvs.map (·.1)).Nodup := by rw [r.keys]; exact hn
theorem dictOf_keep {h h' : Heap} {D : Addr} {kvs : List (Str × Value)} {B : Addr → Prop} {prog : Program} {w : World} (d : h.DictOf (strKind prog w) D kvs) (x : Ext B h h') (hb : ¬ B D) : h'.DictOf (strKind prog w) D kvs := by
  obtain ⟨o, es, ep, e, hx, r⟩ := d
  obtain ⟨o', e', l⟩ := x.keep D o hb e
  have := l.eq (by rw [hx.1]; decide)
  subst this
  exact ⟨o', es, ep, e', hx, r⟩
theorem G_dict {ks : List (Option PySem.Expr)} {vs : List PySem.Expr} {pos : Pos} (hall : ks.all (·.isSome) = true) (hl : ks.length = vs.length) (h0 : ks ≠ []) (hlen : ks.length ≤ 15)
    (g : PairsG c N env ρ ks vs pos σ (fun l σ1 => (l.map (·.1)).Nodup ∧ ∀ D, σ1 D = none → Q (.raw (.ref D)) (upd σ1 D (.dict l))) X) : EvG c N env ρ (.Dict ks vs pos) σ Q X := fun A s QQ EE a R E p xp => by
  have px : Ext (dom σ) s.heap (s.heap.push { cls := .type "dict", data := .dict #[] }) := .push _ _
  have R1 := R.push { cls := .type "dict", data := .dict #[] }
  have E1 := E.ext R px (.refl _ _)
  have a1 := a.ext px (.refl _ _)
  have d0 : (s.heap.push { cls := .type "dict", data := .dict #[] }).DictOf (strKind c.prog c.w) s.heap.objs.size [] := Heap.DictOf.new s.heap
  refine wpAny_Dict_walk (knd := strKind c.prog c.w) hall hl h0 hlen ?_
  refine g.run (s := at_ s (s.heap.push { cls := .type "dict", data := .dict #[] }) (tks s)) a1 R1 E1 (xp.step px (.refl _ _)) fun l xs σ1 h1 tk1 ⟨hn, q⟩ ⟨kvs, hc, hr⟩ a2 R2 E2 x2 gr2 => ?_
  have hD : σ1 s.heap.objs.size = none := grown_none gr2 R.fresh (by show _ < (s.heap.push _).objs.size; rw [Heap.size_push]; exact Nat.lt_succ_self _)
  refine ⟨kvs, hc, dictOf_keep d0 x2 fun q => q R.fresh, fun h' hd hs => ?_⟩
  have hm : merged [] kvs = kvs := merged_nil_of_nodup kvs (nodup_of hr hn)
  rw [hm] at hd
  have nt : NoTup (fun a => a = s.heap.objs.size) h1 := fun a xs q ⟨o, e, hc, _⟩ => by
    subst q
    obtain ⟨o', es, ep, e', hx, _⟩ := dictOf_keep d0 x2 fun q => q R.fresh
    have e : h1.get? s.heap.objs.size = some o := e
    have e' : h1.get? s.heap.objs.size = some o' := e'
    rw [e] at e'; cases e'
    have := hx.1; rw [hc] at this; exact absurd this (by decide)
  have x3 : Ext (fun a => a = s.heap.objs.size) h1 h' := .same hs (.inl rfl)
  have R3 : Rel c σ1 h' := R2.same hs hD R.size fun xs t => nt _ xs rfl t
  have X3 : Ext (dom σ) s.heap h' := (px.trans x2 fun a q => .inl q).trans x3 fun a q => .inr (by subst q; exact Nat.le_refl _)
  exact p (.raw (.ref s.heap.objs.size)) _ (upd σ1 s.heap.objs.size (.dict l)) h' (tk1.1 + xs.length, tk1.2) (q _ hD) (by simp only [VR]) (R3.add R.size ⟨kvs, hd, PairsR.mono (fun a xs t => IsTup.ext nt x3 t) _ _ hr⟩) X3 (((Grown.refl σ s.heap).trans gr2 px.size).trans (.upd (.inr (Nat.le_refl _))) (Nat.le_refl _))

/-- a dict is stored into -/
theorem S_dictset {o i : PySem.Expr} {pos' pos : Pos} {e : PySem.Expr} (g : EvG c N env ρ e σ (fun v σ1 => EvG c N env ρ o σ1 (fun a σ2 => ∃ d l, a = .raw (.ref d) ∧ EvG c N env ρ i σ2 (fun k σ3 => ∃ x, k = .str x ∧ σ3 d = some (.dict l) ∧ l.length ≤ 900 ∧ SQ .next ρ (upd σ3 d (.dict (putA l x v)))) (fun ex σ' => SX ex ρ σ')) (fun ex σ' => SX ex ρ σ')) (fun ex σ' => SX ex ρ σ'))
    (hs : swapsWith e (some (.Subscript o i pos')) pos.line env = pure false := by rfl) : StG c N env ρ (.Assign [.Subscript o i pos'] e pos) σ SQ SX := fun A s QQ EE ot a R E p xp =>
  wpAny_Assign_Subscript (EvG.runS g a R E xp fun v y σ1 h1 tk1 g1 r1 a1 R1 E1 x1 gr1 => EvG.runS g1 a1 R1 E1 (xp.step x1.both gr1) fun u z σ2 h2 tk2 ⟨d, l, e1, g2⟩ r2 a2 R2 E2 x2 gr2 =>
    EvG.runS g2 a2 R2 E2 ((xp.step x1.both gr1).step x2.both gr2) fun k zk σ3 h3 tk3 ⟨x, e2, e3, hz, q⟩ rk a3 R3 E3 x3 gr3 => by
      subst e1 e2
      simp only [VR] at r2 rk
      subst r2
      obtain ⟨_, t, rfl⟩ := rk
      obtain ⟨kvs, hd, hr⟩ := (R3.obj d _ e3).2
      have hlen : kvs.length = l.length := hr.length
      refine wpAny_setItem_pairs (s := at_ (at_ (at_ s h1 tk1) h2 tk2) h3 tk3) (hsz := by rw [hlen, sizeLine_is]; omega) (strKind_is c.prog c.w x t) hd fun h4 hd4 hs => ?_
      have x4 : Ext (dom σ3) h3 h4 := .same hs (.inl (by show σ3 d ≠ none; rw [e3]; simp))
      have hn : (kvs.map (·.1)).Nodup := let ⟨_, _, _, _, _, _, _, _, hn⟩ := hd; hn
      have r4 : PairsR h4 (putA l x v) (stored kvs x y) := PairsR.mono (fun a xs t => IsTup.ext R3.noTup x4 t) _ _ (hr.put (R2.vr x3 (R1.vr x2 r1)) hn)
      have R4 := R3.change e3 hs (m' := .dict (putA l x v)) ⟨_, hd4, r4⟩
      have g4 : Grown σ3 h3 (upd σ3 d (.dict (putA l x v))) := .upd (.inl (by rw [e3]; simp))
      exact (((p.step x1.both gr1).step x2.both gr2).step x3.both gr3) .next .next ρ _ h4 (tk3.1 + 1, tk3.2) q rfl R4 (E3.ext R3 x4 g4) x4.both g4) hs
theorem B_dget {d : Addr} {l : List (Str × V)} {k : Str} {v : V} (hd : DR c σ d l) (q : Q ((assoc l k).getD v) σ) : CallOp c N σ (.builtin "dict.get") [.raw (.ref d), .str k, v] Q X := fun A s QQ EE ys a R r p xp => by
  simp only [VRs] at r
  obtain ⟨x, _, rfl, r, y, _, rfl, ry, z, _, rfl, rz, rfl⟩ := r
  simp only [VR] at r ry; subst r
  obtain ⟨_, t, rfl⟩ := ry
  obtain ⟨kvs, hm, hr⟩ := hd.real R
  have hlk := hr.at k
  have key : ∀ m : Value, ((valueAt kvs k).getD z) = m → VR s.heap ((assoc l k).getD v) m := fun m e => by
    subst e
    cases e : assoc l k with
    | none => rw [e] at hlk; rw [hlk]; exact rz
    | some u => rw [e] at hlk; obtain ⟨m, e1, e2⟩ := hlk; rw [e1]; exact e2
  exact call_meetsIn F.slot_dict_get hm.typeIs F.entry_dict_get (F.args_dict_get_3 _ _ _) (meets_dict_get_default (strKind c.prog c.w) d (strKind_is c.prog c.w k t) (beq_eq_false_iff_ne.mpr (hd.off R)) z) ⟨_, hm.mapOf, p.tok R q (key _ rfl)⟩
theorem newDict_post {s : Shared} {QQ : Value → Shared → Prop} (p : Post c σ s VR Q QQ) (R : Rel c σ s.heap) {h' : Heap} {tk : Tk} {l : List (Str × V)} {kvs : List (Str × Value)} {D : Addr} (q : ∀ d, σ d = none → Q (.raw (.ref d)) (upd σ d (.dict l))) (hk : ∀ b o, s.heap.get? b = some o → h'.get? b = some o) (hs : s.heap.objs.size ≤ h'.objs.size)
    (hD : s.heap.objs.size ≤ D) (hd : h'.DictOf (strKind c.prog c.w) D kvs) (r : PairsR s.heap l kvs) : QQ (.ref D) (at_ s h' tk) := by
  have f : σ D = none := by
    cases e : σ D with
    | none => rfl
    | some m => exact absurd (R.lt (a := D) (by rw [e]; simp)) (Nat.not_lt.mpr hD)
  exact p (.raw (.ref D)) _ (upd σ D (.dict l)) h' tk (q _ f) (by simp only [VR]) ((R.grow hk hs).add (Nat.le_trans R.size hD) ⟨kvs, hd, PairsR.mono (fun a xs t => t.keeps hk) _ _ r⟩) (ext_grow hk hs) (.upd (.inr hD))
theorem B_dict_dict {d : Addr} {l : List (Str × V)} (hd : DR c σ d l) (q : ∀ D, σ D = none → Q (.raw (.ref D)) (upd σ D (.dict l))) (hz : l.length ≤ 1000000) : CallOp c N σ (.type "dict") [.raw (.ref d)] Q X := fun A s QQ EE ys a R r p xp => by
  simp only [VRs] at r
  obtain ⟨x, _, rfl, r, rfl⟩ := r
  simp only [VR] at r; subst r
  obtain ⟨kvs, hm, hr⟩ := hd.real R
  refine PySem.kt_call_dict (beq_eq_false_iff_ne.mpr (hd.off R)) hm (by rw [hr.length, sizeLine_is]; omega) fun h' hd' hs => ?_
  have hk : ∀ b o, s.heap.get? b = some o → h'.get? b = some o := fun b o e => (hs.2 b (Nat.ne_of_lt (Heap.lt_size e))).trans (Heap.get?_push_of_some _ e)
  exact newDict_post (tk := tks s) p R q hk (by have := hs.1; rw [Heap.size_push] at this; omega) (Nat.le_refl _) hd' hr
end

section
variable {prog : Program} {w : World} {A : Around} {E : Value → Shared → Prop} {s : Shared}
theorem keys_list : typeLookup (.type "list") "keys" = pure none := am_miss_of_fast (by kernel_rfl)
theorem keys_tuple : typeLookup (.type "tuple") "keys" = pure none := am_miss_of_fast (by kernel_rfl)
theorem noKeys_list {a : Addr} {xs : Array Value} {k : Nat} {sl : Array (Option Value)} {Q : Option Value → Shared → Prop} (hx : s.heap.get? a = some { cls := .type "list", dict := none, data := .seq xs k, slots := sl }) (hA : A.handled = none)
    (h : ∀ h' tk, (∀ b o, s.heap.get? b = some o → h'.get? b = some o) → Q none { s with heap := h', toks := tk }) : wpAny (model prog w) A (getAttr? (.ref a) "keys") Q E s := by
  obtain ⟨hp, g, d, tk, os⟩ := s
  have hT : ∀ tk', (⟨hp, g, d, tk', os⟩ : Shared).TypeIs (.ref a) "list" := fun _ => ⟨_, hx, rfl⟩
  have f1 := sub_AttributeError
  have f3 := F.slot_list_getattribute.lookup
  have f4 := F.slot_list_getattribute.bind (.ref a)
  have f5 := am_list_getattr_none
  unfold getAttr? getAttrBy? getAttrBy
  repeat (any_goals (first | assumption | exact hT _ | ((with_reducible show wpAny _ _ (call (Value.builtin "list.__getattribute__") _ _) _ _ _); refine call_meets F.slot_list_getattribute (hT _) am_entry_list_getattribute (F.args_list_getattribute_2 _ _) (meets_getattribute_miss_list a xs k sl "keys" _ keys_list (by decide) (by decide)) ⟨hx, hA, fun h' tk' e hx' => ?_⟩) | wp_step))
  obtain ⟨t', u', he⟩ := hx'.there
  show wpAny _ _ (getattributeRaised _ _ _ _ _ _ _) _ _ _
  unfold getattributeRaised
  repeat (any_goals (first | assumption | wp_step))
  all_goals first | exact h _ _ hx'.keeps | trace_state
theorem noKeys_tuple {a : Addr} {xs : Array Value} {k : Nat} {sl : Array (Option Value)} {Q : Option Value → Shared → Prop} (hx : s.heap.get? a = some { cls := .type "tuple", dict := none, data := .seq xs k, slots := sl }) (hA : A.handled = none)
    (h : ∀ h' tk, (∀ b o, s.heap.get? b = some o → h'.get? b = some o) → Q none { s with heap := h', toks := tk }) : wpAny (model prog w) A (getAttr? (.ref a) "keys") Q E s := by
  obtain ⟨hp, g, d, tk, os⟩ := s
  have hT : ∀ tk', (⟨hp, g, d, tk', os⟩ : Shared).TypeIs (.ref a) "tuple" := fun _ => ⟨_, hx, rfl⟩
  have f1 := sub_AttributeError
  have f3 := F.slot_tuple_getattribute.lookup
  have f4 := F.slot_tuple_getattribute.bind (.ref a)
  have f5 := am_tuple_getattr_none
  unfold getAttr? getAttrBy? getAttrBy
  repeat (any_goals (first | assumption | exact hT _ | ((with_reducible show wpAny _ _ (call (Value.builtin "tuple.__getattribute__") _ _) _ _ _); refine call_meets F.slot_tuple_getattribute (hT _) am_entry_tuple_getattribute (F.args_tuple_getattribute_2 _ _) (meets_getattribute_miss_tuple a xs k sl "keys" _ keys_tuple (by decide) (by decide)) ⟨hx, hA, fun h' tk' e hx' => ?_⟩) | wp_step))
  obtain ⟨t', u', he⟩ := hx'.there
  show wpAny _ _ (getattributeRaised _ _ _ _ _ _ _) _ _ _
  unfold getattributeRaised
  repeat (any_goals (first | assumption | wp_step))
  all_goals first | exact h _ _ hx'.keeps | trace_state
end
end Mine

-- part P24
namespace Mine
section
variable {prog : Program} {w : World} {A : Around} {E : Value → Shared → Prop} {s : Shared}
noncomputable def SeqIt (h : Heap) (I a : Addr) (xs : Array Value) (i : Nat) : Prop := (h.IsListIter I a i ∧ h.IsList a xs) ∨ (h.IsTupleIter I a i ∧ h.IsTuple a xs)
theorem seqIt_ne {h : Heap} {I a : Addr} {xs : Array Value} {i : Nat} (x : SeqIt h I a xs i) : a ≠ I := fun q => by
  subst q
  rcases x with ⟨⟨o, ho, hc, _⟩, o', ho', hc', _⟩ | ⟨⟨o, ho, hc, _⟩, o', ho', hc', _⟩ <;> (rw [ho] at ho'; cases ho'; rw [hc] at hc'; exact absurd hc' (by decide))
theorem seqIt_keep {h h' : Heap} {I a : Addr} {xs : Array Value} {i : Nat} (x : SeqIt h I a xs i) (k : ∀ o, h.get? I = some o → h'.get? I = some o) (k2 : ∀ o, h.get? a = some o → h'.get? a = some o) : SeqIt h' I a xs i := by
  rcases x with ⟨⟨o, ho, r⟩, o', ho', r'⟩ | ⟨⟨o, ho, r⟩, o', ho', r'⟩
  · exact .inl ⟨⟨o, k _ ho, r⟩, o', k2 _ ho', r'⟩
  · exact .inr ⟨⟨o, k _ ho, r⟩, o', k2 _ ho', r'⟩
theorem next_seq {I a : Addr} {i : Nat} {xs : Array Value} {x : Value} {Q : Option Value → Shared → Prop} (it : SeqIt s.heap I a xs i) (hx : xs[i]? = some x)
    (h : ∀ h', SeqIt h' I a xs (i + 1) → Heap.SameBut I s.heap h' → Q (some x) { s with heap := h' }) : wpAny (model prog w) A (pyNext (.ref I)) Q E s := by
  have hne := seqIt_ne it
  rcases it with ⟨hit, hl⟩ | ⟨hit, hl⟩
  · exact wpAny_pyNext_list_item hit hl hx fun h' hit' hs => h h' (.inl ⟨hit', hl.extBut hs.extBut hne⟩) hs
  · exact wpAny_pyNext_tuple_item hit hl hx fun h' hit' hs => h h' (.inr ⟨hit', hl.extBut hs.extBut hne⟩) hs
theorem next_seq_end {I a : Addr} {i : Nat} {xs : Array Value} {Q : Option Value → Shared → Prop} (hh : A.handled = none) (it : SeqIt s.heap I a xs i) (hx : xs[i]? = none)
    (h : ∀ h', Heap.ExtBut I s.heap h' → Q none { s with heap := h' }) : wpAny (model prog w) A (pyNext (.ref I)) Q E s := by
  rcases it with ⟨hit, hl⟩ | ⟨hit, hl⟩
  · exact wpAny_pyNext_list_end hh hit hl hx h
  · exact wpAny_pyNext_tuple_end hh hit hl hx h
theorem entry_upd : entryFor table "dict.update.loop" = some Builtin.«dict.update.loop» := entryFor_of_tree (by kernel_rfl)
/-- pairs that lie as tuples -/
noncomputable def PairsAt (h : Heap) (xs : Array Value) (i : Nat) (kvs : List (Str × Value)) : Prop := xs.size = i + kvs.length ∧ ∀ j k v, kvs[j]? = some (k, v) → ∃ T t, xs[i + j]? = some (.ref T) ∧ IsTup h T #[.str k t, v]
theorem upd_loop {D I a : Addr} {xs : Array Value} (hh : A.handled = none) (hDI : D ≠ I) (hDa : D ≠ a) {R : Result → Shared → Prop} : ∀ (kvs : List (Str × Value)) (i : Nat) (acc : List (Str × Value)) (s : Shared) (k : Int), SeqIt s.heap I a xs i → PairsAt s.heap xs i kvs → s.heap.DictOf (strKind prog w) D acc → acc.length + kvs.length ≤ 1000000 →
    (∀ h' tk, h'.DictOf (strKind prog w) D (merged acc kvs) → (∀ b o, b ≠ D → b ≠ I → s.heap.get? b = some o → h'.get? b = some o) → R (.ok (.ret .none)) { s with heap := h', toks := tk }) →
    codeAny (model prog w) A (.builtin "dict.update.loop" ⟨[.ref D, .ref I, rawInt k, .none], []⟩) R s
  | [], i, acc, s, k, it, pa, hd, hz, h => by
    refine codeAny_builtin entry_upd ?_
    show wpAny _ _ (pyNext (.ref I) >>= _) _ _ s
    refine wpAny_bind (next_seq_end hh it (by have := pa.1; simp at this; simp [this]) fun h' x => ?_)
    show wpAny _ _ (Builtin.Dict.addKeywords D [] >>= fun _ => ret Value.none) _ _ _
    refine wpAny_bind (wpAny_pure (wpAny_pure ?_))
    refine h h' s.toks ?_ fun b o _ hb e => x b o hb e
    obtain ⟨o, es, ep, e, r⟩ := hd
    exact ⟨o, es, ep, x D o hDI e, r⟩
  | (key, v) :: kvs, i, acc, s, k, it, pa, hd, hz, h => by
    obtain ⟨T, t, hx, hT⟩ := pa.2 0 key v rfl
    have hTI : T ≠ I := fun q => by
      subst q
      obtain ⟨o, e, hc, _⟩ := hT
      rcases it with ⟨⟨o', e', hc', _⟩, _⟩ | ⟨⟨o', e', hc', _⟩, _⟩ <;> (rw [e] at e'; cases e'; rw [hc] at hc'; exact absurd hc' (by decide))
    have noTD : ∀ T' ys, IsTup s.heap T' ys → T' ≠ D := fun T' ys ⟨o, e, hc, _⟩ q => by
      subst q
      obtain ⟨o', es, ep, e', hx', _⟩ := hd
      rw [e] at e'; cases e'; have := hx'.1; rw [hc] at this; exact absurd this (by decide)
    have noTI : ∀ T' ys, IsTup s.heap T' ys → T' ≠ I := fun T' ys ⟨o, e, hc, _⟩ q => by
      subst q
      rcases it with ⟨⟨o', e', hc', _⟩, _⟩ | ⟨⟨o', e', hc', _⟩, _⟩ <;> (rw [e] at e'; cases e'; rw [hc] at hc'; exact absurd hc' (by decide))
    refine codeAny_builtin entry_upd ?_
    show wpAny _ _ (pyNext (.ref I) >>= _) _ _ s
    refine wpAny_bind (next_seq it (by simpa using hx) fun h1 it1 hs1 => ?_)
    have hT1 : IsTup h1 T #[.str key t, v] := let ⟨o, e, r⟩ := hT; ⟨o, (hs1.2 T hTI).trans e, r⟩
    have hd1 : h1.DictOf (strKind prog w) D acc := let ⟨o, es, ep, e, r⟩ := hd; ⟨o, es, ep, (hs1.2 D hDI).trans e, r⟩
    show wpAny _ _ (holding [.ref T] _ >>= _) _ _ _
    refine wpAny_bind (wpAny_holding ?_)
    refine wpAny_bind (wpAny_tryCatch ?_)
    show wpAny _ _ (Builtin.Dict.pairItems (.ref T)) _ _ _
    unfold Builtin.Dict.pairItems
    refine wpAny_bind (wpAny_typeOf (s := { s with heap := h1 }) hT1.typeIs ?_)
    rw [if_pos (by decide)]
    obtain ⟨oT, eT, _, _, nT, dT⟩ := hT1
    refine wpAny_bind (wpAny_seqItems eT dT (wpAny_pure ?_))
    show wpAny _ _ (holding [.str key t, v] (dictSet D (.str key t) v)) _ _ _
    refine wpAny_holding (wpAny_dictSet_pairs (hsz := by rw [sizeLine_is]; simp at hz; omega) (strKind_is prog w key t) hd1 fun h2 hd2 hs2 => wpAny_pure ⟨plainId_quiet (by decide +kernel) _, ?_⟩)
    have kk : ∀ b o, b ≠ D → b ≠ I → s.heap.get? b = some o → h2.get? b = some o := fun b o b1 b2 e => (hs2.2 b b1).trans ((hs1.2 b b2).trans e)
    refine upd_loop hh hDI hDa kvs (i + 1) (stored acc key v) _ (k + 1) (seqIt_keep it1 (fun o e => (hs2.2 I hDI.symm).trans e) fun o e => (hs2.2 a hDa.symm).trans e) ⟨?_, fun j k' v' e => ?_⟩ hd2 ?_ fun h' tk hd' hk => h h' tk (by simpa [merged] using hd') fun b o b1 b2 e => hk b o b1 b2 (kk b o b1 b2 e)
    · have := pa.1; simp at this ⊢; omega
    · obtain ⟨T', t', e1, o, e2, r⟩ := pa.2 (j + 1) k' v' (by simpa using e)
      exact ⟨T', t', by rw [← e1]; congr 1; omega, o, kk T' o (noTD T' _ ⟨o, e2, r⟩) (noTI T' _ ⟨o, e2, r⟩) e2, r⟩
    · have := stored_length_le acc key v; simp at hz ⊢; omega
end
end Mine

-- part P25
namespace Mine
section
variable {prog : Program} {w : World} {A : Around} {E : Value → Shared → Prop} {s : Shared}
/-- a list or a tuple that bears no dict -/
noncomputable def SeqN (h : Heap) (a : Addr) (xs : Array Value) : Prop := h.PlainList a xs ∨ IsTup h a xs
theorem call_dict_pairs {a : Addr} {xs : Array Value} {kvs : List (Str × Value)} {Q : Value → Shared → Prop} (hh : A.handled = none) (ha : SeqN s.heap a xs) (pa : PairsAt s.heap xs 0 kvs) (hz : kvs.length ≤ 1000000)
    (h : ∀ h' tk, h'.DictOf (strKind prog w) s.heap.objs.size (merged [] kvs) → (∀ b o, s.heap.get? b = some o → h'.get? b = some o) → Q (.ref s.heap.objs.size) { s with heap := h', toks := tk }) :
    wpAny (model prog w) A (call (.type "dict") [.ref a]) Q E s := by
  refine callType_codes (Q₁ := fun obj s₁ => obj = .ref s.heap.objs.size ∧ s₁ = { s with heap := s.heap.push { cls := .type "dict", data := .dict #[] } }) F.kt_called_dict (F.kt_typeCall_dict_1 _) F.entry_dict_init (kt_code_dict_new _ ⟨rfl, rfl⟩) ?_
  rintro obj s₁ ⟨rfl, rfl⟩
  have hnew : (s.heap.push { cls := .type "dict", data := .dict #[] }).DictOf (strKind prog w) s.heap.objs.size [] := Heap.DictOf.new s.heap
  have hk0 : ∀ b o, s.heap.get? b = some o → (s.heap.push { cls := .type "dict", data := .dict #[] }).get? b = some o := fun b o e => Heap.get?_push_of_some _ e
  generalize hH : s.heap.push { cls := .type "dict", data := .dict #[] } = H at *
  have halt : a < s.heap.objs.size := by
    rcases ha with ⟨n, e⟩ | ⟨o, e, _⟩ <;> exact Heap.lt_size e
  have hDlt : s.heap.objs.size < H.objs.size := by rw [← hH, Heap.size_push]; exact Nat.lt_succ_self _
  refine ⟨hnew.typeIs, F.args_dict_init_2 _ _, ?_⟩
  unfold Builtin.«dict.__init__»
  refine wpAny_bind ?_
  unfold Builtin.Dict.selfAndRest
  refine wpAny_bind (wpAny_notOrdered_dict hnew.typeIs ?_)
  show wpAny _ _ (pure (s.heap.objs.size, [Value.ref a])) _ _ _
  refine wpAny_pure ?_
  show wpAny _ _ (Builtin.Dict.updateFrom "dict.__init__" s.heap.objs.size (.ref a) [] .none) _ _ _
  unfold Builtin.Dict.updateFrom
  have fin : ∀ (h1 : Heap) (tk : Nat), (∀ b o, H.get? b = some o → h1.get? b = some o) → SeqN h1 a xs →
      wpAny (model prog w) A.in1.in1 (do
        rule s!"{"dict.__init__"}.from-pairs"
        return ← again (.builtin "dict.update.loop" ⟨[.ref s.heap.objs.size, ← pyIter (.ref a), rawInt 0, .none], []⟩)) (fun fin s' => match fin with | .done f => (wants (fun r s₁ => r = .none ∧ Q (.ref s.heap.objs.size) s₁) E) (.ok f) s' | .again c' => c'.quiet = true ∧ codeAny (model prog w) A.in1 c' (wants (fun r s₁ => r = .none ∧ Q (.ref s.heap.objs.size) s₁) E) s') (fun e s' => (wants (fun r s₁ => r = .none ∧ Q (.ref s.heap.objs.size) s₁) E) (.error e) s') { s with heap := h1, toks := tk } := fun h1 tk hk1 ha1 => by
    have loop : ∀ (T : String), SeqIt (h1.push { cls := .type T, data := .fields #[.ref a, .int 0 0] }) h1.objs.size a xs 0 →
        codeAny (model prog w) A.in1 (.builtin "dict.update.loop" ⟨[.ref s.heap.objs.size, .ref h1.objs.size, rawInt 0, .none], []⟩) (wants (fun r s₁ => r = .none ∧ Q (.ref s.heap.objs.size) s₁) E) { s with heap := h1.push { cls := .type T, data := .fields #[.ref a, .int 0 0] }, toks := tk } := fun T it => by
      have hDI : s.heap.objs.size < h1.objs.size := by
        obtain ⟨o, es, ep, e, _⟩ := hnew
        exact Heap.lt_size (hk1 _ _ e)
      have kk : ∀ b o, s.heap.get? b = some o → (h1.push { cls := .type T, data := .fields #[.ref a, .int 0 0] }).get? b = some o := fun b o e => Heap.get?_push_of_some _ (hk1 b o (hk0 b o e))
      refine upd_loop (A := A.in1) hh (Nat.ne_of_lt hDI) (Nat.ne_of_gt halt) kvs 0 [] { s with heap := h1.push { cls := .type T, data := .fields #[.ref a, .int 0 0] }, toks := tk } 0 it ⟨pa.1, fun j k v e => let ⟨T', t, e1, e2⟩ := pa.2 j k v e; ⟨T', t, e1, e2.keeps kk⟩⟩ ?_ (by simpa using hz) fun h' tk' hd' hk' => ⟨rfl, ?_⟩
      · obtain ⟨o, es, ep, e, r⟩ := hnew
        exact ⟨o, es, ep, Heap.get?_push_of_some _ (hk1 _ _ e), r⟩
      · exact h h' tk' hd' fun b o e => hk' b o (Nat.ne_of_lt (Heap.lt_size e)) (Nat.ne_of_lt (Nat.lt_trans (Heap.lt_size e) hDI)) (kk b o e)
    refine wpAny_bind (wpAny_rule ?_)
    rcases ha1 with ⟨n, e⟩ | t
    · have hl : h1.IsList a xs := ⟨_, e, rfl, n, rfl⟩
      exact wpAny_bind (wpAny_pyIter_list (s := { s with heap := h1, toks := tk }) hl (wpAny_pure ⟨plainId_quiet (by decide +kernel) _, loop _ (.inl ⟨⟨_, Heap.get?_push_size _ rfl, rfl, rfl⟩, _, Heap.get?_push_of_some _ e, rfl, n, rfl⟩)⟩))
    · have hl : h1.IsTuple a xs := t.lib
      obtain ⟨o, ho, hc, n, hd⟩ := hl
      exact wpAny_bind (wpAny_pyIter_tuple (s := { s with heap := h1, toks := tk }) ⟨o, ho, hc, n, hd⟩ (wpAny_pure ⟨plainId_quiet (by decide +kernel) _, loop _ (.inr ⟨⟨_, Heap.get?_push_size _ rfl, rfl, rfl⟩, o, Heap.get?_push_of_some _ ho, hc, n, hd⟩)⟩))
  rcases ha with ⟨n, e⟩ | t
  · refine wpAny_bind (wpAny_typeOf (T := "list") ⟨_, hk0 _ _ e, rfl⟩ ?_)
    rw [if_pos (by decide)]
    refine wpAny_bind (noKeys_list (s := { s with heap := H }) (hk0 _ _ e) hh fun h1 tk hk1 => ?_)
    rw [if_pos (show (none : Option Value).isNone = true from rfl)]
    exact fin h1 tk hk1 (.inl ⟨n, hk1 _ _ (hk0 _ _ e)⟩)
  · have t0 := t.keeps hk0
    obtain ⟨⟨cls, dd, dt, sl⟩, e, hc, hdd, n, hd⟩ := t0
    simp only at hc hdd hd
    subst hc hdd hd
    refine wpAny_bind (wpAny_typeOf (T := "tuple") ⟨_, e, rfl⟩ ?_)
    rw [if_pos (by decide)]
    refine wpAny_bind (noKeys_tuple (s := { s with heap := H }) e hh fun h1 tk hk1 => ?_)
    rw [if_pos (show (none : Option Value).isNone = true from rfl)]
    exact fin h1 tk hk1 (.inr ((t.keeps hk0).keeps hk1))
end

end Mine

-- part P25b
namespace Mine
theorem stored_nodup' (l : List (Str × Value)) (k : Str) (v : Value) (hn : (l.map (·.1)).Nodup) : ((stored l k v).map (·.1)).Nodup := by
  unfold stored
  split
  · have : (l.map fun kv => if kv.1 = k then (kv.1, v) else kv).map (·.1) = l.map (·.1) := by
      rw [List.map_map]
      refine List.map_congr_left fun a _ => ?_
      simp only [Function.comp]
      split <;> rfl
    rw [this]; exact hn
  · rename_i h
    rw [List.map_append, List.nodup_append]
    refine ⟨hn, by simp, fun a ha b hb e => ?_⟩
    simp at hb
    subst hb e
    obtain ⟨p, hp, e⟩ := List.mem_map.mp ha
    exact h (List.any_eq_true.mpr ⟨p, hp, by simpa using e⟩)
section
variable {c : Cx} {N : Lv} {env : Env} {ρ : Rho} {σ : Sig} {Q : V → Sig → Prop} {X : Exn → Sig → Prop}
/-- pairs as data -/
noncomputable def pv (l : List (Str × V)) : List V := l.map fun p => .tup [.str p.1, p.2]
theorem pairs_of {h : Heap} : ∀ {l : List (Str × V)} {xs : List Value}, VRs h (pv l) xs → ∃ kvs : List (Str × Value), PairsR h l kvs ∧ kvs.length = xs.length ∧ ∀ (j : Nat) (k : Str) (v : Value), kvs[j]? = some (k, v) → ∃ T t, xs[j]? = some (Value.ref T) ∧ IsTup h T #[.str k t, v]
  | [], xs, r => by simp only [pv, List.map_nil, VRs] at r; subst r; exact ⟨[], rfl, rfl, fun j k v e => by simp at e⟩
  | (k, u) :: l, xs, r => by
    simp only [pv, List.map_cons, VRs] at r
    obtain ⟨x, r', rfl, r1, r2⟩ := r
    obtain ⟨kvs, p1, p2, p3⟩ := pairs_of (l := l) r2
    simp only [VR] at r1
    obtain ⟨T, ys, rfl, hT, rr⟩ := r1
    simp only [VRs, VR] at rr
    obtain ⟨y, _, e1, ⟨_, t, rfl⟩, z, _, rfl, hz, rfl⟩ := rr
    have ey : ys = #[.str k t, z] := Array.toList_inj.mp (by rw [e1])
    subst ey
    refine ⟨(k, z) :: kvs, ⟨z, kvs, rfl, hz, p1⟩, by simp [p2], fun j k' v' e => ?_⟩
    cases j with
    | zero => simp at e; obtain ⟨rfl, rfl⟩ := e; exact ⟨T, t, rfl, hT⟩
    | succ j => simp only [List.getElem?_cons_succ] at e ⊢; exact p3 j k' v' e
noncomputable def putAll : List (Str × V) → List (Str × V) → List (Str × V)
  | acc, [] => acc
  | acc, (k, v) :: l => putAll (putA acc k v) l
theorem PairsR.puts {h : Heap} : ∀ {l acc : List (Str × V)} {kvs ac : List (Str × Value)}, PairsR h l kvs → PairsR h acc ac → (ac.map (·.1)).Nodup → PairsR h (putAll acc l) (merged ac kvs)
  | [], acc, kvs, ac, r, ra, hn => by simp only [PairsR] at r; subst r; exact ra
  | (k, v) :: l, acc, kvs, ac, r, ra, hn => by
    simp only [PairsR] at r
    obtain ⟨x, r', rfl, r1, r2⟩ := r
    have := PairsR.puts (acc := putA acc k v) (ac := stored ac k x) r2 (ra.put r1 hn) (stored_nodup' _ _ _ hn)
    simpa [merged, putAll] using this
theorem B_dict_pairs {d : Addr} {l : List (Str × V)} (hhn : N.hn = true) (e : σ d = some (.list (pv l))) (q : ∀ D, σ D = none → Q (.raw (.ref D)) (upd σ D (.dict (putAll [] l)))) (hz : l.length ≤ 1000000) : CallOp c N σ (.type "dict") [.raw (.ref d)] Q X := fun A s QQ EE ys a R r p xp => by
  simp only [VRs] at r
  obtain ⟨x, _, rfl, r, rfl⟩ := r
  simp only [VR] at r; subst r
  obtain ⟨xs, hx, r⟩ := (R.obj d _ e).2
  obtain ⟨kvs, p1, p2, p3⟩ := pairs_of r
  refine sized (call_dict_pairs (a.han hhn) (.inl hx) ⟨by rw [p2]; simp, fun j k v e => by simpa using p3 j k v e⟩ (by rw [p1.length]; exact hz) fun h' tk hd hk hs => ?_)
  exact newDict_post (tk := (tk, s.drawn)) p R q hk hs (Nat.le_refl _) hd (PairsR.puts p1 rfl .nil)
theorem B_dict_pairsT {l : List (Str × V)} (hhn : N.hn = true) (q : ∀ D, σ D = none → Q (.raw (.ref D)) (upd σ D (.dict (putAll [] l)))) (hz : l.length ≤ 1000000) : CallOp c N σ (.type "dict") [.tup (pv l)] Q X := fun A s QQ EE ys a R r p xp => by
  simp only [VRs] at r
  obtain ⟨x, _, rfl, r, rfl⟩ := r
  simp only [VR] at r
  obtain ⟨t, xs, rfl, ht, r⟩ := r
  obtain ⟨kvs, p1, p2, p3⟩ := pairs_of r
  refine sized (call_dict_pairs (a.han hhn) (.inr ht) ⟨by rw [p2]; simp, fun j k v e => by simpa using p3 j k v e⟩ (by rw [p1.length]; exact hz) fun h' tk hd hk hs => ?_)
  exact newDict_post (tk := (tk, s.drawn)) p R q hk hs (Nat.le_refl _) hd (PairsR.puts p1 rfl .nil)
end
end Mine

-- part P26
namespace Mine
theorem layNew_led (t : SetTable) (es : Array (Int × Value)) (h : Int) (x : Value) : (layNew t es h x).2.1.led = t.led := by
  have key : ∀ (t : SetTable) n, (t.orStandIn n).led = t.led := fun t n => by
    unfold SetTable.orStandIn
    split <;> rfl
  unfold layNew
  split
  · rename_i slot wd e
    show ((t.put slot).1.orStandIn _).led = t.led
    rw [key]; rfl
  · rfl
theorem laid_led {mask finger moves : Nat} {led plain : Bool} {hashes : Array Int} {t : SetTable} {o : Array Nat} (h : SetTable.laid mask finger moves led plain hashes = some (t, o)) : t.led = led ∧ t.plain = plain := by
  unfold SetTable.laid at h
  cases e : SetTable.layClean mask hashes with
  | none => rw [e] at h; cases h
  | some owner => rw [e] at h; cases h; exact ⟨rfl, rfl⟩
theorem relayAll_led (t : SetTable) (es : Array (Int × Value)) (n : Nat) : (relayAll t es n).2.1.led = t.led ∧ (t.plain = false → (relayAll t es n).2.1.plain = false) := by
  unfold relayAll
  split
  · rename_i t' order e
    unfold SetTable.relaid at e
    obtain ⟨a, b⟩ := laid_led e
    dsimp only
    split
    · exact ⟨a, fun q => b.trans q⟩
    · exact ⟨rfl, fun _ => rfl⟩
  · exact ⟨rfl, fun _ => rfl⟩

section
variable {prog : Program} {w : World} {A : Around} {E : Value → Shared → Prop} {s : Shared}
theorem SetS.keep {h h' : Heap} {a : Addr} {es : Array (Int × Value)} {led : Bool} (x : SetS prog w h a es led) (k : ∀ o, h.get? a = some o → h'.get? a = some o) : SetS prog w h' a es led := let ⟨o, ep, t, e, r⟩ := x; ⟨o, ep, t, k _ e, r⟩
theorem setS_store {h : Heap} {a : Addr} {o : Obj} {es es' : Array (Int × Value)} {ep : Nat} {t t' : SetTable} {led : Bool} (ho : h.get? a = some o) (hex : o.ExactSet) (hd : o.data = .set es ep t) (hel : ElemsOf (strKind prog w) es'.toList) (hb : es'.size < scanBound)
    (hf : t'.fits es'.size = true) (hl : t'.led = led) (hp : t'.plain = false) : (h.update a (Obj.putSet es' t')).get? a = some { o with data := .set es' (ep + 1) t' } ∧ SetS prog w (h.update a (Obj.putSet es' t')) a es' led := by
  have e := putSet_of es' t' hd
  have g : (h.update a (Obj.putSet es' t')).get? a = some { o with data := .set es' (ep + 1) t' } := by
    rw [← e]; exact Heap.get?_update_self _ ho (by rw [e]; rfl)
  exact ⟨g, _, _, _, g, hex, rfl, hel, hb, hf, hl, fun _ => hp⟩
theorem add_str {a : Addr} {es : Array (Int × Value)} {led : Bool} {k : Str} {tk : Tok} {Q : Bool → Shared → Prop} (hS : SetS prog w s.heap a es led) (hroom : es.size + 1 < scanBound)
    (h : ∀ b h' es', Heap.SameBut a s.heap h' → SetS prog w h' a es' led → (if es.toList.any (fun e => (strKind prog w).is k e.2) then es' = es else es'.toList.Perm (es.toList ++ [((strKind prog w).hash k, .str k tk)])) → Q b { s with heap := h' }) :
    wpAny (model prog w) A (setAddHashed a (.str k tk) ((strKind prog w).hash k)) Q E s := by
  have hkey := strKind_is prog w k tk
  have hsc : (Value.str k tk).scannable = true := rfl
  have hS0 := hS
  obtain ⟨o, ep, t, ho, hex, hd, hel, hb, hf, hl, hp⟩ := hS
  unfold setAddHashed setAddHashedIn
  refine wpAny_holding (wpAny_bind (wpAny_setState_of ho hd hf ?_))
  dsimp only
  rw [byScan_of hsc hb hel]
  simp only [↓reduceIte]
  unfold setAddByScan
  refine wpAny_bind ?_
  refine wpAny_bind (wpAny_rule ?_)
  refine wpAny_bind (wpAny_setScan_of hkey ho hd hf hel ?_)
  cases hr : List.findIdx? (fun e => (strKind prog w).is k e.2) es.toList with
  | some j =>
    dsimp only
    obtain ⟨hj, hpj, _⟩ := List.findIdx?_eq_some_iff_getElem.mp hr
    have hany : es.toList.any (fun e => (strKind prog w).is k e.2) = true := List.any_eq_true.mpr ⟨_, List.getElem_mem hj, hpj⟩
    refine wpAny_pure (wpAny_pure ?_)
    have := h false s.heap es (Heap.SameBut.refl ..) hS0
    rw [if_pos hany] at this
    exact this rfl
  | none =>
    dsimp only
    have hany : es.toList.any (fun e => (strKind prog w).is k e.2) = false := by
      rw [List.any_eq_false]
      intro e he
      have := List.findIdx?_eq_none_iff.mp hr e he
      simp [this]
    have hgw : ∀ (b : Bool) {s₁ : Shared} {Q' : Unit → Shared → Prop}, Q' () s₁ → wpAny (model prog w) A (match b with | true => rule "set.scan.the-table-gave-way" | false => pure ()) Q' E s₁ :=
      fun b s₁ Q' hq => by cases b <;> first | exact wpAny_pure hq | exact wpAny_rule hq
    have hperm := layNew_perm t es ((strKind prog w).hash k) (.str k tk)
    have hfits := layNew_fits t es ((strKind prog w).hash k) (.str k tk)
    have hled := layNew_led t es ((strKind prog w).hash k) (.str k tk)
    generalize hL : layNew t es ((strKind prog w).hash k) (.str k tk) = L at hperm hfits hled ⊢
    obtain ⟨es1, t1, wasDummy, gave⟩ := L
    dsimp only at hperm hfits hled ⊢
    rw [Array.toList_push] at hperm
    have hel1 : ElemsOf (strKind prog w) es1.toList := (hel.push hkey hsc).perm hperm
    have hb1' : es1.size < scanBound := by rw [← Array.length_toList, hperm.length_eq, List.length_append, Array.length_toList]; simpa using hroom
    refine wpAny_bind (hgw _ ?_)
    -- the store
    have tail : ∀ {g : Bool → Sem Unit} (hg : ∀ (b : Bool) (s₁ : Shared) (Q' : Unit → Shared → Prop), Q' () s₁ → wpAny (model prog w) A (g b) Q' E s₁) (t2 : SetTable), t2.fits es1.size = true → t2.led = led → t2.plain = false → wpAny (model prog w) A (do
        storeSet a es1 t2
        if (!wasDummy && t2.tooFull) = true then do
            g (relayAll t2 es1 (SetTable.grown es1.size)).2.2
            storeSet a (relayAll t2 es1 (SetTable.grown es1.size)).1 (relayAll t2 es1 (SetTable.grown es1.size)).2.1
            pure (some true)
          else pure (some true)) (fun (r : Option Bool) s' => wpAny (model prog w) A (match r with | some added => pure added | none => setAddHashedIn a (.str k tk) ((strKind prog w).hash k) 99999) Q E s') E s := fun {g} hg t2 f2 l2 p2 => by
      refine wpAny_bind (wpAny_storeSet_of ho hd ?_ (fits_of_scanBound hb1'))
      obtain ⟨ho1, hS1⟩ := setS_store (prog := prog) (w := w) ho hex hd hel1 hb1' f2 l2 p2
      have hsb1 := Heap.SameBut.update s.heap a (Obj.putSet es1 t2)
      split
      · have hp2 := relayAll_perm t2 es1 (SetTable.grown es1.size)
        have hfr := relayAll_fits t2 es1 (SetTable.grown es1.size)
        obtain ⟨hl2, hpl2⟩ := relayAll_led t2 es1 (SetTable.grown es1.size)
        generalize hRl : relayAll t2 es1 (SetTable.grown es1.size) = Rl at hp2 hfr hl2 hpl2 ⊢
        obtain ⟨es2, t3, gave2⟩ := Rl
        dsimp only at hp2 hfr hl2 hpl2 ⊢
        have hsz : es2.size = es1.size := by rw [← Array.length_toList, hp2.length_eq, Array.length_toList]
        refine wpAny_bind (hg _ _ _ ?_)
        refine wpAny_bind (wpAny_storeSet_of ho1 rfl ?_ (fits_of_scanBound (by rw [hsz]; exact hb1')))
        obtain ⟨_, hS2⟩ := setS_store (prog := prog) (w := w) ho1 hex rfl (hel1.perm hp2) (by rw [hsz]; exact hb1') hfr (hl2.trans l2) (hpl2 p2)
        refine wpAny_pure (wpAny_pure ?_)
        have := h true _ es2 (hsb1.trans (Heap.SameBut.update _ a _)) hS2
        rw [hany] at this
        simp only [Bool.false_eq_true, if_false] at this
        exact this (hp2.trans hperm)
      · refine wpAny_pure (wpAny_pure ?_)
        have := h true _ es1 hsb1 hS1
        rw [hany] at this
        simp only [Bool.false_eq_true, if_false] at this
        exact this hperm
    split
    · refine wpAny_bind ?_
      rw [show hashByValue 8 (.str k tk) = pure false from rfl]
      refine wpAny_pure ?_
      simp only [Bool.false_eq_true, if_false]
      exact tail (fun b s₁ Q' hq => by cases b <;> first | exact wpAny_pure hq | exact wpAny_rule hq) { t1 with plain := false } (SetTable.fits_plain_off hfits) (hled.trans hl) rfl
    · rename_i hpl
      refine wpAny_bind (wpAny_pure ?_)
      simp only [↓reduceIte]
      exact tail (fun b s₁ Q' hq => by cases b <;> first | exact wpAny_pure hq | exact wpAny_rule hq) t1 hfits (hled.trans hl) (by simpa using hpl)
end
end Mine

-- part P27
namespace Mine
noncomputable def dedupS : List Str → List Str → List Str
  | acc, [] => acc
  | acc, k :: r => dedupS (if acc.contains k then acc else acc ++ [k]) r
theorem strsAre_append : ∀ {a b : List Value} {x y : List Str}, StrsAre a x → StrsAre b y → StrsAre (a ++ b) (x ++ y)
  | _, _, _, _, .nil, h => h
  | _, _, _, _, .cons x t r, h => .cons x t (strsAre_append r h)
theorem strsAre_perm {a b : List Value} (p : a.Perm b) : ∀ {x : List Str}, StrsAre a x → ∃ y, StrsAre b y ∧ y.Perm x := by
  induction p with
  | nil => exact fun h => ⟨_, h, .refl _⟩
  | cons v _ ih =>
    intro x h
    cases h with
    | cons k t r => obtain ⟨y, h1, h2⟩ := ih r; exact ⟨_, .cons k t h1, h2.cons k⟩
  | swap u v l =>
    intro x h
    cases h with
    | cons k t r => cases r with | cons k' t' r => exact ⟨_, .cons k' t' (.cons k t r), .swap ..⟩
  | trans _ _ ih1 ih2 =>
    intro x h
    obtain ⟨y, h1, h2⟩ := ih1 h
    obtain ⟨z, h3, h4⟩ := ih2 h1
    exact ⟨z, h3, h4.trans h2⟩
theorem strsAre_mem {k : Str} : ∀ {a : List Value} {x : List Str}, StrsAre a x → (a.any (fun v => Value.isStrOf k v) = true ↔ k ∈ x)
  | _, _, .nil => by simp
  | _, _, .cons x t r => by
    have ih := strsAre_mem (k := k) r
    rw [List.any_cons, Bool.or_eq_true, ih, List.mem_cons]
    refine or_congr ?_ .rfl
    show (Value.isStrOf k (.str x t)) = true ↔ _
    constructor
    · intro h
      obtain ⟨u, e⟩ := Value.isStrOf_shape h
      cases e; rfl
    · rintro rfl
      simp [Value.isStrOf]
section
variable {prog : Program} {w : World} {A : Around} {E : Value → Shared → Prop} {s : Shared}
theorem set_loop {S I a : Addr} {xs : Array Value} {led : Bool} (hh : A.handled = none) (hSI : S ≠ I) (hSa : S ≠ a) {R : Result → Shared → Prop} {vs : List Value} {ss : List Str} (r : StrsAre vs ss) : ∀ (i : Nat) (es : Array (Int × Value)) (ks : List Str) (s : Shared), SeqIt s.heap I a xs i → xs.toList.drop i = vs → SetS prog w s.heap S es led → KeysAre es ks → es.size + ss.length < 4000 →
    (∀ h' tk es', SetS prog w h' S es' led → KeysAre es' (dedupS ks ss) → (∀ b o, b ≠ S → b ≠ I → s.heap.get? b = some o → h'.get? b = some o) → R (.ok (.ret .none)) { s with heap := h', toks := tk }) →
    codeAny (model prog w) A (.builtin "set.update.loop" ⟨[.ref S, .ref I], []⟩) R s := by
  induction r with
  | nil =>
    intro i es ks s it e hS hk hz h
    refine codeAny_builtin F.entry_set_update_loop ?_
    show wpAny _ _ (pyNext (.ref I) >>= _) _ _ s
    refine wpAny_bind (next_seq_end hh it (by rw [← Array.getElem?_toList]; exact List.getElem?_eq_none (List.drop_eq_nil_iff.mp e)) fun h' x => wpAny_pure ?_)
    exact h h' s.toks es (hS.keep fun o e => x S o hSI e) hk fun b o _ hb e => x b o hb e
  | @cons k t vs ss r ih =>
    intro i es ks s it e hS hk hz h
    obtain ⟨e1, e2⟩ := drop_get e
    refine codeAny_builtin F.entry_set_update_loop ?_
    show wpAny _ _ (pyNext (.ref I) >>= _) _ _ s
    refine wpAny_bind (next_seq it (by rw [← Array.getElem?_toList]; exact e1) fun h1 it1 hs1 => ?_)
    show wpAny _ _ (holding [.str k t] (setAdd S (.str k t)) >>= _) _ _ _
    refine wpAny_bind (wpAny_holding ?_)
    unfold setAdd
    refine wpAny_holding ?_
    refine wpAny_bind ((strKind prog w).pyHash (k := k) (strKind_is _ _ _ _) ?_)
    simp only [List.length_cons] at hz
    refine add_str (s := { s with heap := h1, toks := s.toks + 1 }) (hS.keep fun o e => (hs1.2 S hSI).trans e) (by unfold scanBound; omega) fun b h2 es2 hs2 hS2 hes => ?_
    refine wpAny_pure ⟨plainId_quiet F.plain_set_update_loop _, ?_⟩
    obtain ⟨ks', hk1, hk2⟩ := hk
    have hany : es.toList.any (fun e => (strKind prog w).is k e.2) = ks.contains k := by
      have := strsAre_mem (k := k) hk1
      rw [List.any_map] at this
      rw [Bool.eq_iff_iff, List.contains_iff_mem]
      exact this.trans hk2.mem_iff
    have hk' : KeysAre es2 (if ks.contains k then ks else ks ++ [k]) ∧ es2.size ≤ es.size + 1 := by
      rw [hany] at hes
      by_cases q : ks.contains k = true
      · rw [if_pos q] at hes ⊢
        subst hes
        exact ⟨⟨ks', hk1, hk2⟩, Nat.le_succ _⟩
      · rw [if_neg q] at hes ⊢
        refine ⟨?_, ?_⟩
        · have p2 := hes.symm.map (·.2)
          rw [List.map_append] at p2
          obtain ⟨y, y1, y2⟩ := strsAre_perm p2 (strsAre_append hk1 (.cons k t .nil))
          exact ⟨y, y1, y2.trans (hk2.append_right _)⟩
        · rw [← Array.length_toList, hes.length_eq, List.length_append, Array.length_toList]; simp
    refine ih (i + 1) es2 _ _ (seqIt_keep it1 (fun o e => (hs2.2 I hSI.symm).trans e) fun o e => (hs2.2 a hSa.symm).trans e) e2 hS2 hk'.1 (by have := hk'.2; omega) fun h' tk es' a1 a2 a3 => h h' tk es' a1 a2 fun b o b1 b2 e => a3 b o b1 b2 ((hs2.2 b b1).trans ((hs1.2 b b2).trans e))

theorem code_set_new_led (a : Value) {Q₁ : Value → Shared → Prop}
    (h : Q₁ (.ref s.heap.objs.size) { s with heap := s.heap.push { cls := .type "set", dict := none, data := .set #[] 0 (.fresh 0 0 (!byText w)) } }) :
    codeAny (model prog w) A (.call (.builtin "set.__new__") ⟨[.type "set", a], []⟩) (wants Q₁ E) s := by
  refine codeAny_of_tree ?_
  show wpAny _ A.in1 (do checkBuiltinCall "set.__new__" ⟨[.type "set", a], []⟩; again (.builtin "set.__new__" ⟨[.type "set", a], []⟩)) _ _ s
  refine wpAny_bind (wpAny_of_eq (F.newCall_set_1 a) (wpAny_pure ⟨plainId_quiet F.plain_set_new _, codeAny_builtin F.entry_set_new ?_⟩))
  rw [Around.under_plainId F.plain_set_new _]
  unfold Builtin.«set.__new__» Builtin.Frozenset.newClass
  have hsub := sub_set_self
  obtain ⟨hp, g, d, tk, os⟩ := s
  dsimp only
  wp_walk
  refine wpAny_askSetting (wpAny_pure ?_)
  dsimp only
  simp only [newObj]
  refine wpAny_bind (wpAny_alloc (wpAny_pure ?_))
  exact wpAny_pure h
end
end Mine

-- part P28
namespace Mine
section
variable {prog : Program} {w : World} {A : Around} {E : Value → Shared → Prop} {s : Shared}
set_option maxHeartbeats 3200000 in
theorem call_set_strs {l : Addr} {items : Array Value} {ss : List Str} {Q : Value → Shared → Prop}
    (hh : A.handled = none) (hl : s.heap.IsList l items) (hi : StrsAre items.toList ss) (hb : ss.length < 3000)
    (h : ∀ (h' : Heap) (tk : Nat) es, SetS prog w h' s.heap.objs.size es (!byText w) → KeysAre es (dedupS [] ss) → (∀ b o, s.heap.get? b = some o → h'.get? b = some o) → Q (.ref s.heap.objs.size) { s with heap := h', toks := tk }) :
    wpAny (model prog w) A (call (.type "set") [.ref l]) Q E s := by
  obtain ⟨c, tl, hmro⟩ := F.called_set.mro
  have hmade := F.called_set.made
  have hsub := F.called_set.sub
  refine wpAny_call (codeAny_of_tree ?_)
  show wpAny _ _ (callAny (.type "set") _) _ _ _
  refine wpAny_pure ⟨Code.quiet_builtin _ (by decide +kernel), codeAny_builtin F.entry_type_call ?_⟩
  rw [Around.under_plain (weight_type_call_type "set" [.ref l] []) rfl]
  have h1 := F.called_set.notType
  have h2 := F.called_set.canCreate
  have hct := F.typeCall_set_1 (.ref l)
  repeat (any_goals (first | assumption | wp_step))
  refine codeAny_mono (code_set_new_led (.ref l) (E := E) (Q₁ := fun obj s₁ => obj = .ref s.heap.objs.size ∧ s₁ = { s with heap := s.heap.push { cls := .type "set", dict := none, data := .set #[] 0 (.fresh 0 0 (!byText w)) } }) ⟨rfl, rfl⟩) fun r s₁ hr => ?_
  cases r with
  | error e => exact hr
  | ok fl =>
    cases fl with
    | ret obj =>
      obtain ⟨rfl, rfl⟩ := hr
      generalize hled : (!byText w) = led at *
      have hS : (s.heap.push { cls := .type "set", dict := none, data := .set #[] 0 (.fresh 0 0 led) }).get? s.heap.objs.size = some { cls := .type "set", dict := none, data := .set #[] 0 (.fresh 0 0 led) } := Heap.get?_push_size _ rfl
      have hT : Shared.TypeIs { s with heap := s.heap.push { cls := .type "set", dict := none, data := .set #[] 0 (.fresh 0 0 led) } } (.ref s.heap.objs.size) "set" := ⟨_, hS, rfl⟩
      have hli := F.called_set.init.lookup
      have hbi := F.called_set.init.bind (.ref s.heap.objs.size)
      repeat (any_goals (first | assumption | wp_step))
      refine codeAny_mono (codeAny_call_builtin (R := wants (fun r s₂ => r = .none ∧ ∃ h' tk es, s₂ = { s with heap := h', toks := tk } ∧ SetS prog w h' s.heap.objs.size es led ∧ KeysAre es (dedupS [] ss) ∧
          (∀ b o, s.heap.get? b = some o → h'.get? b = some o)) E) F.called_set.init.plain F.entry_set_init (check_set_init_1 hT ?_)) fun r₂ s₂ hr₂ => ?_
      · obtain ⟨ol, hol, hcl, nl, hdl⟩ := hl
        obtain ⟨ocls, odict, odata, oslots⟩ := ol
        simp only at hcl hdl
        subst hcl; subst hdl
        have hol' : (s.heap.push { cls := .type "set", dict := none, data := .set #[] 0 (.fresh 0 0 led) }).get? l = some { cls := .type "list", dict := odict, data := .seq items nl, slots := oslots } := Heap.get?_push_of_some _ hol
        have hsls := F.sub_list_set
        have hslf := F.sub_list_frozenset
        have hne : (Value.type "list" == Value.type "dict") = false := by decide
        have hl1 : (s.heap.push { cls := .type "set", dict := none, data := .set #[] 0 (.fresh 0 0 led) }).IsList l items := ⟨_, hol', rfl, nl, rfl⟩
        unfold Builtin.«set.__init__» noKeywords Builtin.Frozenset.updateFrom
        generalize hPI : pyIter = PI
        wp_walk
        subst hPI
        refine wpAny_pyIter_list hl1 ?_
        refine wpAny_bind (wpAny_runValue ?_)
        have hlS : l < s.heap.objs.size := Heap.lt_size hol
        have hh3 : A.in1.in1.in1.handled = none := by simp [hh]
        refine set_loop (A := A.in1.in1) (I := (s.heap.push { cls := .type "set", dict := none, data := .set #[] 0 (.fresh 0 0 led) }).objs.size) (a := l) (xs := items) (led := led) hh (by rw [Heap.size_push]; exact Nat.ne_of_lt (Nat.lt_succ_self _)) (Nat.ne_of_gt hlS) hi 0 #[] [] _ (by exact .inl ⟨⟨_, Heap.get?_push_size _ rfl, rfl, rfl⟩, hl1.push _⟩) (by simp) ?_ ⟨[], .nil, .nil⟩ (by simp; omega) fun h' tk es' a1 a2 a3 => ?_
        · exact ⟨_, 0, _, Heap.get?_push_of_some _ hS, ⟨rfl, rfl, rfl⟩, rfl, fun e he => by simp at he, by decide, rfl, rfl, fun q => absurd rfl q⟩
        · show wpAny _ _ _ _ _ _
          refine wpAny_pure ?_
          show wpAny _ _ (ret Value.none) _ _ _
          refine wpAny_pure ⟨rfl, h', tk, es', rfl, a1, a2, fun b o e => a3 b o (Nat.ne_of_lt (Heap.lt_size e)) (by rw [Heap.size_push]; exact Nat.ne_of_lt (Nat.lt_succ_of_lt (Heap.lt_size e))) (Heap.get?_push_of_some _ (Heap.get?_push_of_some _ e))⟩
      · cases r₂ with
        | error e => exact hr₂
        | ok fl₂ =>
          cases fl₂ with
          | ret r =>
            obtain ⟨rfl, h', tk, es, rfl, a1, a2, a3⟩ := hr₂
            repeat (any_goals (first | assumption | wp_step))
            exact h _ _ _ a1 a2 a3
          | _ => exact hr₂.elim
    | _ => exact hr.elim
end
end Mine

-- part P29
namespace Mine
theorem erase_perm {α : Type} : ∀ {l : List α} {i : Nat} (h : i < l.length), (l[i] :: l.eraseIdx i).Perm l
  | x :: l, 0, h => by simp
  | x :: l, i + 1, h => by
    simp only [List.getElem_cons_succ, List.eraseIdx_cons_succ]
    exact (List.Perm.swap ..).trans ((erase_perm (l := l) (i := i) (by simpa using h)).cons x)
theorem pick_go {α : Type} (f : Nat → Nat) : ∀ (n k : Nat) (left : List α) (out : Array α), n = left.length → (pickOrder.go f n k left out).toList.Perm (out.toList ++ left)
  | 0, k, left, out, h => by
    have : left = [] := List.eq_nil_of_length_eq_zero h.symm
    subst this
    simp [pickOrder.go]
  | n + 1, k, left, out, h => by
    unfold pickOrder.go
    have hlt : f k % left.length < left.length := Nat.mod_lt _ (by omega)
    rw [List.getElem?_eq_getElem hlt]
    dsimp only
    refine (pick_go f n (k + 1) _ _ (by rw [List.length_eraseIdx_of_lt hlt]; omega)).trans ?_
    rw [Array.toList_push, List.append_assoc]
    refine List.Perm.append_left _ ?_
    exact (erase_perm hlt)
theorem pick_perm {α : Type} (f : Nat → Nat) (xs : Array α) : (pickOrder f xs).toList.Perm xs.toList := by
  have := pick_go f xs.size 0 xs.toList #[] (by simp)
  simpa [pickOrder] using this

section
variable {prog : Program} {w : World} {A : Around} {E : Value → Shared → Prop} {s : Shared}
theorem choose_ {n : Nat} {src : Source} {Q : Nat → Shared → Prop} (hn : n ≠ 0) (h : ∀ i dr, i < n → Q i { s with drawn := dr }) : wpAny (model prog w) A (choose src n) Q E s := fun Γ p hΓ => ⟨hn, h _ _ (Nat.mod_lt _ (Nat.pos_of_ne_zero hn))⟩
theorem draw_order {α : Type} : ∀ (xs : List α) (s : Shared) (Q : List α → Shared → Prop), (∀ ys dr, ys.Perm xs → Q ys { s with drawn := dr }) → wpAny (model prog w) A (drawOrder xs.length xs) Q E s
  | [], s, Q, h => wpAny_pure (h [] s.drawn .nil)
  | x :: xs, s, Q, h => by
    show wpAny _ _ (do
      let i ← choose .order (x :: xs).length
      match (x :: xs)[i]? with
      | some x' => return x' :: (← drawOrder xs.length ((x :: xs).eraseIdx i))
      | none => unsupported "internal:drawOrder") Q E s
    refine wpAny_bind (choose_ (by simp) fun i dr hi => ?_)
    rw [List.getElem?_eq_getElem hi]
    dsimp only
    have hl : ((x :: xs).eraseIdx i).length = xs.length := by rw [List.length_eraseIdx_of_lt hi]; simp
    refine wpAny_bind ?_
    rw [← hl]
    exact draw_order ((x :: xs).eraseIdx i) { s with drawn := dr } _ fun ys dr' hp => wpAny_pure (h _ dr' ((hp.cons _).trans (erase_perm hi)))
  termination_by xs => xs.length
  decreasing_by rw [List.length_eraseIdx_of_lt hi]; simp

theorem setDrawn_eq (a : Addr) : setDrawn a = (do let (es, _, t) ← setState a; let b ← setsByText; return !b && (!t.plain && es.size > 1)) := rfl
theorem setNext_eq (a : Addr) (slot given epochThen : Nat) : setNext a slot given epochThen = (do
  let (es, epoch, t) ← setState a
  if ← setsByText then
    if epoch != epochThen then unsupported "set_iterator.__next__:elements-changed"
    return ((← setWalk a)[given]?).map fun e => (e.2, slot)
  if !t.plain && es.size > 1 then unsupported "set_iterator.__next__:the-table-is-plain-no-more"
  let _ ← (show Sem Unit from if !t.led && !es.isEmpty then unsupported "set:maker-not-led" else pure ())
  let i := SetTable.below t.place slot
  return match es[i]?, t.place[i]? with
    | some (_, x), some j => some (x, j + 1)
    | _, _ => none) := rfl
theorem byText_ {Q : Bool → Shared → Prop} (h : Q (byText w) s) : wpAny (model prog w) A setsByText Q E s := by
  unfold setsByText
  exact wpAny_bind (wpAny_askSetting (wpAny_pure h))
theorem setWalk_text {a : Addr} {es : Array (Int × Value)} {ep : Nat} {t : SetTable} {o : Obj} {Q : Array (Int × Value) → Shared → Prop} (hb : byText w = true) (ho : s.heap.get? a = some o) (hd : o.data = .set es ep t) (hf : t.fits es.size = true)
    (h : Q (pickOrder (w.params.setOrder a ep) es) s) : wpAny (model prog w) A (setWalk a) Q E s := by
  unfold setWalk
  refine wpAny_bind (wpAny_setState_of ho hd hf ?_)
  refine wpAny_bind (byText_ ?_)
  rw [hb]
  exact wpAny_bind (wpAny_askSetting (wpAny_pure h))

/-- a set is walked; rest is what it will give -/
noncomputable def SIter (w : World) (h : Heap) (I S : Addr) (rest : List Value) : Prop := ∃ (o : Obj) (es : Array (Int × Value)) (ep : Nat) (t : SetTable) (first : Value) (i : Nat), h.get? S = some o ∧ o.cls = .type "set" ∧ o.data = .set es ep t ∧ t.fits es.size = true ∧
  h.get? I = some { cls := .type "set_iterator", data := .fields #[first, rawInt i, .ref S, rawInt es.size, rawInt ep] } ∧
  ((byText w = true ∧ (∃ n : Nat, first = rawInt n) ∧ rest = ((pickOrder (w.params.setOrder S ep) es).toList.map (·.2)).drop i) ∨
   (byText w = false ∧ (t.led = true ∨ es.size = 0) ∧ ((es.size = 0 ∧ rest = [] ∧ first = rawInt (0 : Nat)) ∨ (∃ e j, es = #[e] ∧ t.place = #[j] ∧ ((rest = [e.2] ∧ first = rawInt (0 : Nat)) ∨ (rest = [] ∧ first = rawInt ((j + 1 : Nat) : Int)))))) ∨
   (∃ (T : Addr) (places : List Nat), first = .ref T ∧ h.IsTuple T (places.map fun (p : Nat) => rawInt (p : Int)).toArray ∧ (∀ p ∈ places, p < es.size) ∧ rest = (places.drop i).filterMap fun p => es[p]?.map (·.2)))
end
end Mine

-- part P30
namespace Mine
section
variable {prog : Program} {w : World} {A : Around} {E : Value → Shared → Prop} {s : Shared}
theorem entry_set_iter : entryFor table "set.__iter__" = some Builtin.«frozenset.__iter__» :=
  entryFor_alias (id' := "frozenset.__iter__") (by kernel_rfl) rfl (by decide +kernel) (by kernel_rfl)
theorem slot_siter_next : Slot "set_iterator" "__next__" "set_iterator.__next__" :=
  .of (owner := "set_iterator") (n := "__next__") (by rw [typeLookup_type, builtinLookup_eq_fast]; kernel_rfl) (by decide +kernel) (by decide +kernel) (by decide +kernel)
    (by first | exact .inl (by decide +kernel) | exact .inr (by decide +kernel)) (by rw [isSubtype_type]; kernel_rfl)
theorem entry_siter_next : entryFor table "set_iterator.__next__" = some Builtin.«set_iterator.__next__» := entryFor_of_tree (by kernel_rfl)
theorem args_siter_next (a : Value) : argsOk "set_iterator.__next__" ⟨[a], []⟩ := by unfold argsOk; kernel_rfl
theorem args_set_iter (a : Value) : argsOk "set.__iter__" ⟨[a], []⟩ := by unfold argsOk; kernel_rfl

theorem below_one (j k : Nat) : SetTable.below #[j] k = if j < k then 1 else 0 := by
  simp only [SetTable.below, SetTable.below.go, List.size_toArray, List.length_cons, List.length_nil]
  by_cases h : j < k <;> simp [h]

theorem perm_filterMap {α β : Type} {a b : List α} (p : a.Perm b) (f : α → Option β) : (a.filterMap f).Perm (b.filterMap f) := p.filterMap f
theorem setIter_ {S : Addr} {es : Array (Int × Value)} {Q : Value → Shared → Prop} (hS : SetS prog w s.heap S es (!byText w))
    (h : ∀ I rest h' dr, rest.Perm (es.toList.map (·.2)) → SIter w h' I S rest → s.heap.objs.size ≤ I → (∀ b o, s.heap.get? b = some o → h'.get? b = some o) → Q (.ref I) { s with heap := h', drawn := dr }) :
    wpAny (model prog w) A (pyIter (.ref S)) Q E s := by
  obtain ⟨o, ep, t, ho, hex, hd, hel, hb, hf, hl, hp⟩ := hS
  have hT : s.TypeIs (.ref S) "set" := ⟨o, ho, hex.1⟩
  refine wpAny_pyIter_slot hT F.slot_set_iter (wpAny_call_entry F.slot_set_iter hT entry_set_iter ?_ (args_set_iter _))
  show wpAny _ _ (do
    let n ← Builtin.Frozenset.sizeOf S
    let first ← if ← setDrawn S then newTuple ((← drawOrder n (List.range n)).map fun (i : Nat) => rawInt i) else pure (rawInt 0)
    ret (← newFields "set_iterator" [first, rawInt 0, .ref S, rawInt n, rawInt (← setEpoch S)])) _ _ _
  unfold Builtin.Frozenset.sizeOf
  refine wpAny_bind (wpAny_bind (wpAny_setEntries_of ho hd hf (wpAny_pure ?_)))
  rw [setDrawn_eq]
  refine wpAny_bind (wpAny_bind (wpAny_setState_of ho hd hf (wpAny_bind (byText_ (wpAny_pure ?_)))))
  have fin : ∀ (first : Value) (h1 : Heap) (dr : Drawn) rest, (∀ b o, s.heap.get? b = some o → h1.get? b = some o) → s.heap.objs.size ≤ h1.objs.size → rest.Perm (es.toList.map (·.2)) → (∀ h2, (∀ b o, h1.get? b = some o → h2.get? b = some o) → h2.get? h1.objs.size = some { cls := .type "set_iterator", data := .fields #[first, rawInt (0 : Nat), .ref S, rawInt es.size, rawInt ep] } → SIter w h2 h1.objs.size S rest) →
      wpAny (model prog w) A.in1 (do ret (← newFields "set_iterator" [first, rawInt 0, .ref S, rawInt es.size, rawInt (← setEpoch S)])) (fun fin s' => ∃ v, fin = .done (.ret v) ∧ ∃ T' r, s'.TypeIs v T' ∧ typeLookup (.type T') "__next__" = pure (some r) ∧ Q v s') E { s with heap := h1, drawn := dr } := fun first h1 dr rest hk hs hr hi => by
    refine wpAny_bind (wpAny_setEpoch_of (s := { s with heap := h1, drawn := dr }) (hk _ _ ho) hd hf ?_)
    refine wpAny_bind (wpAny_newObj_type (wpAny_pure ⟨_, rfl, "set_iterator", _, ⟨_, Heap.get?_push_size _ rfl, rfl⟩, slot_siter_next.lookup, ?_⟩))
    exact h _ rest _ dr hr (hi _ (fun b o e => Heap.get?_push_of_some _ e) (Heap.get?_push_size _ rfl)) hs fun b o e => Heap.get?_push_of_some _ (hk b o e)
  cases hbt : byText w with
  | true =>
    rw [if_neg (by simp)]
    refine wpAny_bind (wpAny_pure ?_)
    exact fin _ s.heap s.drawn ((pickOrder (w.params.setOrder S ep) es).toList.map (·.2)) (fun _ _ e => e) (Nat.le_refl _) ((pick_perm _ es).map _) fun h2 hk hI => ⟨o, es, ep, t, _, 0, hk _ _ ho, hex.1, hd, hf, hI, .inl ⟨hbt, ⟨0, rfl⟩, by simp⟩⟩
  | false =>
    rw [hbt] at hl
    by_cases h2 : es.size ≤ 1
    · rw [if_neg (by simp; omega)]
      refine wpAny_bind (wpAny_pure ?_)
      refine fin _ s.heap s.drawn (es.toList.map (·.2)) (fun _ _ e => e) (Nat.le_refl _) (.refl _) fun h2' hk hI => ⟨o, es, ep, t, _, 0, hk _ _ ho, hex.1, hd, hf, hI, .inr (.inl ⟨hbt, .inl hl, ?_⟩)⟩
      have hps : t.place.size = es.size := by
        simp only [SetTable.fits, Bool.and_eq_true, beq_iff_eq] at hf; exact hf.1
      rcases Nat.lt_or_ge 0 es.size with h3 | h3
      · have h4 : es.size = 1 := by omega
        obtain ⟨e, he⟩ : ∃ e, es = #[e] := ⟨es[0], by apply Array.ext; simp [h4]; intro i h1 h2; simp at h2; subst h2; rfl⟩
        obtain ⟨j, hj⟩ : ∃ j, t.place = #[j] := ⟨t.place[0], by apply Array.ext; simp [hps, h4]; intro i h1 h2; simp at h2; subst h2; rfl⟩
        exact .inr ⟨e, j, he, hj, .inl ⟨by rw [he]; rfl, rfl⟩⟩
      · have h4 : es.size = 0 := by omega
        have : es = #[] := Array.eq_empty_of_size_eq_zero h4
        subst this
        exact .inl ⟨rfl, rfl, rfl⟩
    · have hpl : t.plain = false := hp (by omega)
      rw [if_pos (by simp [hpl]; omega)]
      refine wpAny_bind ?_
      have hrange : (List.range es.size).length = es.size := by simp
      have dw : wpAny (model prog w) A.in1 (drawOrder es.size (List.range es.size)) (fun ys s' => ∃ dr, s' = { s with drawn := dr } ∧ ys.Perm (List.range es.size)) E s := by
        have := draw_order (prog := prog) (w := w) (A := A.in1) (E := E) (List.range es.size) s (fun ys s' => ∃ dr, s' = { s with drawn := dr } ∧ ys.Perm (List.range es.size)) fun ys dr hp => ⟨dr, rfl, hp⟩
        rwa [hrange] at this
      refine wpAny_mono dw (fun ys s' ⟨dr, e, hperm⟩ => ?_) fun _ _ z => z
      subst e
      have hlen : ys.length = es.size := by rw [hperm.length_eq]; simp
      refine wpAny_bind (wpAny_newTuple ?_ (by rw [List.length_map, hlen]; exact fits_of_scanBound hb))
      have hy : ∀ p ∈ ys, p < es.size := fun p hp => by simpa using hperm.mem_iff.mp hp
      refine fin _ (s.heap.push { cls := .type "tuple", data := .seq (ys.map fun (i : Nat) => rawInt (i : Int)).toArray }) dr (ys.filterMap fun p => es[p]?.map (·.2)) (fun b o e => Heap.get?_push_of_some _ e) (by rw [Heap.size_push]; exact Nat.le_succ _) ?_ fun h2' hk hI => ⟨o, es, ep, t, _, 0, hk _ _ (Heap.get?_push_of_some _ ho), hex.1, hd, hf, hI, .inr (.inr ⟨_, ys, rfl, ⟨_, hk _ _ (Heap.get?_push_size _ rfl), rfl, _, rfl⟩, hy, by simp⟩)⟩
      refine (perm_filterMap hperm _).trans ?_
      have : (List.range es.size).filterMap (fun p => es[p]?.map (·.2)) = es.toList.map (·.2) := by
        have h1 := filterMap_getElem?_range es
        rw [← h1, List.map_filterMap]
      rw [this]
end
end Mine

-- part P31
namespace Mine
section
variable {prog : Program} {w : World} {A : Around} {E : Value → Shared → Prop} {s : Shared}
theorem siter_eq (a : Value) : Builtin.«set_iterator.__next__» ⟨[a], []⟩ = (do
  let [first, .int i _, s, .int size _, .int epoch _] := (← fieldsOf a).toList | unsupported "internal:set_iterator"
  let .ref a' := s | rule "set_iterator.__next__.exhausted-before"; raiseNew (← newExc (.type "StopIteration") [])
  if ((← setEntries a').size : Int) != size then
    rule "set_iterator.__next__.size-changed"
    setField a 3 (rawInt (-1))
    raiseError "RuntimeError" "Set changed size during iteration"
  if let .int slot _ := first then
    match ← setNext a' slot.toNat i.toNat epoch.toNat with
    | some (x, next) =>
      setField a 0 (rawInt next)
      setField a 1 (rawInt (i + 1))
      ret x
    | none => setField a 2 .none; raiseNew (← newExc (.type "StopIteration") [])
  else
    let some places ← seqItems? first | unsupported "internal:set_iterator"
    match places[i.toNat]? with
    | some (.int place _) =>
      let x ← setNextDrawn a' place.toNat epoch.toNat
      setField a 1 (rawInt (i + 1))
      ret x
    | some _ => unsupported "internal:set_iterator"
    | none => setField a 0 (rawInt 0); setField a 2 .none; raiseNew (← newExc (.type "StopIteration") [])) := rfl
theorem fieldsOf_ {a : Addr} {o : Obj} {vs : Array Value} {Q : Array Value → Shared → Prop} (ho : s.heap.get? a = some o) (hd : o.data = .fields vs) (h : Q vs s) : wpAny (model prog w) A (fieldsOf (.ref a)) Q E s := by
  unfold fieldsOf
  refine wpAny_bind (wpAny_load ho ?_)
  rw [hd]; exact wpAny_pure h
/-- what the turn of a walk does before it ends -/
theorem siter_turn {I S : Addr} {x : Value} {rest : List Value} {Q : Value → Shared → Prop} (it : SIter w s.heap I S (x :: rest)) (h : ∀ h', SIter w h' I S rest → Heap.SameBut I s.heap h' → Q x { s with heap := h' }) :
    wpAny (model prog w) A (Builtin.«set_iterator.__next__» ⟨[.ref I], []⟩) (fun fin s' => ∃ v, fin = .done (.ret v) ∧ Q v s') E s := by
  obtain ⟨o, es, ep, t, first, i, ho, hc, hd, hf, hI, cs⟩ := it
  have hne : S ≠ I := fun q => by
    subst q; rw [ho] at hI; cases hI; exact absurd hc (show Value.type "set_iterator" ≠ .type "set" by decide)
  rw [siter_eq]
  refine wpAny_bind (fieldsOf_ hI rfl ?_)
  dsimp only [rawInt]
  refine wpAny_bind (wpAny_setEntries_of ho hd hf ?_)
  rw [if_neg (by simp)]
  -- fields set
  have put : ∀ (fs : Array Value) (k : Nat) (v : Value) (h1 : Heap) (Q' : Unit → Shared → Prop), h1.get? I = some { cls := .type "set_iterator", data := .fields fs } → k < fs.size → (∀ h2, h2.get? I = some { cls := .type "set_iterator", data := .fields (fs.setIfInBounds k v) } → Heap.SameBut I h1 h2 → Q' () { s with heap := h2 }) →
      wpAny (model prog w) A (setField (.ref I) k v) Q' E { s with heap := h1 } := fun fs k v h1 Q' e hk hq => wpAny_setField_rec (s := { s with heap := h1 }) e hk hq
  rcases cs with ⟨hb, ⟨n, rfl⟩, hr⟩ | ⟨hb, hl, hr⟩ | ⟨T, places, rfl, hT, hp, hr⟩
  · obtain ⟨e1, e2⟩ := drop_get hr.symm
    dsimp only [rawInt]
    rw [setNext_eq]
    refine wpAny_bind (wpAny_bind (wpAny_setState_of ho hd hf ?_))
    dsimp only
    refine wpAny_bind (byText_ ?_)
    rw [if_pos hb, if_neg (by simp)]
    refine wpAny_bind (setWalk_text hb ho hd hf (wpAny_pure ?_))
    have e3 : (pickOrder (w.params.setOrder S ep) es)[(i : Int).toNat]?.map (fun e => (e.2, ((n : Int).toNat))) = some (x, n) := by
      rw [List.getElem?_map] at e1
      simp only [Int.toNat_natCast]
      rw [← Array.getElem?_toList]
      cases q : (pickOrder (w.params.setOrder S ep) es).toList[i]? with
      | none => rw [q] at e1; cases e1
      | some y => rw [q] at e1; simp at e1; simp [e1]
    rw [e3]
    dsimp only
    refine wpAny_bind (put _ 0 _ s.heap _ hI (by simp) fun h1 g1 s1 => wpAny_bind (put _ 1 _ h1 _ g1 (by simp) fun h2 g2 s2 => wpAny_pure ⟨_, rfl, ?_⟩))
    refine h h2 ⟨o, es, ep, t, .int (n : Int) 0, i + 1, (s2.2 S hne).trans ((s1.2 S hne).trans ho), hc, hd, hf, ?_, .inl ⟨hb, ⟨n, rfl⟩, ?_⟩⟩ (s1.trans s2)
    · simpa [rawInt] using g2
    · rw [← e2]
  · rcases hr with ⟨_, h1, _⟩ | ⟨e, j, he, hj, ⟨hr, hfst⟩ | ⟨hr, _⟩⟩
    · cases h1
    · subst hfst
      obtain ⟨rfl, rfl⟩ := List.cons.inj hr
      have hled : t.led = true := hl.resolve_right (by rw [he]; simp)
      dsimp only [rawInt]
      rw [setNext_eq]
      refine wpAny_bind (wpAny_bind (wpAny_setState_of ho hd hf ?_))
      dsimp only
      refine wpAny_bind (byText_ ?_)
      rw [if_neg (by rw [hb]; simp), if_neg (by rw [he]; simp)]
      refine wpAny_bind ?_
      show wpAny _ _ (if (!t.led && !es.isEmpty) = true then unsupported "set:maker-not-led" else pure ()) _ _ _
      rw [if_neg (by simp [hled])]
      refine wpAny_pure (wpAny_pure ?_)
      have hbel : SetTable.below t.place (Int.toNat ((0 : Nat) : Int)) = 0 := by rw [hj]; rw [below_one]; simp
      rw [hbel, he, hj]
      simp only [List.getElem?_toArray, List.getElem?_cons_zero]
      refine wpAny_bind (put _ 0 _ s.heap _ hI (by simp) fun h1 g1 s1 => wpAny_bind (put _ 1 _ h1 _ g1 (by simp) fun h2 g2 s2 => wpAny_pure ⟨_, rfl, ?_⟩))
      refine h h2 ⟨o, es, ep, t, .int ((j + 1 : Nat) : Int) 0, i + 1, (s2.2 S hne).trans ((s1.2 S hne).trans ho), hc, hd, hf, ?_, .inr (.inl ⟨hb, hl, .inr ⟨e, j, he, hj, .inr ⟨rfl, rfl⟩⟩⟩)⟩ (s1.trans s2)
      simpa [rawInt] using g2
    · cases hr
  · obtain ⟨o', ho', hc', n', hd'⟩ := id hT
    have hTI : T ≠ I := fun q => by
      subst q; rw [ho'] at hI; cases hI; exact absurd hc' (show Value.type "set_iterator" ≠ .type "tuple" by decide)
    -- the next place
    have hi : i < places.length := by
      rcases Nat.lt_or_ge i places.length with q | q
      · exact q
      · rw [List.drop_eq_nil_of_le q] at hr; cases hr
    have hpl : places[i] < es.size := hp _ (List.getElem_mem hi)
    have hdrop : places.drop i = places[i] :: places.drop (i + 1) := List.drop_eq_getElem_cons hi
    rw [hdrop, List.filterMap_cons_some (b := es[places[i]].2) (by rw [Array.getElem?_eq_getElem hpl]; rfl)] at hr
    obtain ⟨hx, hr'⟩ := List.cons.inj hr
    subst hx
    dsimp only
    refine wpAny_bind (wpAny_seqItems ho' hd' ?_)
    dsimp only
    have e3 : ((places.map fun (p : Nat) => rawInt (p : Int)).toArray)[(i : Int).toNat]? = some (.int (places[i] : Int) 0) := by
      simp [hi, rawInt]
    rw [e3]
    dsimp only
    have e4 : wpAny (model prog w) A (setNextDrawn S (Int.toNat (places[i] : Int)) (Int.toNat (ep : Int))) (fun v s' => v = es[places[i]].2 ∧ s' = s) E s := by
      unfold setNextDrawn
      refine wpAny_bind (wpAny_setState_of ho hd hf ?_)
      dsimp only
      rw [if_neg (by simp)]
      simp only [Int.toNat_natCast]
      rw [Array.getElem?_eq_getElem hpl]
      exact wpAny_pure ⟨rfl, rfl⟩
    refine wpAny_bind (wpAny_mono e4 (fun v s' ⟨q1, q2⟩ => ?_) fun _ _ z => z)
    subst q1 q2
    refine wpAny_bind (put _ 1 _ s'.heap _ hI (by simp) fun h2 g2 s2 => wpAny_pure ⟨_, rfl, ?_⟩)
    refine h h2 ⟨o, es, ep, t, .ref T, i + 1, (s2.2 S hne).trans ho, hc, hd, hf, ?_, .inr (.inr ⟨T, places, rfl, ⟨o', (s2.2 T hTI).trans ho', hc', n', hd'⟩, hp, hr'⟩)⟩ s2
    simpa [rawInt] using g2

theorem stop_ {B : Around} (hh : B.handled = none) {P : Shared → Prop} (h : ∀ h' e, (∀ b o, s.heap.get? b = some o → h'.get? b = some o) → (∃ o, h'.get? e = some o ∧ o.cls = .type "StopIteration") → P { s with heap := h' }) {Q' : PySem.Fin → Shared → Prop} {E' : Value → Shared → Prop} (hE : ∀ e s', P s' → (∃ o, s'.heap.get? e = some o ∧ o.cls = .type "StopIteration") → E' (.ref e) s') :
    wpAny (model prog w) B (do raiseNew (← newExc (.type "StopIteration") [])) Q' E' s := by
  refine wpAny_bind ?_
  simp only [newExc, newTuple]
  refine wpAny_bind (wpAny_newObj_type ?_ (by size_fits))
  refine wpAny_bind (m := firstArgMember _ _) (wpAny_of_eq (a := Value.none) (by first | rfl | (simp only [firstArgMember]; rfl)) ?_)
  refine wpAny_newObj_type ?_ (by size_fits)
  simp only [raiseNew]
  refine wpAny_bind (wpAny_handled ?_)
  rw [hh]
  refine wpAny_bind (wpAny_pure (wpAny_throw ?_))
  exact hE _ _ (h _ _ (fun b o e => Heap.get?_push_of_some _ (Heap.get?_push_of_some _ e)) ⟨_, Heap.get?_push_size _ rfl, rfl⟩) ⟨_, Heap.get?_push_size _ rfl, rfl⟩
theorem siter_end {I S : Addr} {P : Shared → Prop} {Q' : PySem.Fin → Shared → Prop} {E' : Value → Shared → Prop} (hh : A.handled = none) (it : SIter w s.heap I S []) (h : ∀ h', Heap.ExtBut I s.heap h' → P { s with heap := h' }) (hE : ∀ e s', P s' → (∃ o, s'.heap.get? e = some o ∧ o.cls = .type "StopIteration") → E' (.ref e) s') :
    wpAny (model prog w) A (Builtin.«set_iterator.__next__» ⟨[.ref I], []⟩) Q' E' s := by
  obtain ⟨o, es, ep, t, first, i, ho, hc, hd, hf, hI, cs⟩ := it
  rw [siter_eq]
  refine wpAny_bind (fieldsOf_ hI rfl ?_)
  dsimp only [rawInt]
  refine wpAny_bind (wpAny_setEntries_of ho hd hf ?_)
  rw [if_neg (by simp)]
  have tail : ∀ (h1 : Heap), Heap.SameBut I s.heap h1 → wpAny (model prog w) A (do raiseNew (← newExc (.type "StopIteration") [])) Q' E' { s with heap := h1 } := fun h1 s1 =>
    stop_ (s := { s with heap := h1 }) hh (P := P) (fun h' e hk _ => h h' fun b o hb e => hk b o ((s1.2 b hb).trans e)) hE
  rcases cs with ⟨hb, ⟨n, rfl⟩, hr⟩ | ⟨hb, hl, hr⟩ | ⟨T, places, rfl, hT, hp, hr⟩
  · dsimp only [rawInt]
    rw [setNext_eq]
    refine wpAny_bind (wpAny_bind (wpAny_setState_of ho hd hf ?_))
    dsimp only
    refine wpAny_bind (byText_ ?_)
    rw [if_pos hb, if_neg (by simp)]
    refine wpAny_bind (setWalk_text hb ho hd hf (wpAny_pure ?_))
    have e3 : (pickOrder (w.params.setOrder S ep) es)[(i : Int).toNat]? = none := by
      simp only [Int.toNat_natCast]
      have h1 := List.drop_eq_nil_iff.mp hr.symm
      rw [List.length_map] at h1
      rw [← Array.getElem?_toList]
      exact List.getElem?_eq_none h1
    rw [e3]
    dsimp only [Option.map_none]
    exact wpAny_bind (wpAny_setField_rec hI (by simp) fun h1 g1 s1 => tail h1 s1)
  · have key : ∃ n : Nat, first = rawInt (n : Int) ∧ es[SetTable.below t.place n]? = none := by
      rcases hr with ⟨h0, _, hfst⟩ | ⟨e, j, he, hj, ⟨hr, _⟩ | ⟨_, hfst⟩⟩
      · refine ⟨0, hfst, ?_⟩
        have : es = #[] := Array.eq_empty_of_size_eq_zero h0
        subst this; simp
      · cases hr
      · refine ⟨j + 1, hfst, ?_⟩
        rw [he, hj, below_one, if_pos (Nat.lt_succ_self _)]
        simp
    obtain ⟨n, rfl, key⟩ := key
    dsimp only [rawInt]
    rw [setNext_eq]
    refine wpAny_bind (wpAny_bind (wpAny_setState_of ho hd hf ?_))
    dsimp only
    refine wpAny_bind (byText_ ?_)
    have hsz : es.size ≤ 1 := by
      rcases hr with ⟨h0, _⟩ | ⟨e, j, he, _⟩
      · omega
      · rw [he]; simp
    rw [if_neg (by rw [hb]; simp), if_neg (by simp; intro _; omega)]
    refine wpAny_bind ?_
    show wpAny _ _ (if (!t.led && !es.isEmpty) = true then unsupported "set:maker-not-led" else pure ()) _ _ _
    rw [if_neg (by
      rcases hl with h1 | h1
      · simp [h1]
      · have : es = #[] := Array.eq_empty_of_size_eq_zero h1
        simp [this])]
    refine wpAny_pure (wpAny_pure ?_)
    simp only [Int.toNat_natCast]
    rw [key]
    dsimp only
    exact wpAny_bind (wpAny_setField_rec hI (by simp) fun h1 g1 s1 => tail h1 s1)
  · obtain ⟨o', ho', hc', n', hd'⟩ := id hT
    have hi : places.length ≤ i := by
      rcases Nat.lt_or_ge i places.length with q | q
      · exfalso
        have hpl : places[i] < es.size := hp _ (List.getElem_mem q)
        rw [List.drop_eq_getElem_cons q, List.filterMap_cons_some (b := es[places[i]].2) (by rw [Array.getElem?_eq_getElem hpl]; rfl)] at hr
        cases hr
      · exact q
    dsimp only
    refine wpAny_bind (wpAny_seqItems ho' hd' ?_)
    dsimp only
    have e3 : ((places.map fun (p : Nat) => rawInt (p : Int)).toArray)[(i : Int).toNat]? = none := by simp [hi]
    rw [e3]
    dsimp only
    exact wpAny_bind (wpAny_setField_rec hI (by simp) fun h1 g1 s1 => wpAny_bind (wpAny_setField_rec (s := { s with heap := h1 }) g1 (by simp) fun h2 g2 s2 => tail h2 (s1.trans s2)))
/-- pyNext of a walk of a set -/
theorem siter_next {I S : Addr} {x : Value} {rest : List Value} {Q : Option Value → Shared → Prop} (it : SIter w s.heap I S (x :: rest)) (h : ∀ h', SIter w h' I S rest → Heap.SameBut I s.heap h' → Q (some x) { s with heap := h' }) :
    wpAny (model prog w) A (pyNext (.ref I)) Q E s := by
  have it0 := it
  obtain ⟨o, es, ep, t, first, i, ho, hc, hd, hf, hI, cs⟩ := it0
  have hT : s.TypeIs (.ref I) "set_iterator" := ⟨_, hI, rfl⟩
  unfold pyNext
  exact wpAny_bind (wpAny_attempt (wpAny_callSpecial?_slot (name := Str.ofString "__next__") hT slot_siter_next
    (wpAny_call_entry slot_siter_next hT entry_siter_next (siter_turn it fun h' a b => wpAny_pure (h h' a b)) (args_siter_next _))))
theorem siter_stop {I S : Addr} {Q : Option Value → Shared → Prop} (hh : A.handled = none) (it : SIter w s.heap I S []) (h : ∀ h', Heap.ExtBut I s.heap h' → Q none { s with heap := h' }) :
    wpAny (model prog w) A (pyNext (.ref I)) Q E s := by
  have it0 := it
  obtain ⟨o, es, ep, t, first, i, ho, hc, hd, hf, hI, cs⟩ := it0
  have hT : s.TypeIs (.ref I) "set_iterator" := ⟨_, hI, rfl⟩
  unfold pyNext
  refine wpAny_bind (wpAny_attempt (wpAny_callSpecial?_slot (name := Str.ofString "__next__") hT slot_siter_next
    (wpAny_call_entry slot_siter_next hT entry_siter_next (siter_end (P := fun s' => Q none s') hh it h fun e s' hq ⟨o, e1, e2⟩ => ?_) (args_siter_next _))))
  exact wpAny_bind (wpAny_isInstance (T := "StopIteration") (b := true) ⟨o, e1, e2⟩ isSubtype_stop (wpAny_pure hq))
end
end Mine

-- part P32
namespace Mine
section
variable {prog : Program} {w : World} {A : Around} {E : Value → Shared → Prop} {s : Shared}
theorem SIter.keep {h h' : Heap} {I S : Addr} {rest : List Value} {S' : Addr} (x : SIter w h I S rest) (k : ∀ b o, b ≠ S' → h.get? b = some o → h'.get? b = some o) (hI : I ≠ S') (hS : S ≠ S') (hL : ∃ xs n, h.get? S' = some { cls := .type "list", data := .seq xs n }) : SIter w h' I S rest := by
  obtain ⟨o, es, ep, t, first, i, ho, hc, hd, hf, hi, cs⟩ := x
  refine ⟨o, es, ep, t, first, i, k S o hS ho, hc, hd, hf, k I _ hI hi, cs.imp id fun c => c.imp id fun ⟨T, places, e, ⟨o', e', hc', r⟩, r'⟩ => ⟨T, places, e, ⟨o', k T o' (fun q => ?_) e', hc', r⟩, r'⟩⟩
  subst q
  obtain ⟨xs, n, e2⟩ := hL
  rw [e'] at e2; cases e2
  exact absurd hc' (show Value.type "list" ≠ .type "tuple" by decide)
theorem ext_loop {D I S : Addr} {res : Value} (hh : A.handled = none) (hDI : D ≠ I) (hDS : D ≠ S) {R : Result → Shared → Prop} : ∀ (rest : List Value) (acc : Array Value) (c : Nat) (s : Shared), SIter w s.heap I S rest → s.heap.get? D = some { cls := .type "list", data := .seq acc c } → acc.size + rest.length ≤ 4000 →
    (∀ h' acc' c', h'.get? D = some { cls := .type "list", data := .seq acc' c' } → acc'.toList = acc.toList ++ rest → (∀ b o, b ≠ D → b ≠ I → s.heap.get? b = some o → h'.get? b = some o) → R (.ok (.ret res)) { s with heap := h' }) →
    codeAny (model prog w) A (.builtin "list.extend.loop" ⟨[.ref D, .ref I, res], []⟩) R s
  | [], acc, c, s, it, hD, hz, h => by
    refine codeAny_builtin F.entry_extend_loop ?_
    rw [Around.under_plainId F.plain_extend_loop _]
    show wpAny _ A.in1 (pyNext (.ref I) >>= _) _ _ s
    refine wpAny_bind (siter_stop hh it fun h' x => wpAny_pure ?_)
    exact h h' acc c (x D _ hDI hD) (by simp) fun b o _ hb e => x b o hb e
  | v :: rest, acc, c, s, it, hD, hz, h => by
    simp only [List.length_cons] at hz
    refine codeAny_builtin F.entry_extend_loop ?_
    rw [Around.under_plainId F.plain_extend_loop _]
    show wpAny _ A.in1 (pyNext (.ref I) >>= _) _ _ s
    refine wpAny_bind (siter_next it fun h1 it1 hs1 => ?_)
    have hD1 : h1.get? D = some { cls := .type "list", data := .seq acc c } := (hs1.2 D hDI).trans hD
    show wpAny _ A.in1 (updateSeq D (·.push v) >>= _) _ _ _
    refine wpAny_bind ?_
    refine wpAny_updateSeq (s := { s with heap := h1 }) hD1 rfl (wpAny_pure ⟨plainId_quiet F.plain_extend_loop _, ?_⟩) (by rw [sizeLine_is]; omega) (by show (acc.push v).size ≤ _; rw [Array.size_push, sizeLine_is]; omega)
    have hs2 : Heap.SameBut D h1 (h1.update D (Obj.mapSeq (·.push v))) := .update ..
    refine ext_loop hh hDI hDS rest (acc.push v) _ _ (it1.keep (S' := D) (fun b o hb e => (hs2.2 b hb).trans e) hDI.symm hDS.symm ⟨_, _, hD1⟩) (Heap.get?_update_self _ hD1 rfl) (by rw [Array.size_push]; omega) fun h' acc' c' a1 a2 a3 => h h' acc' c' a1 (by rw [a2]; simp) fun b o b1 b2 e => a3 b o b1 b2 ((hs2.2 b b1).trans ((hs1.2 b b2).trans e))
theorem len_set_lk : typeLookup (.type "set") "__len__" = pure (some (.builtin "set.__len__")) := by rw [typeLookup_type, builtinLookup_eq_fast]; kernel_rfl
theorem hint_set {r : Addr} (hT : s.TypeIs (.ref r) "set") {Q : Bool → Shared → Prop} (h : Q false s) : wpAny (model prog w) A (Builtin.List.listLengthHint (.ref r)) Q E s := by
  unfold Builtin.List.listLengthHint
  refine wpAny_bind (wpAny_specialOf hT len_set_lk ?_)
  generalize hid : ("set.__len__" : String) = id0
  wp_delta
  rw [show splitId id0 = some ("set", "__len__") from by subst hid; decide +kernel]
  subst hid
  refine wpAny_bind (wpAny_isInstance (T := "set") (b := true) hT (by rw [isSubtype_type]; kernel_rfl) ?_)
  refine wpAny_ite_split (fun hab => absurd hab (by decide)) (fun _ => ?_)
  refine wpAny_ite_split (fun _ => ?_) (fun hab => absurd (by decide +kernel) hab)
  refine wpAny_bind (wpAny_typeOf hT ?_)
  exact wpAny_pure h
theorem collect_set {S : Addr} {es : Array (Int × Value)} {ks : List Str} {Q : List Value → Shared → Prop} (hh : A.handled = none) (hS : SetS prog w s.heap S es (!byText w)) (hk : KeysAre es ks) (hz : ks.length < 3000)
    (h : ∀ vs ss h' dr, StrsAre vs ss → ss.Perm ks → (∀ b o, s.heap.get? b = some o → h'.get? b = some o) → Q vs { s with heap := h', drawn := dr }) : wpAny (model prog w) A (collect (.ref S)) Q E s := by
  have hS0 := hS
  obtain ⟨o, ep, t, ho, hex, hd, hel, hb, hf, hl, hp⟩ := hS0
  have hslt : S < s.heap.objs.size := Heap.lt_size ho
  unfold collect
  refine wpAny_bind (wpAny_runValue (codeAny_builtin F.entry_proto_collect ?_))
  rw [Around.under_plainId F.plain_proto_collect _]
  show wpAny _ A.in1 (newList [] >>= fun l => again (.builtin "list.__iadd__" ⟨[l, .ref S], []⟩)) _ _ s
  refine wpAny_bind (wpAny_newObj_type ?_ (by size_fits))
  refine wpAny_pure ⟨plainId_quiet F.plain_list_iadd _, codeAny_builtin F.entry_list_iadd ?_⟩
  rw [Around.under_plainId F.plain_list_iadd _]
  have hk1 : ∀ b o, s.heap.get? b = some o → (s.heap.push { cls := .type "list", data := .seq ([] : List Value).toArray }).get? b = some o := fun b o e => Heap.get?_push_of_some _ e
  have hS₁ : (s.heap.push { cls := .type "list", data := .seq ([] : List Value).toArray }).get? s.heap.objs.size = some { cls := .type "list", data := .seq ([] : List Value).toArray } := Heap.get?_push_size _ rfl
  have hSI : s.heap.objs.size ≠ S := Nat.ne_of_gt hslt
  show wpAny _ A.in1 (Builtin.List.listExtendWith (.ref s.heap.objs.size) (.ref S) (.ref s.heap.objs.size)) _ _ _
  unfold Builtin.List.listExtendWith
  refine wpAny_bind (wpAny_typeOf (T := "set") ⟨o, hk1 _ _ ho, hex.1⟩ ?_)
  have h1 : Builtin.List.listSameRef (.ref s.heap.objs.size) (.ref S) = false := by simp [Builtin.List.listSameRef, hSI]
  have h2 : (Value.type "set" == Value.type "list") = false := by decide
  have h3 : (Value.type "set" == Value.type "tuple") = false := by decide
  simp only [h1, h2, h3, Bool.or_false, Bool.false_eq_true, if_false]
  refine wpAny_bind (setIter_ (s := { s with heap := s.heap.push { cls := .type "list", data := .seq ([] : List Value).toArray } }) (hS.keep fun o e => hk1 _ _ e) fun I rest h2 dr hr it hI hk2 => ?_)
  have ho2 := hk2 _ _ (hk1 _ _ ho)
  refine wpAny_bind (wpAny_holding ?_)
  refine hint_set ⟨o, ho2, hex.1⟩ ?_
  show wpAny _ A.in1 (rule "list.extend.makes-room" >>= fun _ => Builtin.List.listTouch (.ref s.heap.objs.size) >>= fun _ =>
    again (.builtin "list.extend.loop" ⟨[.ref s.heap.objs.size, .ref I, .ref s.heap.objs.size], []⟩)) _ _ _
  refine wpAny_bind (wpAny_rule ?_)
  have hD2 := hk2 _ _ hS₁
  refine wpAny_bind ?_
  show wpAny _ A.in1 (updateSeq s.heap.objs.size (·.push .none) >>= fun _ => updateSeq s.heap.objs.size (·.pop)) _ _ _
  refine wpAny_bind (wpAny_updateSeq (s := { s with heap := h2, drawn := dr }) hD2 rfl ?_)
  have hS₂ := Heap.get?_update_self (Obj.mapSeq (·.push Value.none)) hD2 rfl
  refine wpAny_updateSeq (s := { s with heap := h2.update s.heap.objs.size (Obj.mapSeq (·.push Value.none)), drawn := dr }) hS₂ rfl ?_
  have hS₃ := Heap.get?_update_self (Obj.mapSeq (·.pop)) hS₂ rfl
  have hDI : s.heap.objs.size ≠ I := by
    have : (s.heap.push { cls := .type "list", data := .seq ([] : List Value).toArray }).objs.size = s.heap.objs.size + 1 := Heap.size_push ..
    have hI' : s.heap.objs.size + 1 ≤ I := by rw [← this]; exact hI
    exact Nat.ne_of_lt hI'
  have oth : ∀ b o, b ≠ s.heap.objs.size → h2.get? b = some o → ((h2.update s.heap.objs.size (Obj.mapSeq (·.push Value.none))).update s.heap.objs.size (Obj.mapSeq (·.pop))).get? b = some o :=
    fun b o hb e => (Heap.get?_update_other _ _ (Ne.symm hb)).trans ((Heap.get?_update_other _ _ (Ne.symm hb)).trans e)
  obtain ⟨ks', k1, k2⟩ := hk
  obtain ⟨ss, s1, s2⟩ := strsAre_perm hr.symm k1
  have hrl : rest.length < 3000 := by rw [StrsAre.length s1, (s2.trans k2).length_eq]; exact hz
  refine wpAny_pure ⟨plainId_quiet F.plain_extend_loop _, ext_loop (A := A) hh hDI hSI rest #[] _ _ (it.keep (S' := s.heap.objs.size) (fun b o hb e => oth b o hb e) hDI.symm hSI.symm ⟨_, _, hD2⟩) hS₃ (by simp; omega) fun h' acc' c' a1 a2 a3 => ?_⟩
  show wpAny _ A (load s.heap.objs.size >>= _) _ _ _
  refine wpAny_bind (wpAny_load a1 ?_)
  refine wpAny_pure ?_
  have := h rest ss h' dr s1 (s2.trans k2) fun b o e => a3 b o (Nat.ne_of_lt (Heap.lt_size e)) (fun q => by
    subst q
    have : (s.heap.push { cls := .type "list", data := .seq ([] : List Value).toArray }).objs.size = s.heap.objs.size + 1 := Heap.size_push ..
    have hI' : s.heap.objs.size + 1 ≤ b := by rw [← this]; exact hI
    exact absurd (Heap.lt_size e) (Nat.not_lt.mpr (Nat.le_of_succ_le hI'))) (oth b o (Nat.ne_of_lt (Heap.lt_size e)) (hk2 _ _ (hk1 _ _ e)))
  rw [show acc'.toList = rest by simpa using a2]
  exact this
end
end Mine

-- part P33
namespace Mine
section
variable {prog : Program} {w : World} {A : Around} {E : Value → Shared → Prop} {s : Shared}
theorem sortedHeap_at {h : Heap} {a : Addr} {vs : List Value} {n : Nat} (out : Array Value) (ho : h.get? a = some (seqObj "list" vs.toArray n)) : (∃ e, (sortedHeap h a vs out).get? a = some (seqObj "list" out e)) ∧ (∀ b o, b ≠ a → h.get? b = some o → (sortedHeap h a vs out).get? b = some o) ∧ h.objs.size ≤ (sortedHeap h a vs out).objs.size := by
  have ha : a < h.objs.size := Heap.lt_size ho
  obtain ⟨e1, ho1⟩ : ∃ e1, (h.update a (Obj.mapSeq fun _ => #[])).get? a = some (seqObj "list" #[] e1) := ⟨_, get?_update_seq ho (fun _ => #[])⟩
  have ho6 : (((h.update a (Obj.mapSeq fun _ => #[])).push (seqObj "tuple" vs.toArray 0)).push (seqObj "list" #[] 0)).get? a = some (seqObj "list" #[] e1) := Heap.get?_push_of_some _ (Heap.get?_push_of_some _ ho1)
  refine ⟨⟨_, get?_update_seq ho6 fun _ => out⟩, fun b o hb e => ?_, ?_⟩
  · refine (Heap.get?_update_other _ _ (Ne.symm hb)).trans (Heap.get?_push_of_some _ (Heap.get?_push_of_some _ ((Heap.get?_update_other _ _ (Ne.symm hb)).trans e)))
  · unfold sortedHeap
    rw [Heap.size_update, Heap.size_push, Heap.size_push, Heap.size_update]; omega
/-- a new list of strs is sorted -/
theorem sort_new {vs : List Value} {ss : List Str} {n : Nat} {a : Addr} {Q : Value → Shared → Prop} (ho : s.heap.get? a = some (seqObj "list" vs.toArray n)) (hS : StrsAre vs ss) (h64 : vs.length < 64)
    (h : ∀ out ss' h' e, StrsAre out.toList ss' → ss'.Perm ss → sortedS ss' = true → h'.get? a = some (seqObj "list" out e) → (∀ b o, b ≠ a → s.heap.get? b = some o → h'.get? b = some o) → s.heap.objs.size ≤ h'.objs.size → Q .none { s with heap := h' }) :
    wpAny (model prog w) A (call (.builtin "list.sort") [.ref a]) Q E s := by
  refine wpAny_call_entry slot_list_sort ⟨_, ho, rfl⟩ entry_list_sort (list_sort_treeK strKind_oneLt ho hS.keysOf (fun v₁ v₂ rest e => keyKind_strs (by rw [← e]; exact hS)) h64 fun st' hp hs => ⟨_, rfl, ?_⟩) (args_list_sort _)
  obtain ⟨ss', h1, h2, h3⟩ := sorted_out_str hS hp hs
  obtain ⟨⟨e, g1⟩, g2, g3⟩ := sortedHeap_at (vs := vs) ((arrOf st').map (·.2)) ho
  exact h _ ss' _ e h1 h2 h3 g1 g2 g3
theorem call_sorted_set {S : Addr} {es : Array (Int × Value)} {ks : List Str} {Q : Value → Shared → Prop} (hh : A.handled = none) (hS : SetS prog w s.heap S es (!byText w)) (hk : KeysAre es ks) (hz : ks.length < 60)
    (h : ∀ D xs ss h' dr e, StrsAre xs.toList ss → ss.Perm ks → sortedS ss = true → s.heap.objs.size ≤ D → h'.get? D = some (seqObj "list" xs e) → (∀ b o, s.heap.get? b = some o → h'.get? b = some o) → Q (.ref D) { s with heap := h', drawn := dr }) :
    wpAny (model prog w) A (call (.builtin "sorted") [.ref S]) Q E s := by
  refine Calls.call_function_entry kind_sorted plain_sorted entry_sorted (args_sorted1 _) ?_
  unfold Builtin.«sorted»
  refine wpAny_bind (m := checkCount "sorted" 1 1 _) (wpAny_pure ?_)
  refine wpAny_bind (sized (collect_set (A := A.in1) hh hS hk (by omega) fun vs ss h1 dr s1 s2 hk1 hsz => ?_))
  have hl : vs.length < 60 := by rw [StrsAre.length s1, s2.length_eq]; exact hz
  refine wpAny_bind (wpAny_newList ?_ (by rw [sizeLine_is]; omega))
  have hoL : (h1.push (seqObj "list" vs.toArray 0)).get? h1.objs.size = some (seqObj "list" vs.toArray 0) := Heap.get?_push_size _ rfl
  refine wpAny_bind (wpAny_holding (sort_new (s := { s with heap := h1.push (seqObj "list" vs.toArray 0), drawn := dr }) hoL s1 (by omega) fun out ss' h' e a1 a2 a3 a4 a5 a6 => ?_))
  refine wpAny_pure ⟨_, rfl, ?_⟩
  refine h h1.objs.size out ss' h' dr e a1 (a2.trans s2) a3 hsz a4 fun b o eb => a5 b o (fun q => ?_) (Heap.get?_push_of_some _ (hk1 b o eb))
  subst q
  exact absurd (Heap.lt_size eb) (Nat.not_lt.mpr hsz)
end

section
variable {c : Cx} {N : Lv} {env : Env} {ρ : Rho} {σ : Sig} {Q : V → Sig → Prop} {X : Exn → Sig → Prop}
noncomputable def okS (k : Str) : Prop := k.length ≤ 1000 ∧ PyData.strOk k = true
theorem strs_of {h : Heap} : ∀ {ss : List Str} {xs : List Value}, VRs h (ss.map .str) xs → StrsAre xs ss
  | [], xs, r => by simp only [List.map_nil, VRs] at r; subst r; exact .nil
  | k :: ss, xs, r => by
    simp only [List.map_cons, VRs, VR] at r
    obtain ⟨x, r', rfl, ⟨_, t, rfl⟩, r2⟩ := r
    exact .cons k t (strs_of r2)
theorem vrs_of_strs {h : Heap} : ∀ {xs : List Value} {ss : List Str}, StrsAre xs ss → (∀ k ∈ ss, okS k) → VRs h (ss.map .str) xs
  | _, _, .nil, _ => .nil
  | _, _, .cons k t r, hk => .cons (by simp only [VR]; exact ⟨hk k (.head _), t, rfl⟩) (vrs_of_strs r fun x hx => hk x (.tail _ hx))
theorem fresh_of {h : Heap} (R : Rel c σ h) {D : Addr} (hD : h.objs.size ≤ D) : σ D = none := by
  cases e : σ D with
  | none => rfl
  | some m => exact absurd (R.lt (a := D) (by rw [e]; simp)) (Nat.not_lt.mpr hD)
theorem B_set {d : Addr} {ss : List Str} (hhn : N.hn = true) (e : LR c σ d (ss.map .str)) (q : ∀ D, σ D = none → Q (.raw (.ref D)) (upd σ D (.set (dedupS [] ss)))) (hz : ss.length < 3000) : CallOp c N σ (.type "set") [.raw (.ref d)] Q X := fun A s QQ EE ys a R r p xp => by
  simp only [VRs] at r
  obtain ⟨x, _, rfl, r, rfl⟩ := r
  simp only [VR] at r; subst r
  obtain ⟨xs, hx, r⟩ := e.real R
  refine sized (call_set_strs (a.han hhn) hx (strs_of r) hz fun h' tk es a1 a2 hk hs => ?_)
  have f := fresh_of R (Nat.le_refl _)
  exact p (.raw (.ref s.heap.objs.size)) _ (upd σ s.heap.objs.size (.set (dedupS [] ss))) h' (tk, s.drawn) (q _ f) (by simp only [VR]) ((R.grow hk hs).add R.size ⟨es, a1, a2⟩) (ext_grow hk hs) (.upd (.inr (Nat.le_refl _)))
theorem B_sorted_set {S : Addr} {ks : List Str} (hhn : N.hn = true) (e : σ S = some (.set ks)) (hok : ∀ k ∈ ks, okS k) (q : ∀ ss, ss.Perm ks → sortedS ss = true → ∀ D, σ D = none → Q (.raw (.ref D)) (upd σ D (.list (ss.map .str)))) (hz : ks.length < 60) : CallOp c N σ (.builtin "sorted") [.raw (.ref S)] Q X := fun A s QQ EE ys a R r p xp => by
  simp only [VRs] at r
  obtain ⟨x, _, rfl, r, rfl⟩ := r
  simp only [VR] at r; subst r
  obtain ⟨es, hS, hk⟩ := (R.obj S _ e).2
  refine sized (call_sorted_set (a.han hhn) hS hk hz fun D xs ss h' dr e' s1 s2 s3 hD g hk hs => ?_)
  have f := fresh_of R hD
  exact p (.raw (.ref D)) _ (upd σ D (.list (ss.map .str))) h' (s.toks, dr) (q ss s2 s3 D f) (by simp only [VR]) ((R.grow hk hs).add (Nat.le_trans R.size hD) ⟨xs, ⟨_, g⟩, vrs_of_strs s1 fun k hk' => hok k (s2.mem_iff.mp hk')⟩) (ext_grow hk hs) (.upd (.inr hD))
end
end Mine

-- part P34
namespace Mine
section
variable {c : Cx} {N : Lv} {env : Env} {ρ : Rho} {σ : Sig} {Q : V → Sig → Prop} {X : Exn → Sig → Prop} {SQ : GF → Rho → Sig → Prop} {SX : Exn → Rho → Sig → Prop}
theorem S_assign_tup {es : List PySem.Expr} {k : Nat} {p' pos : Pos} {e : PySem.Expr} (hhn : N.hn = true) (g : EvG c N env ρ e σ (fun v σ' => ∃ ρ', Takes (.Tuple es k p') v ρ ρ' ∧ SQ .next ρ' σ') (fun ex σ' => SX ex ρ σ'))
    (hs : swapsWithSole [.Tuple es k p'] e pos.line env = pure false := by rfl) (hw : swappedStores [.Tuple es k p'] e env = pure none := by rfl) : StG c N env ρ (.Assign [.Tuple es k p'] e pos) σ SQ SX := fun A s QQ EE ot a R E p xp =>
  Assign_Tuple (EvG.runS g a R E xp fun v y σ' h' tk' ⟨ρ', pt, q⟩ r a1 R1 E1 x1 gr1 =>
    takes_ (s := at_ s h' tk') (B := mine env) (fun _ q => q) (a1.han hhn) pt (fun x _ => store_ok) R1 E1 r fun h2 tk2 R2 E2 x2 => p .next .next ρ' σ' h2 tk2 q rfl R2 E2 (x1.both.trans (x2.mono fun _ q => .inr q) fun a q => .inl q) gr1) hs hw
theorem bindsN_ {A : Around} {E : Value → Shared → Prop} : ∀ (xs : List Str) (l : List V) (ys : List Value) (ρ ρ' : Rho) (s : Shared) (Q : Unit → Shared → Prop), xs.length = l.length → VRs s.heap l ys → Binds (xs.zip l) ρ ρ' → Rel c σ s.heap → EnvR c σ env ρ s.heap →
    (∀ h' tk, Rel c σ h' → EnvR c σ env ρ' h' → Ext (mine env) s.heap h' → Q () (at_ s h' tk)) → wpAny (model c.prog c.w) A (assignInOrder (xs.map fun n => bindName env n) ys) Q E s
  | [], l, ys, ρ, ρ', s, Q, hl, r, b, R, Ev, h => by
    simp only [List.zip_nil_left] at b
    cases b
    exact PyProof.Rows.assignInOrder_nil (h s.heap (tks s) R Ev (.refl _))
  | x :: xs, [], ys, ρ, ρ', s, Q, hl, r, b, R, Ev, h => by simp at hl
  | x :: xs, v :: l, ys, ρ, ρ', s, Q, hl, r, b, R, Ev, h => by
    simp only [VRs] at r
    obtain ⟨y, ys, rfl, r1, r2⟩ := r
    simp only [List.zip_cons_cons] at b
    cases b with
    | cons pt b =>
      rw [List.map_cons]
      refine PyProof.Rows.assignInOrder_cons (wpAny_bindName (store_ R Ev pt r1 fun h1 tk1 R1 E1 x1 _ => ?_))
      exact bindsN_ xs l ys _ _ (at_ s h1 tk1) _ (by simpa using hl) (VRs.ext Ev.mine_noTup x1 r2) b R1 E1 fun h2 tk2 R2 E2 x2 => h h2 tk2 R2 E2 (x1.trans x2 fun a q => .inl q)
theorem VRs.rev {h : Heap} : ∀ {l : List V} {xs : List Value}, VRs h l xs → VRs h l.reverse xs.reverse
  | [], xs, r => by simp only [VRs] at r; subst r; simp [VRs]
  | v :: l, xs, r => by
    simp only [VRs] at r
    obtain ⟨x, r', rfl, r1, r2⟩ := r
    simp only [List.reverse_cons]
    exact (VRs.rev r2).snoc r1
theorem S_assign_swap {es : List PySem.Expr} {k : Nat} {p' pos : Pos} {e : PySem.Expr} {names : List Str} (hhn : N.hn = true) (g : EvG c N env ρ e σ (fun v σ' => ∃ l ρ', v = .tup l ∧ l.length = names.length ∧ Binds (names.reverse.zip l.reverse) ρ ρ' ∧ SQ .next ρ' σ') (fun ex σ' => SX ex ρ σ'))
    (hs : swapsWithSole [.Tuple es k p'] e pos.line env = pure false := by rfl) (hw : swappedStores [.Tuple es k p'] e env = pure (some names) := by rfl) : StG c N env ρ (.Assign [.Tuple es k p'] e pos) σ SQ SX := fun A s QQ EE ot a R E p xp =>
  Assign_Tuple_swapped (EvG.runS g a R E xp fun v y σ' h' tk' ⟨l, ρ', e1, hl, pt, q⟩ r a1 R1 E1 x1 gr1 => by
    subst e1
    simp only [VR] at r
    obtain ⟨t, xs, rfl, ht, r⟩ := r
    have hsz : xs.size = names.length := by rw [← Array.length_toList, r.length, hl]
    rw [← hsz]
    refine sized (s := at_ s h' tk') (unpackItems_tuple (a1.han hhn) ht.lib fun h1 x2 hs2 => ?_)
    have X : ∀ B, Ext B h' h1 := fun B => extBut_ext x2 hs2
    have hk : ∀ b o, h'.get? b = some o → h1.get? b = some o := fun b o e => x2 b o (Nat.ne_of_lt (Heap.lt_size e)) e
    refine bindsN_ names.reverse l.reverse xs.toList.reverse ρ ρ' (at_ s h1 tk') _ (by simp [hl]) (VRs.rev (R1.vrs (X _) r)) pt (R1.grow hk hs2) (E1.ext R1 (X _) (.refl _ _)) fun h3 tk3 R3 E3 x3 => ?_
    exact p .next .next ρ' σ' h3 tk3 q rfl R3 E3 ((x1.both.trans (X (both σ env)) fun a q => .inl q).trans (x3.mono fun _ q => .inr q) fun a q => .inl q) gr1) hs hw
end
end Mine

-- part P35
namespace Mine
section
variable {c : Cx} {N : Lv} {env : Env} {ρ ρc : Rho} {σ : Sig} {Q : V → Sig → Prop} {X : Exn → Sig → Prop} {SQ : GF → Rho → Sig → Prop} {SX : Exn → Rho → Sig → Prop}
theorem EnvR.away {h h' : Heap} {B : Addr → Prop} (Ev : EnvR c σ env ρ h) (x : Ext B h h') (n : NoTup B h) (hl : ¬ B env.locals) (hc : ∀ x k, env.cells.lookup x = some k → ¬ B k) (hf : ∀ f, env.frame = some f → ¬ B f) : EnvR c σ env ρ h' := by
  obtain ⟨m, hn, hv⟩ := Ev.vars
  refine ⟨Ev.kind, Ev.glob, Ev.blt, Ev.loc, fun y k e => ?_, Ev.apart, ⟨m, Ns.like hn x hl, fun y v hm => ?_⟩, Ev.nodup, Ev.kinds, ?_, ?_⟩
  · obtain ⟨a1, a2, v, a3⟩ := Ev.cells y k e
    exact ⟨a1, a2, v, IsCell.like a3 x (hc y k e)⟩
  · rcases hv y v hm with ⟨k1, z, e1, e2⟩ | ⟨k1, k, z, e1, e2, e3⟩
    · exact .inl ⟨k1, z, e1, VR.ext n x e2⟩
    · exact .inr ⟨k1, k, z, e1, IsCell.like e2 x (hc y k e1), VR.ext n x e3⟩
  · refine Ev.own.imp id fun ⟨o, e1, e2⟩ => ?_
    obtain ⟨o', e', l⟩ := x.keep _ o hl e1
    exact ⟨o', e', fun q => e2 (l.cls.symm.trans q)⟩
  · obtain ⟨f, o, e1, e2, e3, es, m', e4⟩ := Ev.hand
    obtain ⟨o', e', l⟩ := x.keep f o (hf f e1) e2
    exact ⟨f, o', e1, e', l.cls.trans e3, es, m', l.data.trans e4⟩
theorem S_assign_comp {x : Str} {pos' : Pos} {elt target iter : PySem.Expr} {ifs : List PySem.Expr} {scope : Scope} {p0 pos : Pos} {cl : List (Str × Addr)} (hhn : N.hn = true) (H : CompOk env ρ scope cl ρc) (hloc : ∀ x ∈ names target, (relabel scope env).names.lookup x = some .local) (hfree : ∀ x v, (x, some v) ∈ ρc → x ∉ names target) (hx : env.kindOf x = some .local)
    (g : IterG c N env ρ iter σ (fun l Need tg σ1 => tg target ∧ ∃ Inv : List V → List V → Sig → Prop, Inv l [] σ1 ∧
        (∀ C v l acc σ1, Inv (v :: l) acc σ1 → Need σ1 ∧ acc.length < 1000000 ∧ ∃ ρ2, Takes target v ρc ρ2 ∧ CompT c N (compEnvC scope cl C env) ρ2 σ1 (fun b σ2 => match b with | true => EvG c N (compEnvC scope cl C env) ρ2 elt σ2 (fun u σ3 => Inv l (acc ++ [u]) σ3) NoX | false => Inv l acc σ2) ifs) ∧
        (∀ acc σ1, Inv [] acc σ1 → Need σ1 ∧ ∀ D, σ1 D = none → ∃ ρ', Put x (some (.raw (.ref D))) ρ ρ' ∧ SQ .next ρ' (upd σ1 D (.list acc)))) (fun ex σ' => SX ex ρ σ'))
    (hs : ∀ x, foldedSetIterable iter env x = pure x := by intro _; rfl) (hsw : swapsWith (.ListComp elt [⟨target, iter, ifs, 0⟩] scope p0) (some (.Name x pos')) pos.line env = pure true := by rfl) :
    StG c N env ρ (.Assign [.Name x pos'] (.ListComp elt [⟨target, iter, ifs, 0⟩] scope p0) pos) σ SQ SX := fun A s QQ EE ot ak R E p xp => by
  show wpAny _ _ (exec _ env) _ _ _
  rw [exec_Assign_Name_used x pos' _ pos hsw, arm_evalThenUse_ListComp]
  have fin : ∀ acc σ1 D C h3 tk3, (∀ D, σ1 D = none → ∃ ρ', Put x (some (.raw (.ref D))) ρ ρ' ∧ SQ .next ρ' (upd σ1 D (.list acc))) → σ1 D = none → c.S.objs.size ≤ D → s.heap.objs.size ≤ D → C ≠ D → s.heap.objs.size ≤ C → Rel c σ1 h3 → AOk c N A σ1 h3 → EnvR c σ1 (compEnvC scope cl C env) ρc h3 → Ext (dom σ) s.heap h3 → Grown σ s.heap σ1 → (∃ ys, h3.PlainList D ys ∧ VRs h3 acc ys.toList) →
      compPost (model c.prog c.w) A EE (some (assign (.Name x pos') env)) (fun _ s'' => QQ .next s'') (.ref D) C (.ok .next) (at_ s h3 tk3) := fun acc σ1 D C h3 tk3 q hDn hDS hDs hCD hCs R3 a3 E3 X3 gr1 ⟨ys, hl, hr⟩ => by
    obtain ⟨ρ', pt, q⟩ := q D hDn
    have R4 : Rel c (upd σ1 D (.list acc)) h3 := R3.add hDS ⟨ys, hl, hr⟩
    have G4 : Grown σ s.heap (upd σ1 D (.list acc)) := gr1.trans (.upd (.inr hDs)) (Nat.le_refl _)
    have E4 : EnvR c (upd σ1 D (.list acc)) env ρ h3 := E.ext R X3 G4
    refine wpAny_assign_Name (storeL_ok hx ρ ρ' (.raw (.ref D)) (.ref D) (at_ s h3 tk3) _ A _ _ R4 E4 pt (by simp only [VR]) fun h4 tk4 R5 E5 x5 => ?_)
    have hlt : env.locals < s.heap.objs.size := let ⟨m, hn, _⟩ := E.vars; hn.lt
    have hCl : C ≠ env.locals := Nat.ne_of_gt (Nat.lt_of_lt_of_le hlt hCs)
    obtain ⟨m, hns, _⟩ := E3.vars
    have hns4 : h4.Ns C m := Ns.like hns x5 hCl
    refine ⟨m, hns4, fun h5 hs5 => ?_⟩
    have x6 : Ext (fun a => a = C) h4 h5 := .same hs5 (.inl rfl)
    have n6 : NoTup (fun a => a = C) h4 := fun a xs q ⟨o, e, hc, _, n, hd⟩ => by
      subst q
      obtain ⟨o', es, ep, e', hd', _⟩ := hns4
      rw [e] at e'; cases e'; rw [hd] at hd'; cases hd'
    have hCn : upd σ1 D (.list acc) C = none := by rw [upd_ne _ _ hCD]; exact E3.loc.1
    have R6 := R5.same hs5 hCn E3.loc.2 fun xs t => n6 _ xs rfl t
    have E6 := E5.away x6 n6 (fun q => hCl q.symm) (fun y k e q => by
      obtain ⟨_, _, v, hc⟩ := E.cells y k e
      subst q
      exact absurd hc.lt (Nat.not_lt.mpr hCs)) (fun f e q => by
      obtain ⟨f', o, e1, e2, _⟩ := E.hand
      rw [e] at e1; cases e1
      subst q
      exact absurd (Heap.lt_size e2) (Nat.not_lt.mpr hCs))
    exact p .next .next ρ' _ h5 tk4 q rfl R6 E6 ((X3.both.trans x5 fun a q => .inl (.inr (.inl q))).trans x6 fun a q => .inr (by subst q; exact hCs)) G4
  have z := comp_core (A := A) (s := s) (pos := p0) (QQ := fun _ s'' => QQ .next s'') (use := some (assign (.Name x pos') env)) hhn H hloc hfree g hs ak R E (fun e ex σ1 h1 tk1 q f R1 x1 gr1 => xp e ex ρ σ1 h1 tk1 q f R1 (E.ext R x1 gr1) x1.both gr1) fin
  refine wpAny_bind (wpAny_standAt (wpAny_bind ?_))
  first
    | exact wpAny_mono z (fun v s'' hq => wpAny_pure hq) fun _ _ z => z
    | exact wpAny_bind (wpAny_mono z (fun v s'' hq => wpAny_pure (wpAny_pure hq)) fun _ _ z => z)
end
end Mine

-- part P36
namespace Mine
noncomputable def runK {α : Type} (n : Nat) (lt : Nat → Nat → Bool) : KasT α → Option α
  | .ret a => some a
  | .ask i j k => if decide (i < n) && decide (j < n) && decide (i ≠ j) then runK n lt (k (lt i j)) else none
theorem runK_wp {α : Type} {n : Nat} {lt : Nat → Nat → Bool} {cmp : Nat → Nat → (Bool → Shared → Prop) → Shared → Prop} {Q : α → Shared → Prop} {s : Shared} (hc : ∀ i j C, i < n → j < n → i ≠ j → C (lt i j) s → cmp i j C s) : ∀ (t : KasT α) {r : α}, runK n lt t = some r → Q r s → t.kasWp cmp Q s
  | .ret a, r, e, q => by cases e; exact q
  | .ask i j k, r, e, q => by
    unfold runK at e
    split at e
    · rename_i h
      simp only [Bool.and_eq_true, decide_eq_true_eq] at h
      exact hc i j _ h.1.1 h.1.2 h.2 (runK_wp hc (k (lt i j)) e q)
    · cases e
noncomputable def ltS (a b : Str) : Bool := decide (a.cps.toList < b.cps.toList)
section
variable {prog : Program} {w : World} {A : Around} {E : Value → Shared → Prop} {s : Shared}
/-- pairs that lie as tuples, in a list of values -/
noncomputable def TupsAt (h : Heap) (vs : List Value) (kvs : List (Str × Value)) : Prop := vs.length = kvs.length ∧ ∀ (i : Nat) (k : Str) (v : Value), kvs[i]? = some (k, v) → ∃ T t, vs[i]? = some (Value.ref T) ∧ h.get? T = some { cls := .type "tuple", data := .seq #[.str k t, v] }
theorem katTups_of {h : Heap} : ∀ {vs : List Value} {kvs : List (Str × Value)}, TupsAt h vs kvs → ∃ fs, KatTups h vs fs ∧ fs.length = vs.length ∧ ∀ v ∈ fs, ∃ k t, v = .str k t
  | [], kvs, ⟨hl, _⟩ => ⟨[], trivial, rfl, fun v hv => by simp at hv⟩
  | v :: vs, [], ⟨hl, _⟩ => by simp at hl
  | v :: vs, (k, x) :: kvs, ⟨hl, hp⟩ => by
    obtain ⟨T, t, e1, e2⟩ := hp 0 k x rfl
    simp at e1; subst e1
    obtain ⟨fs, f1, f2, f3⟩ := katTups_of (vs := vs) (kvs := kvs) ⟨by simpa using hl, fun i k v e => by simpa using hp (i + 1) k v (by simpa using e)⟩
    refine ⟨.str k t :: fs, KatTups.cons e2 rfl rfl rfl f1, by simp [f2], fun u hu => ?_⟩
    rcases List.mem_cons.mp hu with rfl | hu
    · exact ⟨k, t, rfl⟩
    · exact f3 u hu
theorem sort_tups {vs : List Value} {kvs : List (Str × Value)} {n : Nat} {a : Addr} {p : Array Nat} {Q : Value → Shared → Prop} (ho : s.heap.get? a = some (seqObj "list" vs.toArray n)) (hT : TupsAt s.heap vs kvs) (hn : (kvs.map (·.1)).Nodup) (h2 : 2 ≤ vs.length) (h64 : vs.length < 64)
    (hr : runK kvs.length (fun i j => ltS ((kvs.map (·.1)).getD i ⟨#[]⟩) ((kvs.map (·.1)).getD j ⟨#[]⟩)) (kas_sort kvs.length) = some p)
    (h : ∀ h' e, h'.get? a = some (seqObj "list" (p.toList.map fun i => vs.getD i Value.none).toArray e) → (∀ b o, b ≠ a → s.heap.get? b = some o → h'.get? b = some o) → s.heap.objs.size ≤ h'.objs.size → Q .none { s with heap := h' }) :
    wpAny (model prog w) A (call (.builtin "list.sort") [.ref a]) Q E s := by
  refine wpAny_call_entry slot_list_sort ⟨_, ho, rfl⟩ entry_list_sort ?_ (args_list_sort _)
  rw [list_sort_plain]
  have ha : a < s.heap.objs.size := Heap.lt_size ho
  refine wpAny_bind (listItems_at ho rfl ?_)
  refine wpAny_bind (listUpdate_at ho rfl ?_ (by rw [List.size_toArray, sizeLine_eq]; omega) (Nat.zero_le _))
  obtain ⟨e1, ho1⟩ : ∃ e1, (s.heap.update a (Obj.mapSeq fun _ => #[])).get? a = some (seqObj "list" #[] e1) := ⟨_, get?_update_seq ho (fun _ => #[])⟩
  refine wpAny_bind (seqEpoch_at ho1 rfl ?_)
  refine wpAny_bind (wpAny_newTuple ?_ (by show vs.length ≤ _; rw [sizeLine_eq]; omega))
  refine wpAny_bind (wpAny_newList ?_ (Nat.zero_le _))
  refine wpAny_holding ?_
  have ho6 : (((s.heap.update a (Obj.mapSeq fun _ => #[])).push (seqObj "tuple" vs.toArray 0)).push (seqObj "list" #[] 0)).get? a = some (seqObj "list" #[] e1) := Heap.get?_push_of_some _ (Heap.get?_push_of_some _ ho1)
  have k6 : ∀ b o, b ≠ a → s.heap.get? b = some o → (((s.heap.update a (Obj.mapSeq fun _ => #[])).push (seqObj "tuple" vs.toArray 0)).push (seqObj "list" #[] 0)).get? b = some o := fun b o hb e => Heap.get?_push_of_some _ (Heap.get?_push_of_some _ ((Heap.get?_update_other _ _ (Ne.symm hb)).trans e))
  have s6 : s.heap.objs.size ≤ (((s.heap.update a (Obj.mapSeq fun _ => #[])).push (seqObj "tuple" vs.toArray 0)).push (seqObj "list" #[] 0)).objs.size := by rw [Heap.size_push, Heap.size_push, Heap.size_update]; omega
  show wpAny (model prog w) A.in1 _ _ E { s with heap := ((s.heap.update a (Obj.mapSeq fun _ => #[])).push (seqObj "tuple" vs.toArray 0)).push (seqObj "list" #[] 0) }
  generalize hH : ((s.heap.update a (Obj.mapSeq fun _ => #[])).push (seqObj "tuple" vs.toArray 0)).push (seqObj "list" #[] 0) = H at *
  have hT6 : TupsAt H vs kvs := ⟨hT.1, fun i k v e => by
    obtain ⟨T, t, q1, q2⟩ := hT.2 i k v e
    refine ⟨T, t, q1, k6 T _ (fun q => ?_) q2⟩
    subst q; rw [ho] at q2; exact absurd (congrArg Obj.cls (Option.some.inj q2)) (by show Value.type "list" ≠ Value.type "tuple"; decide)⟩
  dsimp only
  have hn2 : ¬ vs.toArray.size < 2 := by rw [List.size_toArray]; omega
  rw [if_neg hn2, if_neg hn2]
  obtain ⟨fs, f1, f2, f3⟩ := katTups_of hT6
  refine wpAny_bind (kat_kind (s := { s with heap := H }) (T := .type "str") f1 (by omega) (fun v hv => by obtain ⟨k, t, rfl⟩ := f3 v hv; exact Looks.of_pure rfl) rfl ?_)
  have hfl : ((Value.type "str") != Value.type "tuple") = true := by decide
  rw [hfl]
  have key : (kas_sort vs.length).kasWp (kas_ask prog w A.in1 (tuples' true) vs) (fun p' s' => p' = p ∧ s' = { s with heap := H }) { s with heap := H } := by
    rw [hT6.1]
    refine runK_wp (fun i j C hi hj hij hC => ?_) (kas_sort kvs.length) hr ⟨rfl, rfl⟩
    obtain ⟨T, t, q1, q2⟩ := hT6.2 i (kvs[i].1) (kvs[i].2) (by rw [List.getElem?_eq_getElem hi])
    obtain ⟨U, u, r1, r2⟩ := hT6.2 j (kvs[j].1) (kvs[j].2) (by rw [List.getElem?_eq_getElem hj])
    have g1 : vs.getD i Value.none = .ref T := by rw [List.getD_eq_getElem?_getD, q1]; rfl
    have g2 : vs.getD j Value.none = .ref U := by rw [List.getD_eq_getElem?_getD, r1]; rfl
    unfold kas_ask
    rw [g1, g2]
    refine kat_lt (s := { s with heap := H }) q2 rfl r2 rfl ?_
    refine kat_cons (wpAny_eqBool_str ?_)
    have hne : kvs[i].1 ≠ kvs[j].1 := fun q => by
      have := List.pairwise_iff_getElem.mp hn
      rcases Nat.lt_or_gt_of_ne hij with q1 | q1
      · exact this i j (by simpa using hi) (by simpa using hj) q1 (by simpa using q)
      · exact this j i (by simpa using hj) (by simpa using hi) q1 (by simpa using q.symm)
    rw [decide_eq_false hne]
    refine kat_no (oneLt_str ?_)
    have l1 : (kvs.map (·.1)).getD i ⟨#[]⟩ = kvs[i].1 := by simp [hi]
    have l2 : (kvs.map (·.1)).getD j ⟨#[]⟩ = kvs[j].1 := by simp [hj]
    simp only [ltS, l1, l2] at hC
    exact hC
  refine wpAny_bind (wpAny_mono (kat_run (ks := vs) (vs := vs) (A := A.in1) (E := E) (s := { s with heap := H }) (Q := fun st' s' => arrOf st' = p.map (kas_item (vs.toArray.zip vs.toArray)) ∧ failedOf st' = none ∧ s' = { s with heap := H } ∧ p.size = vs.length) rfl h2 h64 (fun p' st' s' a1 a2 a3 a4 => by obtain ⟨rfl, rfl⟩ := a4; exact ⟨a2, a3, rfl, a1⟩) key) ?_ fun _ _ e => e)
  rintro ⟨⟨⟩, st'⟩ s' ⟨har, hf, rfl, hp⟩
  dsimp only
  have hout := kat_snds (ks := vs) (vs := vs) rfl har
  have hsz : (List.toArray (p.toList.map fun i => vs.getD i Value.none)).size = vs.length := by rw [List.size_toArray, List.length_map, Array.length_toList, hp]
  refine wpAny_bind (seqEpoch_at ho6 rfl ?_)
  rw [hout]
  refine wpAny_bind (listUpdate_at ho6 rfl ?_ (Nat.zero_le _) (Nat.le_trans (Nat.le_of_eq hsz) (by rw [sizeLine_eq]; omega)))
  rw [hf]
  simp only [bne_self_eq_false, Bool.false_eq_true, if_false]
  refine wpAny_pure ⟨_, rfl, ?_⟩
  exact h _ _ (get?_update_seq ho6 _) (fun b o hb e => (Heap.get?_update_other _ _ (Ne.symm hb)).trans (k6 b o hb e)) (by rw [Heap.size_update]; exact s6)
end
end Mine

-- part P37
namespace Mine
section
variable {c : Cx} {N : Lv} {env : Env} {ρ : Rho} {σ : Sig} {Q : V → Sig → Prop} {X : Exn → Sig → Prop}
theorem B_items {d : Addr} {l : List (Str × V)} (e : DR c σ d l) (q : ∀ D, σ D = none → Q (.raw (.ref D)) (upd σ D (.items d))) : CallOp c N σ (.builtin "dict.items") [.raw (.ref d)] Q X := fun A s QQ EE ys a R r p xp => by
  simp only [VRs] at r
  obtain ⟨x, _, rfl, r, rfl⟩ := r
  simp only [VR] at r; subst r
  obtain ⟨kvs, hd, _⟩ := e.real R
  have lo : (d == sysModules) = false := beq_false_of_ne (e.off R)
  refine call_meetsIn PySem.F.slot_dict_items hd.typeIs PySem.F.entry_dict_items (PySem.F.args_dict_items_1 _) (meets_dict_items (strKind c.prog c.w) d lo) ⟨⟨kvs, hd⟩, ?_⟩
  have hk : ∀ b o, s.heap.get? b = some o → (s.heap.push { cls := .type "dict_items", data := .fields #[.ref d] }).get? b = some o := fun b o e => Heap.get?_push_of_some _ e
  have hs : s.heap.objs.size ≤ (s.heap.push { cls := .type "dict_items", data := .fields #[.ref d] }).objs.size := by rw [Heap.size_push]; omega
  have f := fresh_of R (Nat.le_refl _)
  exact p (.raw (.ref s.heap.objs.size)) _ (upd σ s.heap.objs.size (.items d)) _ (tks s) (q _ f) (by simp only [VR]) ((R.grow hk hs).add R.size (Heap.get?_push_size _ rfl)) (ext_grow hk hs) (.upd (.inr (Nat.le_refl _)))

noncomputable def okK (l : List (Str × V)) : Prop := ∀ p ∈ l, okS p.1
theorem tups_are {h : Heap} {knd : KeyKind c.prog c.w Str} (hkn : knd = strKind c.prog c.w) {kvs : List (Str × Value)} {lo : Addr} {as : List Addr} (g : KdxG knd kvs lo h as) (hl : as.length = kvs.length) : TupsAt h (as.map Value.ref) kvs := by
  subst hkn
  refine ⟨by simp [hl], fun i k v e => ?_⟩
  have hi : i < as.length := by rw [hl]; exact (List.getElem?_eq_some_iff.mp e).1
  obtain ⟨key, k', x, e1, e2, e3⟩ := g.pairs i as[i] (List.getElem?_eq_getElem hi)
  rw [e] at e1; cases e1
  obtain ⟨t, rfl⟩ := Value.isStrOf_shape e2
  exact ⟨as[i], t, by simp [hi], e3⟩
theorem pairs_pv {h : Heap} {l : List (Str × V)} {kvs : List (Str × Value)} {vs : List Value} (r : PairsR h l kvs) (t : TupsAt h vs kvs) (ok : okK l) : ∀ i, i < l.length → VR h ((pv l).getD i .none) (vs.getD i Value.none) := by
  induction l generalizing kvs vs with
  | nil => intro i hi; simp at hi
  | cons p l ih =>
    obtain ⟨k, u⟩ := p
    simp only [PairsR] at r
    obtain ⟨x, r', rfl, r1, r2⟩ := r
    obtain ⟨T, tk, e1, e2⟩ := t.2 0 k x rfl
    cases vs with
    | nil => simp at e1
    | cons v vs =>
      simp at e1; subst e1
      intro i hi
      cases i with
      | zero =>
        simp only [pv, List.map_cons, List.getD_cons_zero, VR]
        exact ⟨T, _, rfl, ⟨_, e2, rfl, rfl, _, rfl⟩, by simp only [VRs, VR]; exact ⟨_, _, rfl, ⟨ok _ (.head _), tk, rfl⟩, x, [], rfl, r1, rfl⟩⟩
      | succ i =>
        have := ih (kvs := r') (vs := vs) r2 ⟨by simpa using t.1, fun j k v e => by simpa using t.2 (j + 1) k v (by simpa using e)⟩ (fun q hq => ok q (.tail _ hq)) i (by simpa using hi)
        simpa [pv] using this
theorem vrs_map {h : Heap} {l : List V} {vs : List Value} : ∀ (p : List Nat), (∀ i ∈ p, VR h (l.getD i .none) (vs.getD i Value.none)) → VRs h (p.map fun i => l.getD i .none) (p.map fun i => vs.getD i Value.none)
  | [], _ => .nil
  | i :: p, k => .cons (k i (.head _)) (vrs_map p fun j hj => k j (.tail _ hj))
theorem B_sorted_items {S d : Addr} {l : List (Str × V)} {p : Array Nat} (hhn : N.hn = true) (e : σ S = some (.items d)) (ed : DR c σ d l) (hok : okK l) (hn : (l.map (·.1)).Nodup) (h2 : 2 ≤ l.length) (h64 : l.length < 64)
    (hr : runK l.length (fun i j => ltS ((l.map (·.1)).getD i ⟨#[]⟩) ((l.map (·.1)).getD j ⟨#[]⟩)) (kas_sort l.length) = some p) (hp : ∀ i ∈ p.toList, i < l.length)
    (q : ∀ D, σ D = none → Q (.raw (.ref D)) (upd σ D (.list (p.toList.map fun i => (pv l).getD i .none)))) : CallOp c N σ (.builtin "sorted") [.raw (.ref S)] Q X := fun A s QQ EE ys a R r pp xp => by
  simp only [VRs] at r
  obtain ⟨x, _, rfl, r, rfl⟩ := r
  simp only [VR] at r; subst r
  have hv := (R.obj S _ e).2
  obtain ⟨kvs, hd, pr⟩ := ed.real R
  obtain ⟨ep, hat⟩ := hd.dictAt
  refine sized (Calls.call_function_entry kind_sorted plain_sorted entry_sorted (args_sorted1 _) ?_)
  unfold Builtin.«sorted»
  refine wpAny_bind (m := checkCount "sorted" 1 1 _) (wpAny_pure ?_)
  refine wpAny_bind (sized (kdx_collect (A := A.in1) (knd := strKind c.prog c.w) (kvs := kvs) (ep := ep) (a.han hhn) ⟨_, hv, rfl, rfl⟩ hat (by rw [pr.length, sizeLine_is]; omega) fun h1 tk as hk1 hl hG hsz => ?_))
  have hll : (as.map Value.ref).length = l.length := by rw [List.length_map, hl, pr.length]
  refine wpAny_bind (wpAny_newList ?_ (by rw [hll, sizeLine_is]; omega))
  have hoL : (h1.push (seqObj "list" (as.map Value.ref).toArray 0)).get? h1.objs.size = some (seqObj "list" (as.map Value.ref).toArray 0) := Heap.get?_push_size _ rfl
  have hT0 := tups_are rfl hG hl
  have hT : TupsAt (h1.push (seqObj "list" (as.map Value.ref).toArray 0)) (as.map Value.ref) kvs := ⟨hT0.1, fun i k v e => by obtain ⟨T, t, a1, a2⟩ := hT0.2 i k v e; exact ⟨T, t, a1, Heap.get?_push_of_some _ a2⟩⟩
  refine wpAny_bind (wpAny_holding (sort_tups (s := { s with heap := h1.push (seqObj "list" (as.map Value.ref).toArray 0), toks := tk }) hoL hT (by rw [pr.keys]; exact hn) (by rw [hll]; exact h2) (by rw [hll]; exact h64) (p := p) (by rw [pr.length, pr.keys]; exact hr) fun h' e' a1 a2 a3 => ?_))
  refine wpAny_pure ⟨_, rfl, ?_⟩
  intro hs
  have hk : ∀ b o, s.heap.get? b = some o → h'.get? b = some o := fun b o eb => a2 b o (fun q => by
    subst q
    exact absurd (Heap.lt_size eb) (Nat.not_lt.mpr hsz)) (Heap.get?_push_of_some _ (hk1 b o eb))
  have f := fresh_of R hsz
  have hT' : TupsAt h' (as.map Value.ref) kvs := ⟨hT.1, fun i k v e => by
    obtain ⟨T, t, b1, b2⟩ := hT.2 i k v e
    refine ⟨T, t, b1, a2 T _ (fun q => ?_) b2⟩
    subst q
    obtain ⟨T', t', d1, d2⟩ := hT0.2 i k v e
    rw [b1] at d1; cases d1
    exact absurd (Heap.lt_size d2) (Nat.lt_irrefl _)⟩
  have pr' : PairsR h' l kvs := PairsR.mono (fun _ _ t => t.keeps hk) _ _ pr
  exact pp (.raw (.ref h1.objs.size)) _ (upd σ h1.objs.size (.list (p.toList.map fun i => (pv l).getD i .none))) h' (tk, s.drawn) (q _ f) (by simp only [VR]) ((R.grow hk hs).add (Nat.le_trans R.size hsz) ⟨_, ⟨_, a1⟩, vrs_map _ fun i hi => pairs_pv pr' hT' hok i (hp i hi)⟩) (ext_grow hk hs) (.upd (.inr hsz))
end
end Mine

-- part P38
namespace Mine
section
variable {prog : Program} {w : World} {A : Around} {E : Value → Shared → Prop} {s : Shared}
theorem nextOf_tup_item {it t : Addr} {i : Nat} {items : Array Value} {x : Value} {Q : Value → Shared → Prop} (hit : s.heap.IsTupleIter it t i) (ht : s.heap.IsTuple t items) (hx : items[i]? = some x)
    (hQ : ∀ h', h'.IsTupleIter it t (i + 1) → Heap.SameBut it s.heap h' → Q x { s with heap := h' }) : wpAny (model prog w) A (Builtin.SmallTypes.nextOf (.ref it)) Q E s := by
  obtain ⟨o, ho, hc, hd⟩ := id hit
  obtain ⟨ol, hol, _, nl, hdl⟩ := ht
  unfold Builtin.SmallTypes.nextOf
  refine wpAny_bind (wpAny_callSpecial?_slot (name := Str.ofString "__next__") hit.typeIs F.slot_tuple_iterator_next
    (wpAny_call_entry F.slot_tuple_iterator_next hit.typeIs F.entry_tuple_iterator_next ?_ (F.args_tuple_iterator_next_1 _)))
  show wpAny _ _ (field (.ref it) 0 >>= _) _ _ s
  refine wpAny_bind (wpAny_field ho hd (x := .ref t) rfl ?_)
  show wpAny _ _ (if (Value.ref t == Value.none) = true then _ else _) _ _ s
  rw [if_neg (show ¬ ((Value.ref t == Value.none) = true) from Bool.false_ne_true)]
  show wpAny _ _ (field (.ref it) 1 >>= _) _ _ s
  refine wpAny_bind (wpAny_field ho hd (x := .int i 0) rfl ?_)
  show wpAny _ _ (seqItems? (.ref t) >>= _) _ _ s
  refine wpAny_bind (m := seqItems? (.ref t)) (wpAny_seqItems hol hdl ?_)
  simp only [Int.toNat_natCast, hx]
  refine wpAny_bind (wpAny_setField ho hd (by simp) (wpAny_pure ⟨x, rfl, wpAny_pure (hQ _ ?_ (Heap.SameBut.update ..))⟩))
  exact ⟨_, Heap.get?_update_self _ ho (Obj.isFreed_of_fields (Obj.data_mapFields hd _)), (Obj.cls_mapFields ..).trans hc, by
    rw [Obj.data_mapFields hd]; simp [rawInt]⟩
theorem nextOf_tup_end {it t : Addr} {i : Nat} {items : Array Value} {Q : Value → Shared → Prop} (hh : A.handled = none) (hit : s.heap.IsTupleIter it t i) (ht : s.heap.IsTuple t items) (hx : items[i]? = none)
    (hE : ∀ h' e, Heap.ExtBut it s.heap h' → (∃ o, h'.get? e = some o ∧ o.cls = .type "StopIteration") → E (.ref e) { s with heap := h' }) : wpAny (model prog w) A (Builtin.SmallTypes.nextOf (.ref it)) Q E s := by
  obtain ⟨o, ho, hc, hd⟩ := id hit
  obtain ⟨ol, hol, _, nl, hdl⟩ := ht
  unfold Builtin.SmallTypes.nextOf
  refine wpAny_bind (wpAny_callSpecial?_slot (name := Str.ofString "__next__") hit.typeIs F.slot_tuple_iterator_next
    (wpAny_call_entry F.slot_tuple_iterator_next hit.typeIs F.entry_tuple_iterator_next ?_ (F.args_tuple_iterator_next_1 _)))
  show wpAny _ _ (field (.ref it) 0 >>= _) _ _ s
  refine wpAny_bind (wpAny_field ho hd (x := .ref t) rfl ?_)
  show wpAny _ _ (if (Value.ref t == Value.none) = true then _ else _) _ _ s
  rw [if_neg (show ¬ ((Value.ref t == Value.none) = true) from Bool.false_ne_true)]
  show wpAny _ _ (field (.ref it) 1 >>= _) _ _ s
  refine wpAny_bind (wpAny_field ho hd (x := .int i 0) rfl ?_)
  show wpAny _ _ (seqItems? (.ref t) >>= _) _ _ s
  refine wpAny_bind (m := seqItems? (.ref t)) (wpAny_seqItems hol hdl ?_)
  simp only [Int.toNat_natCast, hx]
  refine wpAny_bind (wpAny_rule (wpAny_bind (wpAny_setField ho hd (by simp) ?_)))
  show wpAny _ _ (newExc (.type "StopIteration") [] >>= _) _ _ _
  refine wpAny_bind ?_
  simp only [newExc, newTuple]
  refine wpAny_bind (wpAny_newObj_type ?_ (by size_fits))
  refine wpAny_bind (m := firstArgMember _ _) (wpAny_of_eq (a := Value.none) (by first | rfl | (simp only [firstArgMember]; rfl)) ?_)
  refine wpAny_newObj_type ?_ (by size_fits)
  simp only [raiseNew]
  refine wpAny_bind (wpAny_handled ?_)
  first | rw [show A.in1.handled = none from hh] | rw [hh]
  refine wpAny_bind (wpAny_pure (wpAny_throw ?_))
  exact hE _ _ (((Heap.SameBut.update ..).extBut.push _).push _) ⟨_, Heap.get?_push_size _ rfl, rfl⟩
theorem draws_tup (hh : A.handled = none) (it t : Addr) (hne : t ≠ it) (items : Array Value) :
    Draws prog w A it [it, t] items.size (fun i v => items[i]? = some v) (fun i h => h.IsTupleIter it t i ∧ h.IsTuple t items) where
  live := fun _ _ st => let ⟨o, ho, _⟩ := st.1; ⟨o, ho⟩
  frame := fun _ _ _ st hk => ⟨let ⟨o, ho, r⟩ := st.1; ⟨o, hk it (by simp) o ho, r⟩, let ⟨o, ho, r⟩ := st.2; ⟨o, hk t (by simp) o ho, r⟩⟩
  item := fun i s Q E hi st hQ => by
    refine nextOf_tup_item st.1 st.2 (x := items[i]) (by simp [hi]) fun h' hit' hs' => ?_
    exact hQ _ h' s.toks (by simp [hi]) ⟨hit', let ⟨o, ho, r⟩ := st.2; ⟨o, hs'.extBut t o hne ho, r⟩⟩ hs'
  done := fun s Q E st hE => nextOf_tup_end hh st.1 st.2 (by simp) hE
theorem meets_enumerate_newT (l : Addr) (items : Array Value) (n : Nat) (dct : Option Addr) (sl : Array (Option Value)) :
    Meets (Builtin.«enumerate.__new__» ⟨[.type "enumerate", .ref l], []⟩) (fun _ R s => s.heap.get? l = some { cls := .type "tuple", dict := dct, data := .seq items n, slots := sl } ∧
      R (.ok (.ret (.ref (s.heap.push { cls := .type "tuple_iterator", data := .fields #[.ref l, .int 0 0] }).objs.size)))
        { s with heap := (s.heap.push { cls := .type "tuple_iterator", data := .fields #[.ref l, .int 0 0] }).push { cls := .type "enumerate", data := .fields #[.none, .bool false, .ref s.heap.objs.size, rawInt 0, .none, .none] } }) :=
  .of_wp fun prog w A R s h => by
    obtain ⟨hp, g, d, tk, os⟩ := s; obtain ⟨hl, h⟩ := h
    have hsub := sub_enumerate
    have hL : Heap.IsTuple (Shared.heap ⟨hp, g, d, tk, os⟩) l items := ⟨_, hl, rfl, n, rfl⟩
    wp_walk using AutoSeq1.wpAny_loadPart' hl
    refine wpAny_stack_any fun st => wpAny_pure ?_
    split
    · rename_i c _ _ _ _ _
      cases (c == Value.type "enumerate")
      · wp_walk using AutoSeq1.wpAny_loadPart' hl, wpAny_pyIter_tuple hL
        exact ⟨_, rfl, h⟩
      · wp_walk using AutoSeq1.wpAny_loadPart' hl, wpAny_pyIter_tuple hL
        exact ⟨_, rfl, h⟩
    · wp_walk using AutoSeq1.wpAny_loadPart' hl, wpAny_pyIter_tuple hL
      exact ⟨_, rfl, h⟩
theorem call_enumerate_tup {l : Addr} {items : Array Value} {Q : Value → Shared → Prop} (hL : s.heap.IsTuple l items)
    (h : ∀ h', IsEnum h' (s.heap.objs.size + 1) s.heap.objs.size 0 .none → h'.IsTupleIter s.heap.objs.size l 0 → h'.objs.size = s.heap.objs.size + 2 →
      (∀ b o, s.heap.get? b = some o → h'.get? b = some o) → Q (.ref (s.heap.objs.size + 1)) { s with heap := h' }) :
    wpAny (model prog w) A (call (.type "enumerate") [.ref l]) Q E s := by
  obtain ⟨⟨c, dct, dt, sl⟩, hl, hc, n, hd⟩ := hL
  replace hc : c = .type "tuple" := hc
  replace hd : dt = .seq items n := hd
  subst hc hd
  refine callType_new F.called_enumerate (by decide) (F.typeCall_enumerate_1 _) (F.newCall_enumerate_1 _) (fun obj => F.args_object_init_2 obj _) F.entry_enumerate_new
    (meets_enumerate_newT l items n dct sl) ⟨hl, ?_⟩
  have hz : (s.heap.push { cls := .type "tuple_iterator", data := .fields #[.ref l, .int 0 0] }).objs.size = s.heap.objs.size + 1 := Heap.size_push ..
  show _ ∧ _
  rw [hz]
  have he : IsEnum ((s.heap.push { cls := .type "tuple_iterator", data := .fields #[.ref l, .int 0 0] }).push
      { cls := .type "enumerate", data := .fields #[.none, .bool false, .ref s.heap.objs.size, rawInt 0, .none, .none] }) (s.heap.objs.size + 1) s.heap.objs.size 0 .none := by
    have := Heap.get?_push_size (s.heap.push { cls := .type "tuple_iterator", data := .fields #[.ref l, .int 0 0] })
      (o := { cls := .type "enumerate", data := .fields #[.none, .bool false, .ref s.heap.objs.size, rawInt 0, .none, .none] }) rfl
    rw [hz] at this; exact this
  refine ⟨⟨_, he, rfl⟩, h _ he ⟨_, Heap.get?_push_of_some _ (Heap.get?_push_size _ rfl), rfl, rfl⟩ (by rw [Heap.size_push, hz]) fun b o x => Heap.get?_push_of_some _ (Heap.get?_push_of_some _ x)⟩
end
end Mine

-- part P39
namespace Mine
section
variable {c : Cx} {N : Lv} {env : Env} {ρ : Rho} {σ : Sig} {Q : V → Sig → Prop} {X : Exn → Sig → Prop}
noncomputable def enumV : Nat → List V → List V
  | _, [] => []
  | i, v :: l => .tup [.int i, v] :: enumV (i + 1) l
noncomputable def StE (e it t : Addr) (l : List V) (h : Heap) : Prop := ∃ i xs old r, IsEnum h e it ((i : Nat) : Int) old ∧ h.IsTupleIter it t i ∧ IsTup h t xs ∧ VRs h r (xs.toList.drop i) ∧ l = enumV i r
theorem not_tup {h : Heap} {a : Addr} {o : Obj} (e : h.get? a = some o) (hc : o.cls ≠ .type "tuple") (xs : Array Value) : ¬ IsTup h a xs := fun ⟨o', e', hc', _⟩ => by
  rw [e] at e'; cases e'; exact hc hc'
theorem It.enum {lo : Nat} {e it t : Addr} (h1 : lo ≤ e) (h2 : c.S.objs.size ≤ e) (k1 : lo ≤ it) (k2 : c.S.objs.size ≤ it) (hne : e ≠ it) : It c lo e (fun a => a = e ∨ a = it) (fun _ => True) (fun x => ∃ elts k pos, x = .Tuple elts k pos) (StE e it t) where
  ge := fun a w => by rcases w with rfl | rfl; exact ⟨h1, h2⟩; exact ⟨k1, k2⟩
  rec_ := fun l h ⟨i, xs, old, r, he, ⟨o, ho, _, hd⟩, _⟩ a w => by
    rcases w with rfl | rfl
    · exact ⟨_, _, he, rfl⟩
    · exact ⟨o, _, ho, hd⟩
  frame := fun l h h' B ⟨i, xs, old, r, he, ⟨o, ho, hc, hd⟩, ht, rr, el⟩ x n hb => by
    obtain ⟨o', e', lk⟩ := x.keep it o (hb it (.inr rfl)) ho
    have : o' = o := lk.eq (by rw [hc]; decide)
    subst this
    obtain ⟨o2, e2, lk2⟩ := x.keep e _ (hb e (.inl rfl)) he
    have := lk2.eq (show Value.type "enumerate" ≠ _ by decide)
    subst this
    exact ⟨i, xs, old, r, e2, ⟨o', e', hc, hd⟩, IsTup.ext n x ht, VRs.ext n x rr, el⟩
  self := fun l A s Q E ⟨i, xs, old, r, he, _⟩ q => wpAny_pyIter_enum he q
  step := fun A σ v l target s QQ E0 E1 hh ⟨elts, k, pos, et⟩ R _ hn ⟨i, xs, old, r, he, hit, ht, rr, el⟩ h => by
    subst et
    cases r with
    | nil => cases el
    | cons v0 r =>
      simp only [enumV] at el
      obtain ⟨rfl, rfl⟩ := List.cons.inj el
      simp only [VRs] at rr
      obtain ⟨x0, r', e0, r1, r2⟩ := rr
      obtain ⟨e1, e2⟩ := drop_get e0
      have hit1 := hit
      obtain ⟨oi, hoi, hci, hdi⟩ := hit1
      have hti : t ≠ it := fun q => not_tup hoi (by rw [hci]; decide) xs (q ▸ ht)
      have hte : t ≠ e := fun q => not_tup he (by show Value.type "enumerate" ≠ _; decide) xs (q ▸ ht)
      have hi : i < xs.size := (Array.getElem?_eq_some_iff.mp (by rw [← Array.getElem?_toList]; exact e1)).1
      have hlt : e < s.heap.objs.size := Heap.lt_size he
      refine wpAny_pyNext_enum_itemD (draws_tup (show A.in1.handled = none from hh) it t hti xs) he ⟨hit, ht.lib⟩ hi hne (by simp; exact ⟨hne, fun q => hte q.symm⟩) fun x h' tk hP ho hs' hT hsz hk => ⟨_, rfl, ?_⟩
      have ex : x = x0 := by
        have e1' : xs[i]? = some x0 := by rw [← Array.getElem?_toList]; exact e1
        rw [hP] at e1'; cases e1'; rfl
      subst ex
      refine wpAny_letOwnedTupleGo_enum (s := { s with heap := h', toks := tk + 1 }) ho fun h2' he' hs2 => ?_
      have hs2 : Heap.SameBut e h' h2' := hs2
      have K : ∀ b o, b ≠ e → b ≠ it → s.heap.get? b = some o → h2'.get? b = some o := fun b o b1 b2 q => hs2.extBut b o b1 (hk b o b1 b2 q)
      have S2 : s.heap.objs.size ≤ h2'.objs.size := by rw [hs2.1, hsz]; omega
      have X2 : Ext (fun a => a = e ∨ a = it) s.heap h2' := ⟨fun a o ha q => ⟨o, K a o (fun z => ha (.inl z)) (fun z => ha (.inr z)) q, .refl o⟩, S2⟩
      have n2 : NoTup (fun a => a = e ∨ a = it) s.heap := fun a ys w => by
        rcases w with rfl | rfl
        · exact not_tup he (by show Value.type "enumerate" ≠ _; decide) ys
        · exact not_tup hoi (by rw [hci]; decide) ys
      have hne2 : s.heap.objs.size ≠ e := Nat.ne_of_gt hlt
      refine h _ h2' (tk + 1, s.drawn) ?_ ⟨i + 1, xs, x, r, by simpa using he', ?_, IsTup.ext n2 X2 ht, by rw [e2]; exact VRs.ext n2 X2 r2, rfl⟩ ?_
      · simp only [VR]
        exact ⟨_, _, rfl, ⟨_, hs2.extBut _ _ hne2 hT, rfl, rfl, _, rfl⟩, .cons (by simp only [VR]; exact ⟨_, rfl⟩) (.cons (VR.ext n2 X2 r1) .nil)⟩
      · obtain ⟨⟨o3, ho3, c3, d3⟩, _⟩ := hs'
        exact ⟨o3, hs2.extBut _ _ hne.symm ho3, c3, d3⟩
      · refine flew_of (W := fun a => a = e ∨ a = it) (fun b o hb q => K b o (fun z => hb (.inl z)) (fun z => hb (.inr z)) q) S2 (fun a w => by rcases w with rfl | rfl; exact ⟨h1, h2⟩; exact ⟨k1, k2⟩) hn fun a w => ?_
        rcases w with rfl | rfl
        · exact ⟨_, _, he, rfl⟩
        · exact ⟨oi, _, hoi, hdi⟩
  done := fun A σ s QQ E0 hh R _ hn ⟨i, xs, old, r, he, hit, ht, rr, el⟩ h => by
    cases r with
    | cons v r => cases el
    | nil =>
      simp only [VRs] at rr
      have hit1 := hit
      obtain ⟨oi, hoi, hci, hdi⟩ := hit1
      have hti : t ≠ it := fun q => not_tup hoi (by rw [hci]; decide) xs (q ▸ ht)
      have hi0 : xs.size ≤ i := by have := List.drop_eq_nil_iff.mp rr; simpa using this
      have D : Draws c.prog c.w A.in1 it [it, t] i (fun _ _ => False) (fun j h => j = i ∧ h.IsTupleIter it t i ∧ h.IsTuple t xs) :=
        { live := fun _ _ st => let ⟨o, ho, _⟩ := st.2.1; ⟨o, ho⟩
          frame := fun _ _ _ st hk => ⟨st.1, let ⟨o, ho, r⟩ := st.2.1; ⟨o, hk it (by simp) o ho, r⟩, let ⟨o, ho, r⟩ := st.2.2; ⟨o, hk t (by simp) o ho, r⟩⟩
          item := fun j s Q E hj st hQ => by have := st.1; omega
          done := fun s Q E st hE => nextOf_tup_end (show A.in1.handled = none from hh) st.2.1 st.2.2 (by simp; exact hi0) hE }
      refine sized (wpAny_pyNext_enum_endD D he ⟨rfl, hit, ht.lib⟩ fun h' x hs => ⟨rfl, h h' (tks s) ?_⟩)
      refine flew_of (W := fun a => a = e ∨ a = it) (fun b o hb q => x b o (fun z => hb (.inr z)) q) hs (fun a w => by rcases w with rfl | rfl; exact ⟨h1, h2⟩; exact ⟨k1, k2⟩) hn fun a w => ?_
      rcases w with rfl | rfl
      · exact ⟨_, _, he, rfl⟩
      · exact ⟨oi, _, hoi, hdi⟩

/-- an iterable that a call makes -/
noncomputable def CallIt (c : Cx) (N : Lv) (σ : Sig) (f : Value) (args : List V) (K : IK) : Prop :=
  ∀ (A : Around) (s : Shared) (QQ : Value → Shared → Prop) (EE : Value → Shared → Prop) (ys : List Value), AOk c N A σ s.heap → Rel c σ s.heap → VRs s.heap args ys →
    (∀ l Need tg I W St h' tk, K l Need tg σ → It c s.heap.objs.size I W Need tg St → St l h' → Rel c σ h' → Ext (dom σ) s.heap h' → (∀ a, W a → σ a = none) → QQ (.ref I) (at_ s h' tk)) →
    wpAny (model c.prog c.w) A (call f ys) (fun x s1 => wpAny (model c.prog c.w) A (pyIter x) QQ EE s1) EE s
theorem IG_call {fe : PySem.Expr} {es : List PySem.Expr} {pos : Pos} {K : IK} (g : EvG c N env ρ fe σ (fun v σ1 => ∃ f, v = .raw f ∧ ArgsG c N env ρ es pos σ1 (fun vs σ2 => Kee c σ2 f ∧ CallIt c N σ2 f vs K) X) X)
    (he : eval (.Call fe es [] pos) env = (do let f ← eval fe env; callWith pos f [] (backTo pos (starEach es env)) []) := by rfl) (hp : (backTo pos (starEach es env)).any (·.1) = false := by rfl) : IterG c N env ρ (.Call fe es [] pos) σ K X := fun A s QQ EE a R E xp h => by
  rw [he]
  exact wpAny_bind (g.run a R E xp fun v x σ1 h1 tk1 ⟨f, e1, g1⟩ r1 a1 R1 E1 x1 gr1 => by
    subst e1
    simp only [VR] at r1
    subst r1
    refine call_node (P := fun h => ∃ k, (k = Keeper.frame ∨ k = Keeper.machine ∨ k = Keeper.boundFrame) ∧ Looks (model c.prog c.w) h (keeperOf x) k) (fun h q => q) (g1.run a1 R1 E1 (xp.step x1 gr1) fun vs ys σ2 h2 tk2 ⟨k2, q⟩ r2 a2 R2 E2 x2 gr2 => ⟨k2 h2 R2, ?_⟩) hp
    have gr := gr1.trans gr2 x1.size
    have xx := x1.trans x2 (dom_back gr1)
    exact q A _ QQ EE ys a2 R2 r2 fun l Need tg I W St h3 tk3 k i st R3 x3 wn => h l Need tg I W St σ2 h3 tk3 k (i.low xx.size) st R3 (xx.trans x3 (dom_back gr)) gr wn)
theorem CI_enum {l : List V} {K : IK} (q : K (enumV 0 l) (fun _ => True) (fun x => ∃ elts k pos, x = .Tuple elts k pos) σ) : CallIt c N σ (.type "enumerate") [.tup l] K := fun A s QQ EE ys a R r h => by
  simp only [VRs] at r
  obtain ⟨x, _, rfl, r, rfl⟩ := r
  simp only [VR] at r
  obtain ⟨t, xs, rfl, ht, r⟩ := r
  refine call_enumerate_tup ht.lib fun h' he hit hs hk => ?_
  refine wpAny_pyIter_enum (s := { s with heap := h' }) he ?_
  have S2 : s.heap.objs.size ≤ h'.objs.size := by omega
  have X2 : Ext (dom σ) s.heap h' := ext_grow hk S2
  have f0 := fresh_of R (Nat.le_refl s.heap.objs.size)
  have f1 := fresh_of R (Nat.le_succ s.heap.objs.size)
  refine h (enumV 0 l) _ _ _ _ (StE (s.heap.objs.size + 1) s.heap.objs.size t) h' (tks s) q (.enum (Nat.le_succ _) (Nat.le_trans R.size (Nat.le_succ _)) (Nat.le_refl _) R.size (Nat.succ_ne_self _)) ⟨0, xs, .none, l, he, hit, ht.keeps hk, ?_, rfl⟩ (R.grow hk S2) X2 fun a w => by rcases w with rfl | rfl; exact f1; exact f0
  rw [List.drop_zero]
  exact R.vrs X2 r
theorem small_nat {n : Nat} (hn : n ≤ 1000000) : Builtin.Range.small 0 (n : Int) 1 = true := by
  have hz : Builtin.Range.rangeSize 0 (n : Int) 1 = n := by unfold Builtin.Range.rangeSize; split <;> simp <;> omega
  unfold Builtin.Range.small
  rw [hz]
  unfold Builtin.Range.rangeFitsLong
  simp
  omega
theorem CI_range {n : Nat} {K : IK} (hn : n ≤ 1000000) (q : K (upFrom 0 n) (fun _ => True) (fun e => ∃ x p, e = .Name x p) σ) : CallIt c N σ (.type "range") [.int n] K := fun A s QQ EE ys a R r h => by
  simp only [VRs] at r
  obtain ⟨x, _, rfl, r, rfl⟩ := r
  simp only [VR] at r
  obtain ⟨t, rfl⟩ := r
  refine call_range_1 ?_
  refine wpAny_pyIter_range (Heap.get?_push_size _ rfl) (small_nat hn) ?_
  have hz : Builtin.Range.rangeSize 0 (n : Int) 1 = n := by unfold Builtin.Range.rangeSize; split <;> simp <;> omega
  rw [hz]
  have hk : ∀ b o, s.heap.get? b = some o → ((s.heap.push { cls := .type "range", data := .fields #[.int 0 s.toks, .int n t, .int 1 (s.toks + 1)] }).push { cls := .type "range_iterator", data := .fields #[rawInt 0, rawInt (n : Int), rawInt 1] }).get? b = some o := fun b o e => Heap.get?_push_of_some _ (Heap.get?_push_of_some _ e)
  have hs1 : (s.heap.push { cls := .type "range", data := .fields #[.int 0 s.toks, .int n t, .int 1 (s.toks + 1)] }).objs.size = s.heap.objs.size + 1 := Heap.size_push ..
  have S2 : s.heap.objs.size ≤ ((s.heap.push { cls := .type "range", data := .fields #[.int 0 s.toks, .int n t, .int 1 (s.toks + 1)] }).push { cls := .type "range_iterator", data := .fields #[rawInt 0, rawInt (n : Int), rawInt 1] }).objs.size := by rw [Heap.size_push, hs1]; omega
  have f1 := fresh_of R (Nat.le_succ s.heap.objs.size)
  rw [hs1]
  refine h (upFrom 0 n) _ _ _ _ (StR (s.heap.objs.size + 1)) _ (s.toks + 1 + 1, s.drawn) q (.range (Nat.le_succ _) (Nat.le_trans R.size (Nat.le_succ _))) ⟨0, n, ?_, rfl⟩ (R.grow hk S2) (ext_grow hk S2) fun a w => by subst w; exact f1
  rw [← hs1]
  exact Heap.get?_push_size _ rfl
end
end Mine

-- part P40
namespace Mine
section
variable {M : Model} {A : Around} {E : Value → Shared → Prop} {s : Shared}
theorem nsDel_ {a : Addr} {m : Str → Option Value} {name : Str} {Q : Bool → Shared → Prop} (hn : s.heap.Ns a m)
    (hQ : ∀ h' v, h'.Ns a (fun x => if x = name then v else m x) → Heap.SameBut a s.heap h' → (∀ o, s.heap.get? a = some o → ∃ o', h'.get? a = some o' ∧ o'.cls = o.cls) → Q (m name).isSome { s with heap := h' }) : wpAny M A (nsDel a name) Q E s := by
  obtain ⟨o, es, ep, ho, hd, hk, hm⟩ := id hn
  have hany : es.any (·.refKey) = false := by
    rw [Array.any_eq_false']; intro e he; obtain ⟨n, t, h⟩ := hk e he; simp [DictEntry.refKey, h]
  have hsome : (m name).isSome = es.any (·.key.isStr name) := by
    rw [← hm name]; simp only [nsFind, findBy, Option.isSome_map]
    rw [Bool.eq_iff_iff]; simp only [Array.find?_isSome, Array.any_eq_true]
    constructor
    · rintro ⟨x, hx, hp⟩; obtain ⟨i, hi, rfl⟩ := Array.mem_iff_getElem.mp hx; exact ⟨i, hi, hp⟩
    · rintro ⟨i, hi, hp⟩; exact ⟨_, Array.getElem_mem hi, hp⟩
  have hhas : nsHas name o = pure (es.any (·.key.isStr name)) := by
    rw [nsHas_eq]; unfold nsHasByArray; rw [hd]
    show (if (es.any fun x => x.key.isStr name) = true then _ else _) = _
    generalize (es.any fun x => x.key.isStr name) = b
    cases b <;> simp [hany]
  unfold nsDel
  refine wpAny_bind (wpAny_loadPart ho ?_)
  rw [hhas]
  refine wpAny_bind (wpAny_pure ?_)
  rw [← hsome]
  cases hmn : (m name).isSome
  · have := hQ s.heap (m name) ⟨o, es, ep, ho, hd, hk, fun x => by by_cases hx : x = name <;> simp [hx, hm]⟩ (.refl ..) fun o e => ⟨o, e, rfl⟩
    rw [hmn] at this
    exact wpAny_pure this
  · refine wpAny_bind (wpAny_updatePart ho (wpAny_pure ?_))
    have key : ∃ v o', (s.heap.update a (Obj.dropName name)).get? a = some o' ∧ o'.cls = o.cls ∧ (s.heap.update a (Obj.dropName name)).Ns a (fun x => if x = name then v else m x) := by
      obtain ⟨cl, d, dt, sl⟩ := o
      subst hd
      cases hi : es.findIdx? (·.key.isStr name) with
      | some i =>
        have hg : (s.heap.update a (Obj.dropName name)).get? a = some (Obj.dropName name ⟨cl, d, .dict es ep, sl⟩) := Heap.get?_update_self _ ho (by simp only [Obj.dropName_eq, Obj.dropNameByArray, hi] <;> rfl)
        refine ⟨nsFind (es.eraseIdxIfInBounds i) name, _, hg, by simp only [Obj.dropName_eq, Obj.dropNameByArray, hi], _, _, ep + 1, hg, (by simp only [Obj.dropName_eq, Obj.dropNameByArray, hi] <;> rfl), hk.erase i, fun x => ?_⟩
        show nsFind (es.eraseIdxIfInBounds i) x = if x = name then nsFind (es.eraseIdxIfInBounds i) name else m x
        by_cases hx : x = name
        · rw [if_pos hx, hx]
        · rw [if_neg hx, nsFind_erase_other hi hx, hm]
      | none =>
        have hg : (s.heap.update a (Obj.dropName name)).get? a = some (Obj.dropName name ⟨cl, d, .dict es ep, sl⟩) := Heap.get?_update_self _ ho (by simp only [Obj.dropName_eq, Obj.dropNameByArray, hi] <;> rfl)
        exact ⟨m name, _, hg, by simp only [Obj.dropName_eq, Obj.dropNameByArray, hi], _, _, ep, hg, (by simp only [Obj.dropName_eq, Obj.dropNameByArray, hi] <;> rfl), hk, fun x => by by_cases hx : x = name <;> simp [hx, hm]⟩
    obtain ⟨v, o', hg, hc, hv⟩ := key
    have := hQ _ v hv (Heap.SameBut.update ..) fun o2 e2 => by rw [ho] at e2; cases e2; exact ⟨o', hg, hc⟩
    rw [hmn] at this
    exact this
end
section
variable {c : Cx} {N : Lv} {env : Env} {ρ : Rho} {σ : Sig} {Q : V → Sig → Prop} {X : Exn → Sig → Prop} {SQ : GF → Rho → Sig → Prop} {SX : Exn → Rho → Sig → Prop}
/-- the name of the handler goes -/
theorem nameGoes_ {M : Model} {A : Around} {E : Value → Shared → Prop} {s : Shared} {ρ' : Rho} {n : Str} {pos : Pos} {Q : Unit → Shared → Prop} (hl : env.kindOf n = some .local) (R : Rel c σ s.heap) (Ev : EnvR c σ env ρ s.heap) (p : Put n none ρ ρ')
    (h : ∀ h' tk, Rel c σ h' → EnvR c σ env ρ' h' → Ext (mine env) s.heap h' → Q () (at_ s h' tk)) : wpAny M A (do bindName env n .none; unbindBehindTheSuite env n pos) Q E s := by
  have hp : (env.scope.kind == .class || (env.scope.kind == .module && env.locals != env.globals)) = false := by rw [Ev.kind]; rfl
  obtain ⟨m, hn, hv⟩ := Ev.vars
  have nt := Ev.mine_noTup
  refine wpAny_bind (wpAny_bindName ?_)
  rw [storeName_local hl hp]
  refine nsSet_ hn fun h1 hn1 hs1 hc1 => ?_
  unfold unbindBehindTheSuite
  refine wpAny_onRaise ?_
  unfold unbindName
  refine wpAny_bind (wpAny_point (wpAny_bind ?_))
  unfold deleteName
  simp only [hl, hp]
  rw [if_neg (by decide)]
  refine wpAny_bind (nsDel_ hn1 fun h2 v hn2 hs2 hc2 => ?_)
  simp only [if_true, Option.isSome_some, Bool.not_true, Bool.false_eq_true, if_false]
  refine wpAny_pure (wpAny_point ?_)
  have hs : Heap.SameBut env.locals s.heap h2 := hs1.trans hs2
  have hc : ∀ o, s.heap.get? env.locals = some o → ∃ o', h2.get? env.locals = some o' ∧ o'.cls = o.cls := fun o e => by
    obtain ⟨o1, e1, q1⟩ := hc1 o e
    obtain ⟨o2, e2, q2⟩ := hc2 o1 e1
    exact ⟨o2, e2, q2.trans q1⟩
  have Xt : Ext (mine env) s.heap h2 := .same hs (.inl (.inl rfl))
  have R' : Rel c σ h2 := R.same hs Ev.loc.1 Ev.loc.2 fun xs t => nt _ _ (.inl rfl) t
  refine h h2 (s.toks + 1, s.drawn) R' ⟨Ev.kind, Ev.glob, Ev.blt, Ev.loc, fun z k' e => ?_, Ev.apart, ⟨_, hn2, fun z u hm => ?_⟩, by rw [p.keys]; exact Ev.nodup, fun z hz => Ev.kinds z (by rw [← p.keys]; exact hz), Ev.own.imp id fun ⟨o, e1, e2⟩ => (hc o e1).imp fun o' q => ⟨q.1, by rw [q.2]; exact e2⟩, ?_⟩ Xt
  · obtain ⟨a1, a2, u, a3⟩ := Ev.cells z k' e
    refine ⟨a1, a2, u, a3.sameBut hs fun q => ?_⟩
    subst q
    obtain ⟨o, h1, h2⟩ := a3
    obtain ⟨o', es, ep, h3, h4, _⟩ := hn
    rw [h1] at h3; cases h3; rw [h2] at h4; cases h4
  · rcases p.cases Ev.nodup hm with ⟨rfl, e⟩ | ⟨hne, hm'⟩
    · cases e
    · rcases hv z u hm' with ⟨k1, y1, e1, e2⟩ | ⟨k1, k', y1, e1, e2, e3⟩
      · exact .inl ⟨k1, y1, by simp [hne, e1], VR.ext nt Xt e2⟩
      · refine .inr ⟨k1, k', y1, e1, e2.sameBut hs fun q => ?_, VR.ext nt Xt e3⟩
        subst q
        obtain ⟨o, h1, h2⟩ := e2
        obtain ⟨o', es, ep, h3, h4, _⟩ := hn
        rw [h1] at h3; cases h3; rw [h2] at h4; cases h4
  · obtain ⟨f, o, e1, e2, e3⟩ := Ev.hand
    by_cases hf : f = env.locals
    · subst hf
      obtain ⟨o', e4, e5⟩ := hc o e2
      obtain ⟨o'', es, ep, e6, e7, _⟩ := hn2
      rw [e4] at e6; cases e6
      exact ⟨_, o', e1, e4, e5.trans e3.1, es, ep, e7⟩
    · exact ⟨f, o, e1, (hs.2 f hf).trans e2, e3⟩
theorem Fly.ext {lo : Nat} {σ' : Sig} {h h' : Heap} {e : Addr} {ex : Exn} (R : Rel c σ h) (F : Fly c σ lo h e ex) (x : Ext (dom σ) h h') (g : Grown σ h σ') : Fly c σ' lo h' e ex := by
  obtain ⟨f1, f2, f3, dx, vs, he, hv, f4, f5, f6, f7, ⟨es, n, q1, q2⟩, f9⟩ := F
  have kp : ∀ {b : Addr} {o : Obj}, σ b = none → h.get? b = some o → o.cls ≠ .type "frame" → h'.get? b = some o ∧ σ' b = none := fun {b o} hb e hc => by
    obtain ⟨o', e', lk⟩ := x.keep b o (fun q => q hb) e
    have := lk.eq hc
    subst this
    exact ⟨e', grown_none g hb (Heap.lt_size e)⟩
  obtain ⟨a1, a2⟩ := kp f3 he (by simp)
  obtain ⟨b1, b2⟩ := kp f6 q1 (show Value.type "dict" ≠ _ by decide)
  refine ⟨f1, f2, a2, dx, vs, a1, hv, f4, f5, b2, f7, ⟨es, n, b1, EsR.mono (fun a xs t => IsTup.ext R.noTup x t) _ _ q2⟩, f9.imp id fun ⟨tb, ot, us, h1, g1, g2, g3, g4, g5, g6, g7, r⟩ => ?_⟩
  obtain ⟨c1, c2⟩ := kp g3 g6 (by rw [g7]; decide)
  exact ⟨tb, ot, us, h1, g1, g2, c2, g4, g5, c1, g7, r⟩
theorem EnvR.fresh {h0 h : Heap} {σ0 : Sig} {ρ0 : Rho} {a : Addr} {m : MO} (E0 : EnvR c σ0 env ρ0 h0) (Ev : EnvR c σ env ρ h) (ha : h0.objs.size ≤ a) : EnvR c (upd σ a m) env ρ h :=
  { Ev with
    loc := ⟨by
      obtain ⟨m', hn, _⟩ := E0.vars
      rw [upd_ne _ _ (Nat.ne_of_lt (Nat.lt_of_lt_of_le hn.lt ha))]; exact Ev.loc.1, Ev.loc.2⟩
    cells := fun x k e => by
      obtain ⟨_, _, v, a3⟩ := E0.cells x k e
      rw [upd_ne _ _ (Nat.ne_of_lt (Nat.lt_of_lt_of_le a3.lt ha))]
      exact Ev.cells x k e }
theorem AOk.fresh {A : Around} {h0 h : Heap} {σ0 : Sig} {N0 : Lv} {a : Addr} {m : MO} (a0 : AOk c N0 A σ0 h0) (a1 : AOk c N A σ h) (ha : h0.objs.size ≤ a) : AOk c N A (upd σ a m) h :=
  ⟨a1.depth, a1.units, a1.han, by
    obtain ⟨l, e, f⟩ := a1.frames
    obtain ⟨l', e', f'⟩ := a0.frames
    rw [e] at e'; cases e'
    refine ⟨l, e, fun y hy => ?_⟩
    obtain ⟨k, o, e1, e2, e3, e4, e5, e6, e7⟩ := f y hy
    obtain ⟨k', o', d1, d2, _⟩ := f' y hy
    rw [e1] at d1; cases d1
    exact ⟨k, o, e1, e2, e3, e4, by rw [upd_ne _ _ (Nat.ne_of_lt (Nat.lt_of_lt_of_le (Heap.lt_size d2) ha))]; exact e5, e6, e7⟩, a1.guards⟩
end
end Mine

-- part P41
namespace Mine
section
variable {c : Cx} {N : Lv} {env : Env} {ρ : Rho} {σ : Sig} {Q : V → Sig → Prop} {X : Exn → Sig → Prop} {SQ : GF → Rho → Sig → Prop} {SX : Exn → Rho → Sig → Prop}
/-- nothing is raised -/
theorem S_try_ok {body : List Stmt} {h0 : ExceptHandler} {hs : List ExceptHandler} {pos : Pos} (g : SsG c N env ρ body σ SQ (fun _ _ _ => False)) : StG c N env ρ (.Try body (h0 :: hs) [] [] pos) σ SQ SX := fun A s QQ EE ot ak R E p xp => by
  refine wpAny_Try_except (g A s _ _ ot ak R E (fun f fl ρ' σ' h' tk' q r R' E' x gr => ?_) fun e ex ρ' σ' h' tk' q => q.elim)
  have z := p f fl ρ' σ' h' tk' q r R' E' x gr
  cases f with
  | next => simp only [FR] at r; subst r; exact wpAny_execs_nil z
  | ret v => simp only [FR] at r; obtain ⟨y, rfl, r⟩ := r; exact z
theorem AOk.marked {A : Around} {h : Heap} {v : Option Value} (a : AOk c N A σ h) : AOk c ⟨N.n, false⟩ (A.mark v) σ h := ⟨a.depth, a.units, (fun q => Bool.noConfusion q), a.frames, a.guards⟩
theorem S_try_as {body : List Stmt} {t : PySem.Expr} {n : Str} {b0 : Stmt} {hb : List Stmt} {hpos pos : Pos} {C0 : Value} {SX0 : Exn → Rho → Sig → Prop} (hn : env.kindOf n = some .local)
    (g : SsG c N env ρ body σ SQ SX0)
    (hx : ∀ ex ρ' σ', SX0 ex ρ' σ' → exmOne c.K (.ref ex.C) C0 = some true ∧ (∀ σ1, EvG c ⟨N.n, false⟩ env ρ' t σ1 (fun v σ2 => v = .raw C0 ∧ σ2 = σ1) (fun _ _ => False)) ∧
      ∀ e dx, σ' e = none → σ' dx = none → e ≠ dx → ∃ ρ2, Put n (some (.raw (.ref e))) ρ' ρ2 ∧ SsG c ⟨N.n, false⟩ env ρ2 (b0 :: hb) (upd (upd σ' dx (.ns ex.fs)) e (.exc ex.C (some dx) false)) (fun f ρ3 σ3 => ∃ ρ4, Put n none ρ3 ρ4 ∧ SQ f ρ4 σ3) (fun _ _ _ => False)) :
    StG c N env ρ (.Try body [.ExceptHandler (some t) (some n) (b0 :: hb) hpos] [] [] pos) σ SQ SX := fun A s QQ EE ot ak R E p xp => by
  refine wpAny_Try_except (g A s _ _ ot ak R E (fun f fl ρ' σ' h' tk' q r R' E' x gr => ?_) fun e ex ρ' σ' h' tk' q F R' E' x gr => ?_)
  · have z := p f fl ρ' σ' h' tk' q r R' E' x gr
    cases f with
    | next => simp only [FR] at r; subst r; exact wpAny_execs_nil z
    | ret v => simp only [FR] at r; obtain ⟨y, rfl, r⟩ := r; exact z
  obtain ⟨L, hL⟩ := E.frame_
  have a' := ak.ext2 E x gr E'
  obtain ⟨hm, gt, hs⟩ := hx ex ρ' σ' q
  refine noteFrame_ (s := at_ s h' tk') (lo := s.heap.objs.size) ot a' R' hL F fun h2 x2 F2 => ?_
  have R2 := x2.rel R'
  have E2 := x2.envR E'
  have a2 := x2.ok a'
  refine setFlight_ (s := at_ s h2 tk') (σ := σ') F2.1 fun h3 x3 F3 _ => ?_
  have R3 := x3.rel R2
  have E3 := x3.envR E2
  have a3 := x3.ok a2
  have X3 : Ext (both σ env) s.heap h3 := x3.toExt (x2.toExt x (Nat.le_refl _)) (Nat.le_refl _)
  refine wpAny_handleBy_cons (codeAny_handlers_test ?_) (by intro q; cases q)
  refine gt σ' (A.mark (some (.ref e))) (at_ s h3 tk') _ _ a3.marked R3 E3 (fun v y σ4 h4 tk4 ⟨q4, e4⟩ r4 R4 x4 g4 => ?_) fun _ _ _ _ _ q => q.elim
  subst q4 e4
  simp only [VR] at r4; subst r4
  have E4 := E3.ext R3 x4 g4
  have a4 := a3.ext x4 g4
  have F4 := F3.ext R3 x4 g4
  have X4 : Ext (both σ env) s.heap h4 := X3.trans x4 fun a q => (gr a q).imp .inl id
  have he4 := F4.there
  obtain ⟨dx4, vs4, he4, _⟩ := he4
  refine (exm_one (M := model c.prog c.w) (c.KIn.keeps R4.static) ((Looks.ld he4).andThen .now) hm).here ?_
  simp only [if_true]
  refine codeAny_handlers_suite_as ?_
  refine setFlight_ (s := at_ s h4 tk4) (σ := σ4) F4 fun h5 x5 F5 _ => ?_
  have R5 := x5.rel R4
  have E5 := x5.envR E4
  have a5 := x5.ok a4
  have X5 : Ext (both σ env) s.heap h5 := x5.toExt X4 (Nat.le_refl _)
  obtain ⟨f1, f2, f3, dx, vs, he, hv, f4, f5, f6, f7, ⟨es, k, q1, q2⟩, f9⟩ := F5
  obtain ⟨ρ2, pp, gs⟩ := hs e dx f3 f6 f7.symm
  have R6 : Rel c (upd (upd σ4 dx (.ns ex.fs)) e (.exc ex.C (some dx) false)) h5 := (R5.add (m := .ns ex.fs) f5 ⟨es, k, q1, q2⟩).add (m := .exc ex.C (some dx) false) f2 ⟨vs, he, fun q => Bool.noConfusion q⟩
  have E6 : EnvR c (upd (upd σ4 dx (.ns ex.fs)) e (.exc ex.C (some dx) false)) env ρ' h5 := EnvR.fresh E (EnvR.fresh E E5 f4) f1
  have a6 : AOk c N A (upd (upd σ4 dx (.ns ex.fs)) e (.exc ex.C (some dx) false)) h5 := AOk.fresh ak (AOk.fresh ak a5 f4) f1
  have G6 : Grown σ s.heap (upd (upd σ4 dx (.ns ex.fs)) e (.exc ex.C (some dx) false)) := fun a q => by
    by_cases h1 : a = e
    · exact .inr (h1 ▸ f1)
    · by_cases h2 : a = dx
      · exact .inr (h2 ▸ f4)
      · exact gr a (by rw [upd_ne _ _ h1, upd_ne _ _ h2] at q; exact q)
  refine store_ (s := at_ s h5 tk4) R6 E6 pp (by simp only [VR]) fun h6 tk6 R7 E7 x6 _ => ?_
  have x6' : Ext (both (upd (upd σ4 dx (.ns ex.fs)) e (.exc ex.C (some dx) false)) env) h5 h6 := x6.mono fun _ q => .inr q
  have a7 := a6.ext2 E6 x6' (.refl _ _) E7
  have X6 : Ext (both σ env) s.heap h6 := X5.trans x6 fun a q => .inl (.inr q)
  refine gs (A.mark (some (.ref e))) (at_ s h6 tk6) _ _ ot a7.marked R7 E7 (fun f fl ρ3 σ3 h7 tk7 ⟨ρ4, p4, q4⟩ r R8 E8 x7 gr7 => ?_) fun _ _ _ _ _ _ q => q.elim
  have X7 : Ext (both σ env) s.heap h7 := X6.trans x7 (both_back G6)
  have G7 : Grown σ s.heap σ3 := G6.trans gr7 X6.size
  refine nameGoes_ (s := at_ s h7 tk7) hn R8 E8 p4 fun h8 tk8 R9 E9 x8 => ?_
  refine p f fl ρ4 σ3 h8 tk8 q4 ?_ R9 E9 (X7.trans x8 fun a q => .inl (.inr q)) G7
  cases f with
  | next => exact r
  | ret v => simp only [FR] at r ⊢; obtain ⟨y, rfl, r⟩ := r; exact ⟨y, rfl, VR.ext E8.mine_noTup x8 r⟩
end
end Mine

-- part P42
namespace Mine
section
variable {M : Model} {A : Around} {E : Value → Shared → Prop} {h : Heap} {g : Array GenState} {d : Drawn} {t : Nat} {os : OsState} {prog : Program} {w : World} {R : Result → Shared → Prop}
variable {nm q : Str} {C N : Addr} {bs bm bmB : List Value} {hdct : Bool} {sn : List Str} {sub : List Value} {ab : Bool} {col : Option Bool} {dd : Option Addr} {k0 k1 k2 k3 k5 : Option Value} {B newId initId : String}
theorem check_new_own (F : ExcBaseFacts B newId initId bmB) (hB : bm.contains (.type B) = true) {rest : List Value} {Q : Unit → Shared → Prop} (hC : h.get? C = some (excClassObj nm q C N bs bm hdct sn sub ab col dd k0 k1 k2 k3 k5 newId))
    (hq : Q () ⟨h, g, d, t, os⟩) : wpAny M A (checkBuiltinCall newId ⟨.ref C :: rest, []⟩) Q E ⟨h, g, d, t, os⟩ := by
  have hcont : (Value.ref C :: bm).contains (.type B) = true := by rw [List.contains_cons, hB, Bool.or_true]
  have hstar := F.noStar
  simp only [checkBuiltinCall, F.newKind, F.newSplit, F.newRow]
  repeat (first | refine wpAny_loadPart_at hC ?_ | (refine wpAny_isSubtype_exc hC ?_; rw [hcont]) | refine wpAny_staticBase_exc hC ?_ | refine wpAny_madeBy_exc hC ?_ | simp only [bne_self_eq_false, Bool.false_eq_true, if_false] | wp_step)
  exact hq
theorem exc_new_own (F : ExcBaseFacts B newId initId bmB) (hB : bm.contains (.type B) = true) (hA : bm.contains (.type "AttributeError") = false) (hN : bm.contains (.type "NameError") = false) {rest : List Value} (hC : h.get? C = some (excClassObj nm q C N bs bm hdct sn sub ab col dd k0 k1 k2 k3 k5 newId))
    (hq : R (.ok (.ret (.ref (h.objs.size + 1)))) ⟨(h.push { cls := .type "tuple", data := .seq rest.toArray }).push
      { cls := .ref C, data := .fields #[.ref h.objs.size, .none, .none, .none, .bool false, .none] }, g, d, t, os⟩) (hrest : rest.length ≤ sizeLine := by size_fits) :
    codeAny (model prog w) A (.builtin newId ⟨.ref C :: rest, []⟩) R ⟨h, g, d, t, os⟩ := by
  have hends := F.ends
  have hcB : (Value.ref C :: bm).contains (.type B) = true := by rw [List.contains_cons, hB, Bool.or_true]
  have hcA : (Value.ref C :: bm).contains (.type "AttributeError") = false := by rw [List.contains_cons, hA]; rfl
  have hcN : (Value.ref C :: bm).contains (.type "NameError") = false := by rw [List.contains_cons, hN]; rfl
  refine codeAny_builtinAt F.entry ?_
  unfold Builtin.«BaseException.__new__»
  refine _root_.PySem.wpAt_bind ?_
  show _root_.PySem.wpAt _ _ _ (stack >>= _) _ _ _
  refine _root_.PySem.wpAt_bind (_root_.PySem.wpAt_stack fun p below => _root_.PySem.wpAt_of_wpAny ?_)
  wp_walk
  refine _root_.PySem.wpAt_of_wpAny ?_
  rw [F.owner]
  repeat (first | with_reducible refine wpAny_madeHere_exc F.canon hC ?_ | with_reducible refine wpAny_loadPart_at hC ?_ | (with_reducible refine wpAny_isSubtype_exc hC ?_; first | rw [hcB] | rw [hcA] | rw [hcN]) | wp_step)
  show R _ _
  rw [Heap.size_push]
  exact hq
end
section
variable {prog : Program} {w : World} {A : Around} {E : Value → Shared → Prop} {h : Heap} {g : Array GenState} {d : Drawn} {t : Nat} {os : OsState}
variable {nm q : Str} {C N : Addr} {bs bm bmB : List Value} {hdct : Bool} {sn : List Str} {sub : List Value} {ab : Bool} {col : Option Bool} {dd : Option Addr} {k0 k1 k2 k3 k5 : Option Value} {B newId initId : String}
theorem type_call_own (F : ExcBaseFacts B newId initId bmB) (hB : bm.contains (.type B) = true) (hA : bm.contains (.type "AttributeError") = false) (hN : bm.contains (.type "NameError") = false) {rest : List Value} {fI : Addr} {oI : Obj} {Q : PySem.Fin → Shared → Prop}
    (hC : h.get? C = some (excClassObj nm q C N bs bm hdct sn sub ab col dd k0 k1 k2 k3 k5 newId)) (hi : Looks (model prog w) h (typeLookup (.ref C) "__init__") (some (.ref fI)))
    (hfI : h.get? fI = some oI) (hfc : oI.cls = .type "function")
    (hq : ∀ h' e, Heap.MadeExcOf h h' e (.ref C) rest → h.objs.size ≤ e → h.objs.size ≤ h'.objs.size →
      wpAny (model prog w) A (call (.ref fI) (.ref e :: rest)) (fun r s' => r = .none ∧ Q (.done (.ret (.ref e))) s') E ⟨h', g, d, t, os⟩) (hrest : rest.length ≤ sizeLine := by size_fits) :
    wpAny (model prog w) A (Builtin.«type.__call__» ⟨.ref C :: rest, []⟩) Q E ⟨h, g, d, t, os⟩ := by
  repeat (first | with_reducible refine wpAny_loadPart_at hC ?_ | with_reducible refine wpAny_madeBy_exc hC ?_ | wp_step)
  refine codeAny_call_builtin_code (Code.quiet_builtin _ F.quiet) (check_new_own F hB hC ?_)
  refine exc_new_own F hB hA hN hC ?_ hrest
  show wpAny _ _ _ _ _ _
  have kk : ∀ b o, h.get? b = some o → ((h.push { cls := .type "tuple", data := .seq rest.toArray }).push { cls := .ref C, data := .fields #[.ref h.objs.size, .none, .none, .none, .bool false, .none] }).get? b = some o := fun b o e => Heap.get?_push_of_some _ (Heap.get?_push_of_some _ e)
  have hC₁ := kk _ _ hC
  have hfI₁ := kk _ _ hfI
  have hi₁ := hi.keeps kk
  have hget : ((h.push { cls := .type "tuple", data := .seq rest.toArray }).push
      { cls := .ref C, data := .fields #[.ref h.objs.size, .none, .none, .none, .bool false, .none] }).get? (h.objs.size + 1) = some
      { cls := .ref C, data := .fields #[.ref h.objs.size, .none, .none, .none, .bool false, .none] } := by heap_get
  have hcC : (Value.ref C :: bm).contains (.ref C) = true := by simp
  unfold isInstance
  repeat (first | with_reducible refine wpAny_loadPart_at hget ?_ | (with_reducible refine wpAny_isSubtype_exc hC₁ ?_; rw [hcC]) | wp_step)
  show wpAny _ _ (typeLookup (.ref C) _) _ _ _
  refine hi₁.at ?_
  refine wpAny_holding (wpAny_bind ?_)
  unfold bindSpecial
  refine wpAny_bind (wpAny_typeOf (T := "function") ⟨_, hfI₁, hfc⟩ ?_)
  rw [if_pos (by decide)]
  refine wpAny_pure (wpAny_bind (wpAny_mono (hq _ (h.objs.size + 1) ⟨fun b o hb => Heap.get?_push_of_some _ (Heap.get?_push_of_some _ hb), Heap.get?_none_of_le (Nat.le_succ _), h.objs.size, hget, Heap.get?_none_of_le (Nat.le_refl _), ?_⟩ (Nat.le_succ _) (by rw [Heap.size_push, Heap.size_push]; omega)) (fun r s' hr => ?_) fun _ _ x => x))
  · exact Heap.get?_push_of_some _ (Heap.get?_push_at rfl rfl)
  · obtain ⟨rfl, hQ⟩ := hr
    wp_walk
    exact hQ
theorem call_exc_own (F : ExcBaseFacts B newId initId bmB) (hB : bm.contains (.type B) = true) (hA : bm.contains (.type "AttributeError") = false) (hN : bm.contains (.type "NameError") = false) {rest : List Value} {fI : Addr} {oI : Obj} {R : Result → Shared → Prop}
    (hC : h.get? C = some (excClassObj nm q C N bs bm hdct sn sub ab col dd k0 k1 k2 k3 k5 newId)) (hi : Looks (model prog w) h (typeLookup (.ref C) "__init__") (some (.ref fI)))
    (hfI : h.get? fI = some oI) (hfc : oI.cls = .type "function")
    (hq : ∀ h' e, Heap.MadeExcOf h h' e (.ref C) rest → h.objs.size ≤ e → h.objs.size ≤ h'.objs.size →
      wpAny (model prog w) (A.under (.builtin "type.__call__" ⟨.ref C :: rest, []⟩)) (call (.ref fI) (.ref e :: rest)) (fun r s' => r = .none ∧ R (.ok (.ret (.ref e))) s') (fun e s' => R (.error e) s') ⟨h', g, d, t, os⟩) (hrest : rest.length ≤ sizeLine := by size_fits) :
    codeAny (model prog w) A (.call (.ref C) ⟨rest, []⟩) R ⟨h, g, d, t, os⟩ := by
  have f1 := tc_lookup
  have f2 := tc_bind (.ref C)
  have hT : (⟨h, g, d, t, os⟩ : Shared).TypeIs (.ref C) "type" := ⟨_, hC, rfl⟩
  refine codeAny_of_tree ?_
  show wpAny _ _ (callAny (.ref C) _) _ _ _
  repeat (any_goals (first | assumption | with_reducible refine wpAny_loadPart_at hC ?_ | wp_step))
  refine ⟨rfl, ?_⟩
  refine codeAny_call_builtin_at (Code.quiet_builtin _ (by decide +kernel)) entry_typeCall (wpAny_check_type_call_sub hC (type_call_own (hrest := hrest) F hB hA hN hC hi hfI hfc fun h' e hm h1 h2 => ?_))
  exact hq h' e hm h1 h2
end
end Mine

-- part P43
section
open PySem.Builtin PySem.Builtin.ObjectAttr PySem.Builtin.Getset_descriptor
namespace Mine
inductive ExcMro : List Value → Prop
  | base : ExcMro [.type "Exception", .type "BaseException", .type "object"]
  | own (a : Addr) {r : List Value} : ExcMro r → ExcMro (.ref a :: r)
theorem ExcMro.passes (self : Value) {l : List Value} (m : ExcMro l) : refuseLoop self "__setattr__" l = pure () := by
  induction m with
  | base => exact PySem.F.store_Exception.passes self
  | own a _ ih => rw [refuseLoop_ref]; exact ih
theorem ExcMro.has {l : List Value} (m : ExcMro l) : l.contains (.type "object") = true := by
  induction m with
  | base => decide
  | own a _ ih => rw [List.contains_cons, ih, Bool.or_true]
theorem ExcMro.ne {l : List Value} (m : ExcMro l) : l.isEmpty = false := by cases m <;> rfl
section
variable {prog : Program} {w : World} {A : Around} {R : Result → Shared → Prop} {s : Shared} {K : Frag} {x C : Addr} {cd : ClassData}
theorem osaE_open {ox : Obj} {od : Option Obj} {name : Str} {tk : Tok} {v : Value} (X : K.In s.heap) (I : InstAt s.heap x ox C od) (hc : clsIn K C = some cd) (hm : ExcMro cd.mro) (ha : findIn K (.ref C) name = some none)
    (h : wpAny (model prog w) A.in1 (storeInOwnDict (.ref x) (.ref C) (.str name tk) name v false)
      (fun fin s' => match fin with | .done f => R (.ok f) s' | .again c' => c'.quiet = true ∧ codeAny (model prog w) A c' R s') (fun e s' => R (.error e) s') s) :
    codeAny (model prog w) A (.call (.builtin "object.__setattr__") ⟨[.ref x, .str name tk, v], []⟩) R s := by
  have SF := PySem.F.store_object
  have sub : Looks (model prog w) s.heap (isInstance (.ref x) (.type "object")) true := I.type.andThen (looks_mroIn X (by unfold mroIn; rw [hc, Option.bind_some, if_neg (by rw [hm.ne]; decide), hm.has]))
  refine codeAny_call_builtin SF.slot.plain SF.entry (@check_slot (model prog w) _ _ s "object.__setattr__" "object" "__setattr__" (.ref x) [.str name tk, v] [] _ SF.kind SF.split sub (SF.args (.ref x) (.str name tk) v) ?_)
  have hmr : Looks (model prog w) s.heap (mroOf (.ref C)) cd.mro := (looks_clsIn X hc).andThen .now
  have L3 : Looks (model prog w) s.heap (storeTaker? none) none := .now
  rw [osa_eq, refuse_eq]
  refine wpAny_bind (wpAny_bind (I.type.here (wpAny_bind (hmr.here ?_))))
  rw [hm.passes]
  refine wpAny_pure (wpAny_bind (I.type.here (wpAny_bind ((looks_findIn X ha).here (wpAny_bind (L3.here ?_))))))
  exact h
theorem storeIn_ {s : Shared} {dx : Addr} {es : List DictEntry} {n : Nat} {name : Str} {y : Value} {tk : Tok} {P : PySem.Fin → Shared → Prop} {E : Value → Shared → Prop} (q1 : s.heap.get? dx = some (W.dictOf es n)) (hr : es.any (·.refKey) = false) (hz : es.length ≤ 900)
    (h : ∀ hsh tk (s' : Shared), s' = at_ s (s.heap.update dx (Obj.putName name hsh (.str name tk) y)) (tks s') → (s.heap.update dx (Obj.putName name hsh (.str name tk) y)).get? dx = some (W.dictOf (putL name hsh (.str name tk) y es) (putN name es n)) → P (.done (.ret .none)) s') : wpAny (model prog w) A (storeInDict dx (.str name tk) name y) P E s := by
  refine wpAny_bind (wpAny_pure (wpAny_bind ?_))
  unfold nsSet
  refine wpAny_bind (wpAny_bind (wpAny_askSetting (wpAny_pure (wpAny_bind (wpAny_mkText (wpAny_bind (wpAny_loadPart q1 ?_)))))))
  have cc : (!es.toArray.any (·.key.isStr name) && es.toArray.any (·.refKey)) = false := by
    rw [← Array.any_toList, ← Array.any_toList]
    show (!es.any (·.key.isStr name) && es.any (·.refKey)) = false
    rw [hr, Bool.and_false]
  dsimp only
  rw [aRefKeyMayBeTheName_at, cc]
  refine wpAny_updatePart q1 ?_
  have hp2 : ∀ hsh key, (s.heap.update dx (Obj.putName name hsh key y)).get? dx = some (W.dictOf (putL name hsh key y es) (putN name es n)) := fun hsh key => by
    rw [← putName_dict]
    exact Heap.get?_update_self _ q1 (by rw [putName_dict]; rfl)
  refine wpAny_bind (wpAny_lookBehind (hp2 _ _) (pastItsLine_dict ?_) ?_)
  · rw [List.size_toArray, sizeLine_is]
    refine Nat.le_trans (putL_length ..) ?_
    omega
  · refine wpAny_pure ?_
    exact h _ _ _ rfl (hp2 _ _)
end
section
variable {c : Cx} {N : Lv} {env : Env} {ρ : Rho} {σ : Sig} {Q : V → Sig → Prop} {X : Exn → Sig → Prop}
theorem A_setE {a C dx : Addr} {nw : Bool} {l : List (Str × V)} {name : Str} {v : V} {cd : ClassData} {Q : Sig → Prop} (e1 : σ a = some (.exc C (some dx) nw)) (e2 : σ dx = some (.ns l)) (q : Q (upd σ dx (.ns (putA l name v)))) (hz : l.length ≤ 900)
    (hs : findIn c.K (.ref C) "__setattr__" = some (some (.builtin "object.__setattr__"))) (hc : clsIn c.K C = some cd) (hm : ExcMro cd.mro) (ht : findIn c.K (.ref C) name = some none) (hh : cd.hasDict = true) : SetOp c N σ (.raw (.ref a)) name v Q X := fun A s QQ EE x y ak R r1 r2 p xp => by
  simp only [VR] at r1; subst r1
  have KX := c.KIn.keeps R.static
  obtain ⟨es, n, q1, q2⟩ := (R.obj dx _ e2).2
  obtain ⟨vs, hx, _⟩ := (R.obj a _ e1).2
  have I : InstAt s.heap a ⟨.ref C, some dx, .fields vs, #[]⟩ C (some (W.dictOf es n)) := ⟨hx, rfl, rfl, q1⟩
  refine set_plain KX I hs (osaE_open (s := { s with toks := s.toks + 1 }) KX I hc hm ht ?_)
  refine wpAny_bind (wpAny_pure (wpAny_bind (wpAny_bind (wpAny_loadPart hx (wpAny_bind ((looks_clsIn KX hc) _ _ _ _ (fun _ _ e => e) ?_))))))
  rw [hh]
  refine wpAny_pure (a := some dx) ?_
  refine storeIn_ (s := { s with toks := s.toks + 1 }) q1 q2.norefs (by rw [q2.length]; exact hz) fun hsh tk s' es' hp2 => ?_
  have hsb : Heap.SameBut dx s.heap (s.heap.update dx (Obj.putName name hsh (.str name tk) y)) := .update ..
  have x : Ext (dom σ) s.heap (s.heap.update dx (Obj.putName name hsh (.str name tk) y)) := .same hsb (.inl (by show σ dx ≠ none; rw [e2]; simp))
  rw [es']
  exact p () () _ _ _ q trivial (R.change e2 hsb ⟨_, _, hp2, EsR.mono (fun _ _ t => IsTup.ext R.noTup x t) _ _ (EsR.put r2 q2)⟩) x (.upd (.inl (by rw [e2]; simp)))
theorem upd_upd (σ : Sig) (a : Addr) (m m' : MO) : upd (upd σ a m) a m' = upd σ a m' := by
  funext b
  by_cases h : b = a
  · subst h; rw [upd_same, upd_same]
  · rw [upd_ne _ _ h, upd_ne _ _ h, upd_ne _ _ h]
theorem A_setE_new {a C : Addr} {nw : Bool} {name : Str} {v : V} {cd : ClassData} {Q : Sig → Prop} (e1 : σ a = some (.exc C none nw)) (q : ∀ dx, σ dx = none → dx ≠ a → Q (upd (upd σ a (.exc C (some dx) nw)) dx (.ns [(name, v)])))
    (hs : findIn c.K (.ref C) "__setattr__" = some (some (.builtin "object.__setattr__"))) (hc : clsIn c.K C = some cd) (hm : ExcMro cd.mro) (ht : findIn c.K (.ref C) name = some none) (hh : cd.hasDict = true) : SetOp c N σ (.raw (.ref a)) name v Q X := fun A s QQ EE x y ak R r1 r2 p xp => by
  simp only [VR] at r1; subst r1
  have KX := c.KIn.keeps R.static
  obtain ⟨vs, hx, hnw⟩ := (R.obj a _ e1).2
  have I : InstAt s.heap a ⟨.ref C, none, .fields vs, #[]⟩ C none := ⟨hx, rfl, rfl, trivial⟩
  refine set_plain KX I hs (osaE_open (s := { s with toks := s.toks + 1 }) KX I hc hm ht ?_)
  refine wpAny_bind (wpAny_pure (wpAny_bind (wpAny_bind (wpAny_loadPart hx (wpAny_bind ((looks_clsIn KX hc) _ _ _ _ (fun _ _ e => e) ?_))))))
  rw [hh]
  have hx₁ : (s.heap.push { cls := .type "dict", data := .dict #[] }).get? a = some ⟨.ref C, none, .fields vs, #[]⟩ := Heap.get?_push_of_some _ hx
  have hxs : a ≠ s.heap.objs.size := Nat.ne_of_lt (Heap.lt_size hx)
  refine wpAny_bind (wpAny_alloc' ?_)
  refine wpAny_bind (wpAny_update' hx₁ ?_)
  refine wpAny_pure ?_
  have hsb1 : Heap.SameBut a (s.heap.push { cls := .type "dict", data := .dict #[] }) ((s.heap.push { cls := .type "dict", data := .dict #[] }).update a fun o => { o with dict := some s.heap.objs.size }) := .update ..
  have hd1 : (s.heap.push { cls := .type "dict", data := .dict #[] }).get? s.heap.objs.size = some (W.dictOf [] 0) := Heap.get?_push_size _ rfl
  have hd2 : ((s.heap.push { cls := .type "dict", data := .dict #[] }).update a fun o => { o with dict := some s.heap.objs.size }).get? s.heap.objs.size = some (W.dictOf [] 0) := (hsb1.2 _ hxs.symm).trans hd1
  have ha2 : ((s.heap.push { cls := .type "dict", data := .dict #[] }).update a fun o => { o with dict := some s.heap.objs.size }).get? a = some ⟨.ref C, some s.heap.objs.size, .fields vs, #[]⟩ := Heap.get?_update_self _ hx₁ rfl
  refine storeIn_ (s := { s with heap := (s.heap.push { cls := .type "dict", data := .dict #[] }).update a fun o => { o with dict := some s.heap.objs.size }, toks := s.toks + 1 }) hd2 rfl (by simp) fun hsh tk s' es' hp2 => ?_
  rw [es']
  have f := R.fresh
  have x1 : Ext (dom σ) s.heap (s.heap.push { cls := .type "dict", data := .dict #[] }) := .push _ _
  have x2 : Ext (dom σ) (s.heap.push { cls := .type "dict", data := .dict #[] }) ((s.heap.push { cls := .type "dict", data := .dict #[] }).update a fun o => { o with dict := some s.heap.objs.size }) := .same hsb1 (.inl (by show σ a ≠ none; rw [e1]; simp))
  have R1 : Rel c σ (s.heap.push { cls := .type "dict", data := .dict #[] }) := R.push _
  have R2 := R1.change (m' := .exc C (some s.heap.objs.size) nw) e1 hsb1 ⟨vs, ha2, hnw⟩
  have R3 := R2.add (m := .ns []) R.size ⟨[], 0, hd2, rfl⟩
  have hsb3 : Heap.SameBut s.heap.objs.size ((s.heap.push { cls := .type "dict", data := .dict #[] }).update a fun o => { o with dict := some s.heap.objs.size }) (((s.heap.push { cls := .type "dict", data := .dict #[] }).update a fun o => { o with dict := some s.heap.objs.size }).update s.heap.objs.size (Obj.putName name hsh (.str name tk) y)) := .update ..
  have x3 : Ext (fun b => b = s.heap.objs.size) ((s.heap.push { cls := .type "dict", data := .dict #[] }).update a fun o => { o with dict := some s.heap.objs.size }) (((s.heap.push { cls := .type "dict", data := .dict #[] }).update a fun o => { o with dict := some s.heap.objs.size }).update s.heap.objs.size (Obj.putName name hsh (.str name tk) y)) := .same hsb3 (.inl rfl)
  have xx : Ext (dom σ) s.heap (((s.heap.push { cls := .type "dict", data := .dict #[] }).update a fun o => { o with dict := some s.heap.objs.size }).update s.heap.objs.size (Obj.putName name hsh (.str name tk) y)) := (x1.trans x2 fun _ q => .inl q).trans x3 fun b e => .inr (by rw [e]; exact Nat.le_refl _)
  have R4 := R3.change (m' := .ns [(name, v)]) (upd_same _ _ _) hsb3 ⟨_, _, hp2, (by
    have := EsR.put (name := name) (hsh := hsh) (tk := tk) (R.vr xx r2) (l := []) (es := []) rfl
    exact this)⟩
  rw [upd_upd] at R4
  refine p () () _ _ _ (q s.heap.objs.size f hxs.symm) trivial R4 xx fun b hb => ?_
  by_cases h1 : b = s.heap.objs.size
  · exact .inr (by rw [h1]; exact Nat.le_refl _)
  · rw [upd_ne _ _ h1] at hb
    by_cases h2 : b = a
    · subst h2; exact .inl (by rw [e1]; simp)
    · rw [upd_ne _ _ h2] at hb; exact .inl hb
end
end Mine
end

-- part P44
namespace Mine
section
variable {M : Model} {A : Around} {E : Value → Shared → Prop} {s : Shared} {env : Env}
theorem raiseStmt_own {x : Sem Value} {Q : Flow → Shared → Prop} (hh : A.handled = none)
    (h : wpAny M A x (fun v s₁ => ∃ e C dx vs oC, v = .ref e ∧ s₁.heap.get? e = some ⟨.ref C, some dx, .fields vs, #[]⟩ ∧ vs[1]? = some .none ∧ s₁.heap.get? C = some oC ∧ oC.cls = .type "type" ∧ Looks M s₁.heap (isSubtype (.ref C) (.type "BaseException")) true ∧ E (.ref e) s₁) E s) : wpAny M A (raiseStmt env (some x) none) Q E s := by
  unfold raiseStmt
  refine wpAny_bind (wpAny_mono h (fun v s₁ h₁ => ?_) fun _ _ x => x)
  obtain ⟨e, C, dx, vs, oC, rfl, he, h1, hC, hcC, hsub, hE⟩ := h₁
  obtain ⟨hp, g, d, tk, os⟩ := s₁
  repeat (first | with_reducible refine wpAny_field he rfl h1 ?_ | with_reducible refine wpAny_loadPart_at he ?_ | (with_reducible refine wpAny_loadPart_at hC ?_; rw [hcC]) | (with_reducible refine hsub.at ?_) | wp_step)
  exact wpAny_raiseNew_none hh hE
end
section
variable {c : Cx} {N : Lv} {env : Env} {ρ : Rho} {σ : Sig} {Q : V → Sig → Prop} {X : Exn → Sig → Prop} {SQ : GF → Rho → Sig → Prop} {SX : Exn → Rho → Sig → Prop}
noncomputable def del (σ : Sig) (a : Addr) : Sig := fun b => if b = a then none else σ b
theorem del_same (σ : Sig) (a : Addr) : del σ a a = none := by simp [del]
theorem del_some {σ : Sig} {a b : Addr} {m : MO} (h : del σ a b = some m) : b ≠ a ∧ σ b = some m := by
  unfold del at h
  split at h
  · cases h
  · exact ⟨‹_›, h⟩
theorem del_none {σ : Sig} {a b : Addr} (h : σ b = none) : del σ a b = none := by
  unfold del; split <;> first | rfl | exact h
theorem Rel.del {h : Heap} (R : Rel c σ h) (a : Addr) : Rel c (del σ a) h := ⟨R.static, R.size, fun b m e => R.obj b m (del_some e).2⟩
theorem EnvR.del {h : Heap} (Ev : EnvR c σ env ρ h) (a : Addr) : EnvR c (del σ a) env ρ h :=
  { Ev with
    loc := ⟨del_none Ev.loc.1, Ev.loc.2⟩
    cells := fun x k e => let ⟨a1, r⟩ := Ev.cells x k e; ⟨del_none a1, r⟩ }
theorem Grown.del {h : Heap} {σ' : Sig} (g : Grown σ h σ') (a : Addr) : Grown σ h (del σ' a) := fun b q => g b fun e => q (del_none e)
/-- raise of a new own exception -/
theorem S_raise {e : PySem.Expr} {pos : Pos} (hhn : N.hn = true)
    (g : EvG c N env ρ e σ (fun v σ1 => ∃ a C dx fs oC, v = .raw (.ref a) ∧ σ a = none ∧ σ dx = none ∧ σ1 a = some (.exc C (some dx) true) ∧ σ1 dx = some (.ns fs) ∧ c.K.lookup C = some oC ∧ oC.cls = .type "type" ∧ subIn c.K (.ref C) (.type "BaseException") = some true ∧ SX ⟨C, fs⟩ ρ (del (del σ1 a) dx)) (fun ex σ' => SX ex ρ σ')) : StG c N env ρ (.Raise (some e) none pos) σ SQ SX := fun A s QQ EE ot ak R E p xp => by
  rw [arm_exec_Raise]
  show wpAny _ A (do standAt pos; raiseStmt env (some (do let v ← eval e env; standAt pos; pure v)) none) QQ EE s
  refine wpAny_bind (wpAny_standAt (raiseStmt_own (ak.han hhn) (wpAny_bind (EvG.inS g ak R E xp fun v y σ1 h1 tk1 q r R1 E1 a1 x1 gr1 => wpAny_bind (wpAny_standAt (wpAny_pure ?_))))))
  obtain ⟨a, C, dx, fs, oC, rfl, n1, n2, e1, e2, hC, hcC, hsub, q⟩ := q
  simp only [VR] at r; subst r
  have KX := c.KIn.keeps R1.static
  obtain ⟨vs, he, hnw⟩ := (R1.obj a _ e1).2
  obtain ⟨hz, hv1⟩ := hnw rfl
  obtain ⟨es, n, hd, hr⟩ := (R1.obj dx _ e2).2
  have la : s.heap.objs.size ≤ a := (gr1 a (by rw [e1]; simp)).elim (fun z => absurd n1 z) id
  have ld : s.heap.objs.size ≤ dx := (gr1 dx (by rw [e2]; simp)).elim (fun z => absurd n2 z) id
  have hne : dx ≠ a := fun q => by rw [q, e1] at e2; cases e2
  refine ⟨a, C, dx, vs, oC, rfl, he, hv1, KX _ _ hC, hcC, looks_subIn KX hsub, ?_⟩
  refine xp a ⟨C, fs⟩ ρ (del (del σ1 a) dx) h1 tk1 q ⟨la, (R1.obj a _ e1).1, del_none (del_same _ _), dx, vs, he, hz, ld, (R1.obj dx _ e2).1, del_same _ _, hne, ⟨es, n, hd, hr⟩, .inl hv1⟩ ((R1.del a).del dx) ((E1.del a).del dx) x1.both ((gr1.del a).del dx)
/-- an own exception is made -/
theorem C_exc {n : Nat} {hn : Bool} {C fI : Addr} {args : List V} {nm q : Str} {Nn : Addr} {bs bm bmB : List Value} {hdct : Bool} {sn : List Str} {sub : List Value} {ab : Bool} {col : Option Bool} {dd : Option Addr} {k0 k1 k2 k3 k5 : Option Value} {B newId initId : String}
    (F : ExcBaseFacts B newId initId bmB) (hB : bm.contains (.type B) = true) (hA : bm.contains (.type "AttributeError") = false) (hN : bm.contains (.type "NameError") = false)
    (hK : c.K.lookup C = some (excClassObj nm q C Nn bs bm hdct sn sub ab col dd k0 k1 k2 k3 k5 newId))
    (hi : findIn c.K (.ref C) "__init__" = some (some (.ref fI))) (hf : isFn c.K (.ref fI) = true) (hz : args.length ≤ 1000)
    (g : ∀ a, σ a = none → CodeOp c ⟨n, hn⟩ (upd σ a (.exc C none true)) (.ref fI) (.raw (.ref a) :: args) (fun v σ' => v = .none ∧ Q (.raw (.ref a)) σ') X) : CodeOp c ⟨n + 1, hn⟩ σ (.ref C) args Q X := fun A s R' ys a R r p xp => by
  have KX := c.KIn.keeps R.static
  obtain ⟨oI, hfI, hfc⟩ : ∃ of, s.heap.get? fI = some of ∧ of.cls = .type "function" := by
    have ht' : (c.K.lookup fI).map (·.cls) = some (.type "function") := beq_iff_eq.mp hf
    cases z : c.K.lookup fI with
    | none => rw [z] at ht'; cases ht'
    | some of => rw [z] at ht'; exact ⟨of, KX _ _ z, Option.some.inj ht'⟩
  have hl : ys.length ≤ 1000 := by rw [r.length]; exact hz
  refine call_exc_own F hB hA hN (KX _ _ hK) (looks_findIn KX hi) hfI hfc (fun h' e m h1 h2 => ?_) (by rw [sizeLine_is]; omega)
  obtain ⟨kp, nw, t, he, ht, htt⟩ := m
  have x1 : Ext (dom σ) s.heap h' := ext_grow kp h2
  have f1 : σ e = none := fresh_of R h1
  have R1 := (R.grow kp h2).add (m := .exc C none true) (Nat.le_trans R.size h1) ⟨_, he, fun _ => ⟨by simp, rfl⟩⟩
  have gr : Grown σ s.heap (upd σ e (.exc C none true)) := .upd (.inr h1)
  refine (g e f1).call _ (at_ s h' (tks s)) _ _ (.ref e :: ys) (a.ext x1 gr).make R1 (.cons (by simp only [VR]) (R.vrs x1 r)) ?_ ?_
  · intro v y σ' h'' tk' ⟨ev, q⟩ ry R'' x gr'
    subst ev
    simp only [VR] at ry
    exact ⟨ry, p _ _ σ' h'' tk' q (by simp only [VR]) R'' (x1.trans x (dom_back gr)) (gr.trans gr' x1.size)⟩
  · exact fun e' ex σ' h'' tk' q f R'' x gr' => xp e' ex σ' h'' tk' q (f.lo x1.size) R'' (x1.trans x (dom_back gr)) (gr.trans gr' x1.size)
end
end Mine

-- part P45
namespace Mine
theorem slot_wd_get : Slot "wrapper_descriptor" "__get__" "wrapper_descriptor.__get__" := .of (owner := "wrapper_descriptor") (n := "__get__") (by rw [typeLookup_type, builtinLookup_eq_fast]; kernel_rfl) (by decide +kernel) (by decide +kernel) (by decide +kernel)
  (by first | exact .inl (by decide +kernel) | exact .inr (by decide +kernel)) (by rw [isSubtype_type]; kernel_rfl)
theorem entry_wd_get : entryFor table "wrapper_descriptor.__get__" = some Builtin.«wrapper_descriptor.__get__» := entryFor_of_tree (by kernel_rfl)
theorem args_wd_get (a b c : Value) : argsOk "wrapper_descriptor.__get__" ⟨[a, b, c], []⟩ := by unfold argsOk; kernel_rfl
theorem type_exc_init : typeOf (.builtin "Exception.__init__") = pure (.type "wrapper_descriptor") := by kernel_rfl
theorem ecut_ : ".".intercalate ("Exception.__init__".cutAt '.').dropLast = "Exception" := by kernel_rfl
section
variable {prog : Program} {w : World} {A : Around} {E : Value → Shared → Prop} {h : Heap} {g : Array GenState} {d : Drawn} {t : Nat} {os : OsState}
set_option maxHeartbeats 2000000 in
theorem super_ga_b {so D x C : Addr} {ox : Obj} {l₀ l : List Value} {K : Frag} {tk : Tok} {Q : PySem.Fin → Shared → Prop}
    (hso : h.get? so = some { cls := .type "super", dict := none, data := .fields #[.ref D, .ref x, .ref C], slots := #[] }) (hno : Looks (model prog w) h (opaqueClassAbove (.ref C)) none)
    (hC : Looks (model prog w) h (mroOf (.ref C)) l₀) (hl : (l₀.dropWhile (· != .ref D)).drop 1 = l) (X : K.In h)
    (hf : alongIn K "__init__" l = some (some (.builtin "Exception.__init__"))) (hx : h.get? x = some ox) (hxc : ox.cls = .ref C) (hsub : Looks (model prog w) h (isSubtype (.ref C) (.type "Exception")) true) (hxC : x ≠ C)
    (hq : Q (.done (.ret (.ref h.objs.size))) ⟨h.push { cls := .type "method-wrapper", data := .fields #[.builtin "Exception.__init__", .ref x] }, g, d, t, os⟩) :
    wpAny (model prog w) A (Builtin.«super.__getattribute__» ⟨[.ref so, .str "__init__" tk], []⟩) Q E ⟨h, g, d, t, os⟩ := by
  have hlk := slot_wd_get.lookup
  have hne : (Value.ref x == Value.ref C) = false := by simp [hxC]
  have hn : (("__init__" : Str) == ("__class__" : Str)) = false := by decide
  have hty := type_exc_init
  have hTf : (⟨h, g, d, t, os⟩ : Shared).TypeIs (.builtin "Exception.__init__") "wrapper_descriptor" := by exact type_exc_init
  have ecut := ecut_
  have hdt : ({ cls := .type "super", dict := none, data := .fields #[.ref D, .ref x, .ref C], slots := #[] } : Obj).data = .fields #[.ref D, .ref x, .ref C] := rfl
  have f0 : (#[.ref D, .ref x, .ref C] : Array Value)[0]? = some (.ref D) := rfl
  have f1 : (#[.ref D, .ref x, .ref C] : Array Value)[1]? = some (.ref x) := rfl
  have f2 : (#[.ref D, .ref x, .ref C] : Array Value)[2]? = some (.ref C) := rfl
  unfold Builtin.«super.__getattribute__»
  repeat (first
    | (with_reducible refine wpAny_field hso hdt f0 ?_) | (with_reducible refine wpAny_field hso hdt f1 ?_) | (with_reducible refine wpAny_field hso hdt f2 ?_)
    | (with_reducible refine ks_wpAny_notOpaque hno ?_)
    | (with_reducible refine Looks.at hC ?_; rw [hl])
    | (refine ks_forIn_along X (fun _ _ => rfl) rfl ?_ hf)
    | (with_reducible refine wpAny_typeOf hTf ?_)
    | (with_reducible refine wpAny_call_entry slot_wd_get hTf entry_wd_get ?_ (args_wd_get _ _ _))
    | (with_reducible refine wpAny_loadPart_at hx ?_; rw [hxc])
    | (with_reducible refine hsub.at ?_)
    | (rw [ecut]; with_reducible refine hsub.at ?_)
    | (with_reducible refine ⟨_, rfl, ?_⟩)
    | (simp only [hn, hne, Bool.or_false, Bool.false_eq_true, if_false])
    | wp_step
    | dsimp only)
  all_goals exact hq
theorem getMethod_super_b {so D x C : Addr} {ox : Obj} {l₀ l : List Value} {K : Frag} {pl : Sem Bool} {Q : Value × List Value → Shared → Prop}
    (hso : h.get? so = some { cls := .type "super", dict := none, data := .fields #[.ref D, .ref x, .ref C], slots := #[] }) (hno : Looks (model prog w) h (opaqueClassAbove (.ref C)) none)
    (hC : Looks (model prog w) h (mroOf (.ref C)) l₀) (hl : (l₀.dropWhile (· != .ref D)).drop 1 = l) (X : K.In h)
    (hf : alongIn K "__init__" l = some (some (.builtin "Exception.__init__"))) (hx : h.get? x = some ox) (hxc : ox.cls = .ref C) (hsub : Looks (model prog w) h (isSubtype (.ref C) (.type "Exception")) true) (hxC : x ≠ C)
    (hq : Q (.ref h.objs.size, []) ⟨h.push { cls := .type "method-wrapper", data := .fields #[.builtin "Exception.__init__", .ref x] }, g, d, t + 1, os⟩) :
    wpAny (model prog w) A (getMethod (.ref so) "__init__" pl) Q E ⟨h, g, d, t, os⟩ := by
  have hlk := F.ks_slot_super_ga.lookup
  have hcan := F.ks_canon_super_ga
  have hT : ∀ t', (⟨h, g, d, t', os⟩ : Shared).TypeIs (.ref so) "super" := fun _ => ⟨_, hso, rfl⟩
  unfold getMethod
  refine wpAny_bind (wpAny_specialOf (hT _) hlk ?_)
  show wpAny _ _ (if (Manifest.canonical "super.__getattribute__" != "object.__getattribute__") = true then _ else _) _ _ _
  rw [if_pos hcan]
  unfold getAttr getAttrBy
  refine wpAny_bind (wpAny_bind (wpAny_mkText (wpAny_holding (wpAny_bind (wpAny_typeOf (hT _) (wpAny_bind (wpAny_of_eq hlk ?_)))))))
  show wpAny _ _ (getAttrByItsOwn (.ref so) (.str "__init__" t) (.type "super") (.builtin "super.__getattribute__") true false) _ _ _
  unfold getAttrByItsOwn hookBefore callGetattribute boundAndCalled
  refine wpAny_bind (wpAny_of_eq (show (if onTheHeap (.type "super") then typeLookup (.type "super") "__getattr__" else pure none) = pure none from rfl) ?_)
  refine wpAny_bind (wpAny_attempt (wpAny_holding ?_))
  show wpAny _ _ (bindSpecial (.builtin "super.__getattribute__") (.ref so) >>= _) _ _ _
  refine wpAny_bind (wpAny_of_eq (F.ks_slot_super_ga.bind _) ?_)
  refine wpAny_mono (Q := fun v s' => v = .ref h.objs.size ∧ s' = ⟨h.push { cls := .type "method-wrapper", data := .fields #[.builtin "Exception.__init__", .ref x] }, g, d, t + 1, os⟩) (E := fun _ _ => False)
    (wpAny_call_entry F.ks_slot_super_ga (hT _) F.ks_entry_super_ga (super_ga_b hso hno hC hl X hf hx hxc hsub hxC ⟨_, rfl, rfl, rfl⟩) (F.ks_gaArgs_super _ _)) (fun v s' hv => ?_) fun _ _ z => z.elim
  obtain ⟨rfl, rfl⟩ := hv
  exact wpAny_pure (wpAny_pure hq)
theorem checkBound_b {M : Model} {x C : Addr} {ox : Obj} {c0 : Value} {dd : Option Addr} {cd : ClassData} {sl : Array (Option Value)} {v : Value} {Q : Unit → Shared → Prop} (hx : h.get? x = some ox) (hxc : ox.cls = .ref C) (hC : h.get? C = some { cls := c0, dict := dd, data := .cls cd, slots := sl })
    (hq : Q () ⟨h, g, d, t, os⟩) : wpAny M A (checkBoundCall "Exception.__init__" ⟨[.ref x, v], []⟩) Q E ⟨h, g, d, t, os⟩ := by
  have F := PySem.F.excBase_Exception
  unfold checkBoundCall
  simp only [F.initRow, F.initKind]
  rw [if_pos (by decide)]
  repeat (first | (with_reducible refine wpAny_loadPart_at hx ?_; rw [hxc]) | with_reducible refine wpAny_loadPart_at hC ?_ | wp_step)
  exact hq
theorem call_mw {mw x C : Addr} {dO : Option Addr} {vs : Array Value} {v t0 : Value} {Q : Value → Shared → Prop} (hmw : h.get? mw = some { cls := .type "method-wrapper", data := .fields #[.builtin "Exception.__init__", .ref x] })
    (hx : h.get? x = some ⟨.ref C, dO, .fields vs, #[]⟩) (h0 : vs[0]? = some t0) {c0 : Value} {dd : Option Addr} {cd : ClassData} {sl : Array (Option Value)} (hC : h.get? C = some { cls := c0, dict := dd, data := .cls cd, slots := sl })
    (hq : ∀ h' , (h'.get? x = some ⟨.ref C, dO, .fields (vs.setIfInBounds 0 (.ref h.objs.size)), #[]⟩) → (∀ b o, b ≠ x → h.get? b = some o → h'.get? b = some o) → h.objs.size ≤ h'.objs.size → Q .none ⟨h', g, d, t, os⟩) :
    wpAny (model prog w) A (call (.ref mw) [v]) Q E ⟨h, g, d, t, os⟩ := by
  refine wpAny_call (codeAny_of_tree ?_)
  show wpAny _ _ (callAny (.ref mw) _) _ _ _
  unfold callAny
  refine wpAny_bind (wpAny_load hmw ?_)
  refine wpAny_bind (checkBound_b hx rfl hC ?_)
  refine wpAny_pure ⟨Code.quiet_builtin _ (by decide +kernel), codeAny_builtin PySem.F.excBase_Exception.initEntry ?_⟩
  have hx1 : (h.push { cls := .type "tuple", data := .seq #[v] }).get? x = some ⟨.ref C, dO, .fields vs, #[]⟩ := Heap.get?_push_of_some _ hx
  have hlt : x < h.objs.size := Heap.lt_size hx
  unfold Builtin.«BaseException.__init__»
  wp_walk
  rw [h0]
  refine wpAny_pure ?_
  have h0' : 0 < vs.size := (Array.getElem?_eq_some_iff.mp h0).1
  show wpAny _ _ (setField (.ref x) 0 (.ref h.objs.size) >>= _) _ _ _
  refine wpAny_bind (wpAny_setField hx1 rfl h0' ?_)
  have hs : Heap.SameBut x (h.push { cls := .type "tuple", data := .seq #[v] }) ((h.push { cls := .type "tuple", data := .seq #[v] }).update x (Obj.mapFields (·.setIfInBounds 0 (Value.ref h.objs.size)))) := .update ..
  have fin : Q .none ⟨(h.push { cls := .type "tuple", data := .seq #[v] }).update x (Obj.mapFields (·.setIfInBounds 0 (Value.ref h.objs.size))), g, d, t, os⟩ := by
    refine hq _ (Heap.get?_update_self _ hx1 rfl) (fun b o hb e => (hs.2 b hb).trans (Heap.get?_push_of_some _ e)) ?_
    rw [hs.1, Heap.size_push]; omega
  cases t0 <;> first | exact wpAny_pure (wpAny_pure fin) | exact wpAny_letGo (wpAny_pure fin)
end
end Mine

-- part P46
namespace Mine
section
variable {c : Cx} {N : Lv} {env : Env} {ρ : Rho} {σ : Sig} {A : Around} {M : Model} {E : Value → Shared → Prop} {s : Shared}
/-- the frame without the cells that it was given -/
noncomputable abbrev bare (env : Env) : Env := { env with cells := [] }
theorem bare_store {env : Env} {x : Str} {y : Value} (hk : env.scope.kind = .function) (hl : env.kindOf x = some .local) : storeName env x y = storeName (bare env) x y := by
  have hp : (env.scope.kind == .class || (env.scope.kind == .module && env.locals != env.globals)) = false := by rw [hk]; rfl
  rw [storeName_local hl hp, storeName_local (env := bare env) hl hp]
theorem bind_loopB (f : Str × Value → PUnit → Sem (ForInStep PUnit)) (hf : ∀ n v u, f (n, v) u = (do storeName env n v; pure (.yield ⟨⟩))) (hk : env.scope.kind = .function) :
    ∀ (xs : List Str) (vs : List V) (ys : List Value) (ρ ρ' : Rho) (s : Shared) (Q : PUnit → Shared → Prop), (∀ x ∈ xs, env.kindOf x = some .local) → VRs s.heap vs ys → Binds (xs.zip vs) ρ ρ' → Rel c σ s.heap → EnvR c σ (bare env) ρ s.heap →
      (∀ h' tk, Rel c σ h' → EnvR c σ (bare env) ρ' h' → Ext (mine (bare env)) s.heap h' → (∀ o, s.heap.get? env.locals = some o → ∃ o', h'.get? env.locals = some o' ∧ o'.cls = o.cls) → Q ⟨⟩ (at_ s h' tk)) → wpAny M A (forIn (xs.zip ys) ⟨⟩ f) Q E s
  | [], vs, ys, ρ, ρ', s, Q, hx, r, b, R, Ev, h => by
    simp only [List.zip_nil_left] at b ⊢
    cases b
    rw [List.forIn_nil]
    exact wpAny_pure (h s.heap (tks s) R Ev (.refl _) fun o e => ⟨o, e, rfl⟩)
  | x :: xs, [], ys, ρ, ρ', s, Q, hx, r, b, R, Ev, h => by
    simp only [VRs] at r; subst r
    simp only [List.zip_nil_right] at b ⊢
    cases b
    rw [List.forIn_nil]
    exact wpAny_pure (h s.heap (tks s) R Ev (.refl _) fun o e => ⟨o, e, rfl⟩)
  | x :: xs, v :: vs, ys, ρ, ρ', s, Q, hx, r, b, R, Ev, h => by
    simp only [VRs] at r
    obtain ⟨y, ys, rfl, r1, r2⟩ := r
    simp only [List.zip_cons_cons] at b ⊢
    cases b with
    | cons pt b =>
      rw [List.forIn_cons, hf, bare_store hk (hx x (.head _))]
      refine wpAny_bind (wpAny_bind (store_ R Ev pt r1 fun h1 tk1 R1 E1 x1 k1 => wpAny_pure ?_))
      refine bind_loopB f hf hk xs vs ys _ _ (at_ s h1 tk1) Q (fun x hx' => hx x (.tail _ hx')) (VRs.ext Ev.mine_noTup x1 r2) b R1 E1 fun h2 tk2 R2 E2 x2 k2 => h h2 tk2 R2 E2 (x1.trans x2 fun a q => .inl q) fun o e => ?_
      obtain ⟨o1, e1, c1⟩ := k1 o e
      obtain ⟨o2, e2, c2⟩ := k2 o1 e1
      exact ⟨o2, e2, c2.trans c1⟩
theorem cellsFrom_id {n : Nat} : ∀ {names : List (Str × NameKind)} {acc : List (Str × Addr)}, (∀ x ∈ names, x.2 ≠ .cell) → cellsFrom n names acc = acc
  | [], acc, _ => rfl
  | (x, k) :: r, acc, hc => by
    have : (k == NameKind.cell) = false := by
      have := hc _ (.head _)
      cases k <;> first | rfl | exact absurd rfl this
    unfold cellsFrom
    rw [this]
    exact cellsFrom_id fun y hy => hc y (.tail _ hy)
theorem pushCells_id {h : Heap} : ∀ {names : List (Str × NameKind)}, (∀ x ∈ names, x.2 ≠ .cell) → pushCells h names = h
  | [], _ => rfl
  | (x, k) :: r, hc => by
    have : (k == NameKind.cell) = false := by
      have := hc _ (.head _)
      cases k <;> first | rfl | exact absurd rfl this
    unfold pushCells
    rw [this]
    exact pushCells_id fun y hy => hc y (.tail _ hy)
theorem enterC_ {scope : Scope} {xs : List Str} {vs : List V} {ys : List Value} {qual : Str} {func : Option Addr} {code : Value} {cl : List (Str × Addr)} {ρ0 ρ1 : Rho} {Q : Env → Shared → Prop} (R : Rel c σ s.heap) (r : VRs s.heap vs ys) (hk : scope.kind = .function)
    (hcell : ∀ x ∈ scope.names, x.2 ≠ .cell) (hxs : ∀ x ∈ xs, scope.names.lookup x = some .local)
    (hkeys : ∀ x ∈ ρ0.map (·.1), scope.names.lookup x = some .local) (hnd : (ρ0.map (·.1)).Nodup) (hnone : ∀ p ∈ ρ0, p.2 = none) (hb : Binds (xs.zip vs) ρ0 ρ1)
    (h : ∀ env h' tk, env = newEnv scope s.heap.objs.size mainGlobals cl qual func code none builtinsNs → Rel c σ h' → EnvR c σ (bare env) ρ1 h' → Ext (dom σ) s.heap h' → (∃ o es n, h'.get? s.heap.objs.size = some o ∧ o.cls = .type "frame" ∧ o.data = .dict es n) → Q env (at_ s h' tk)) :
    wpAny M A (newFunctionEnv scope mainGlobals cl (xs.zip ys) qual func code none builtinsNs) Q E s := by
  simp only [newFunctionEnv, Option.isSome_none, Bool.false_eq_true, if_false]
  refine wpAny_bind (wpAny_alloc ?_)
  refine wpAny_bind (wpAny_layCells _ (fun name kind cells => by cases hkc : kind == NameKind.cell <;> simp [hkc]) _ _ _ _ ?_)
  rw [cellsFrom_id hcell, pushCells_id hcell]
  have hL : (s.heap.push { cls := .type "frame", data := .dict #[] }).get? s.heap.objs.size = some { cls := .type "frame", data := .dict #[] } := Heap.get?_push_size _ rfl
  generalize hH : s.heap.push { cls := .type "frame", data := .dict #[] } = H at *
  have X1 : Ext (dom σ) s.heap H := by rw [← hH]; exact .push _ _
  have R1 : Rel c σ H := by rw [← hH]; exact R.push _
  have E1 : EnvR c σ (bare (newEnv scope s.heap.objs.size mainGlobals cl qual func code none builtinsNs)) ρ0 H := by
    refine ⟨hk, rfl, rfl, ⟨R.fresh, R.size⟩, fun x k e => ?_, List.Pairwise.nil, ⟨fun _ => none, ?_, fun x v hm => ?_⟩, hnd, fun x hx => .inl (hkeys x hx), .inl rfl, ⟨_, _, rfl, hL, rfl, _, _, rfl⟩⟩
    · cases e
    · exact ⟨_, #[], 0, hL, rfl, fun e he => by simp at he, fun _ => rfl⟩
    · have := hnone _ hm
      cases this
  refine wpAny_bind (bind_loopB (s := { s with heap := H }) (env := newEnv scope s.heap.objs.size mainGlobals cl qual func code none builtinsNs) _ (fun _ _ _ => rfl) hk xs vs ys ρ0 ρ1 _ hxs (R.vrs X1 r) hb R1 E1 fun h2 tk2 R2 E2 x2 k2 => wpAny_pure ?_)
  refine h _ h2 tk2 rfl R2 E2 (X1.trans (B' := mine _) x2 fun a q => ?_) ?_
  · rcases q with rfl | ⟨x, e⟩
    · exact .inr (Nat.le_refl _)
    · cases e
  · obtain ⟨o', e', c'⟩ := k2 _ hL
    obtain ⟨m, ⟨o2, es, ep, q1, q2, _⟩, _⟩ := E2.vars
    have q1' : h2.get? s.heap.objs.size = some o2 := q1
    have e'' : h2.get? s.heap.objs.size = some o' := e'
    rw [e''] at q1'; cases q1'
    exact ⟨o', es, ep, e', c', q2⟩
end
end Mine

-- part P47
namespace Mine
section
variable {c : Cx} {N : Lv} {env : Env} {ρ : Rho} {σ : Sig} {Q : V → Sig → Prop} {X : Exn → Sig → Prop}
/-- super().__init__ (v) -/
noncomputable def SuperOp (c : Cx) (N : Lv) (σ : Sig) (a C D : Addr) (v : V) (Q : V → Sig → Prop) (X : Exn → Sig → Prop) : Prop :=
  ∀ (A : Around) (s : Shared) (so : Addr) (pl : Sem Bool) (QQ : Value → Shared → Prop) (EE : Value → Shared → Prop) (y : Value), AOk c N A σ s.heap → Rel c σ s.heap → s.heap.get? so = some (ks_superObj D a C) → VR s.heap v y → Post c σ s VR Q QQ → XPost c σ s X EE →
    wpAny (model c.prog c.w) A (getMethod (.ref so) "__init__" pl) (fun fx s1 => (∃ k, (k = Keeper.frame ∨ k = Keeper.machine ∨ k = Keeper.boundFrame) ∧ Looks (model c.prog c.w) s1.heap (keeperOf fx.1) k) ∧ Ext (dom σ) s.heap s1.heap ∧ wpAny (model c.prog c.w) A (call fx.1 (fx.2 ++ [y])) QQ EE s1) EE s
theorem Super_b {a C D : Addr} {dO : Option Addr} {v : V} {l : List Value} {cd : ClassData} {c0 : Value} {dd : Option Addr} {sl : Array (Option Value)} (e1 : σ a = some (.exc C dO true)) (q : Q .none σ)
    (ho : nsIn c.K cStatics "thirdparty.any" = some none) (hK : c.K.lookup C = some ⟨c0, dd, .cls cd, sl⟩) (hc : clsIn c.K C = some cd) (hs : ks_superIn c.K C D "__init__" = some (some (.builtin "Exception.__init__"))) (hsub : subIn c.K (.ref C) (.type "Exception") = some true) : SuperOp c N σ a C D v Q X := fun A s so pl QQ EE y ak R hso r p xp => by
  have KX := c.KIn.keeps R.static
  obtain ⟨vs, hx, hnw⟩ := (R.obj a _ e1).2
  obtain ⟨hz, hv1⟩ := hnw rfl
  unfold ks_superIn at hs
  rw [hc] at hs
  have hxC : a ≠ C := fun q => by
    have hC := KX _ _ hK
    rw [← q, hx] at hC; cases hC
  obtain ⟨hp, g, d, t, os⟩ := s
  have hC := KX _ _ hK
  refine getMethod_super_b hso (looks_opaque KX ho) (l₀ := cd.mro) (fun A Q E s k q => wpAny_bind ((looks_clsIn KX hc) A _ E s k (wpAny_pure q))) rfl KX hs hx rfl (looks_subIn KX hsub) hxC ?_
  have hmw : (hp.push { cls := .type "method-wrapper", data := .fields #[.builtin "Exception.__init__", .ref a] }).get? hp.objs.size = some { cls := .type "method-wrapper", data := .fields #[.builtin "Exception.__init__", .ref a] } := Heap.get?_push_size _ rfl
  refine ⟨⟨.machine, .inr (.inl rfl), ?_⟩, .push _ _, ?_⟩
  · refine (Looks.ld hmw).andThen ?_
    exact .now
  have kp : ∀ b o, hp.get? b = some o → (hp.push { cls := .type "method-wrapper", data := .fields #[.builtin "Exception.__init__", .ref a] }).get? b = some o := fun b o e => Heap.get?_push_of_some _ e
  refine call_mw hmw (kp _ _ hx) (t0 := vs[0]) (Array.getElem?_eq_getElem (by omega)) (kp _ _ hC) fun h' ha hk hs' => ?_
  have keep : ∀ b o, b ≠ a → hp.get? b = some o → h'.get? b = some o := fun b o hb e => hk b o hb (kp b o e)
  have hsz : hp.objs.size ≤ h'.objs.size := by rw [Heap.size_push] at hs'; omega
  have x : Ext (dom σ) hp h' := ⟨fun b o hb e => ⟨o, keep b o (fun q => by subst q; exact hb (by show σ b ≠ none; rw [e1]; simp)) e, .refl o⟩, hsz⟩
  have tupk : ∀ b xs, IsTup hp b xs → IsTup h' b xs := fun b xs t => IsTup.ext R.noTup x t
  have R' : Rel c σ h' := ⟨fun b o hS => keep b o (fun q => absurd (Heap.lt_size hS) (Nat.not_lt.mpr (q ▸ (R.obj a _ e1).1))) (R.static b o hS), Nat.le_trans R.size hsz, fun b m e => ⟨(R.obj b m e).1, by
    by_cases hb : b = a
    · subst hb
      rw [e1] at e; cases e
      exact ⟨_, ha, fun _ => ⟨by simpa using hz, by rw [Array.getElem?_setIfInBounds_ne (by omega)]; exact hv1⟩⟩
    · exact MR.mono c.prog c.w tupk (fun o e' => keep b o hb e') (R.obj b m e).2⟩⟩
  exact p .none .none σ h' (t + 1, d) q (by simp only [VR]) R' x (.refl _ _)
theorem Super_fn {a C D f2 : Addr} {nw : Bool} {dO : Option Addr} {v : V} {cd : ClassData} {c0 : Value} {dd : Option Addr} {sl : Array (Option Value)} (e1 : σ a = some (.exc C dO nw))
    (ho : nsIn c.K cStatics "thirdparty.any" = some none) (hK : c.K.lookup C = some ⟨c0, dd, .cls cd, sl⟩) (hc : clsIn c.K C = some cd) (hs : ks_superIn c.K C D "__init__" = some (some (.ref f2))) {od : Option Addr} {fd : FuncData} {osl : Array (Option Value)} (hf : c.K.lookup f2 = some ⟨.type "function", od, .func fd, osl⟩)
    (g : CodeOp c N σ (.ref f2) [.raw (.ref a), v] Q X) : SuperOp c N σ a C D v Q X := fun A s so pl QQ EE y ak R hso r p xp => by
  have KX := c.KIn.keeps R.static
  obtain ⟨vs, hx, _⟩ := (R.obj a _ e1).2
  unfold ks_superIn at hs
  rw [hc] at hs
  have hC := KX _ _ hK
  have hxC : a ≠ C := fun q => by rw [← q, hx] at hC; cases hC
  have hfI := KX _ _ hf
  obtain ⟨hp, g', d, t, os⟩ := s
  refine ks_wpAny_getMethod_super hso (looks_opaque KX ho) (l₀ := cd.mro) (fun A Q E s k q => wpAny_bind ((looks_clsIn KX hc) A _ E s k (wpAny_pure q))) rfl KX hs hfI rfl hxC (by decide) ?_
  have hm : (hp.push { cls := .type "method", data := .fields #[.ref f2, .ref a] }).get? hp.objs.size = some { cls := .type "method", data := .fields #[.ref f2, .ref a] } := Heap.get?_push_size _ rfl
  have x1 : Ext (dom σ) hp (hp.push { cls := .type "method", data := .fields #[.ref f2, .ref a] }) := .push _ _
  refine ⟨?_, x1, ?_⟩
  · refine ⟨.boundFrame, .inr (.inr rfl), ?_⟩
    refine (Looks.ld hm).andThen ?_
    exact (Looks.ld (Heap.get?_push_of_some _ hfI)).andThen .now
  refine wpAny_call (ks_codeAny_call_bound hm ?_)
  have p1 := Post.step p (tk1 := (t + 1, d)) x1 (.refl _ _)
  have xp1 := XPost.step xp (tk1 := (t + 1, d)) x1 (.refl _ _)
  exact g A (at_ ⟨hp, g', d, t, os⟩ _ (t + 1, d)) (fun r s' => match r with | .ok (.ret v) => QQ v s' | .ok _ => False | .error e => EE e s') [.ref a, y] (ak.ext x1 (.refl _ _)) (R.push _) (.cons (by simp only [VR]) (.cons (R.vr x1 r) .nil)) p1 xp1
end
end Mine

-- part P48
namespace Mine
section
variable {c : Cx} {N : Lv} {env : Env} {ρ : Rho} {σ : Sig} {Q : V → Sig → Prop} {X : Exn → Sig → Prop}
theorem loadB {M : Model} {A : Around} {E : Value → Shared → Prop} {s : Shared} {x : Str} {y : Value} {m : Str → Option Value} {QQ : Value → Shared → Prop} (hk : env.scope.kind = .function) (hl : env.kindOf x = some .local) (hn : s.heap.Ns env.locals m) (hm : m x = some y) (h : QQ y s) : wpAny M A (loadName env x) QQ E s := wpAny_loadName_local hk hl hn hm h
theorem varB {h : Heap} (Ev : EnvR c σ (bare env) ρ h) : ∃ m, h.Ns env.locals m ∧ ∀ x v, (x, some v) ∈ ρ → env.kindOf x = some .local → ∃ y, m x = some y ∧ VR h v y := by
  obtain ⟨m, hn, hv⟩ := Ev.vars
  refine ⟨m, hn, fun x v hm hl => ?_⟩
  rcases hv x v hm with ⟨_, y, e1, e2⟩ | ⟨k1, _⟩
  · exact ⟨y, e1, e2⟩
  · have k1 : env.kindOf x = some .cell := k1
    rw [hl] at k1; cases k1
theorem super_use {M : Model} {A : Around} {s : Shared} {so : Addr} {pl : Sem Bool} {QQ : Value → Shared → Prop} {EE : Value → Shared → Prop} {y : Value} {B : Addr → Prop} {es : List PySem.Expr} {pos : Pos}
    (key : wpAny M A (getMethod (.ref so) "__init__" pl) (fun fx s1 => (∃ k, (k = Keeper.frame ∨ k = Keeper.machine ∨ k = Keeper.boundFrame) ∧ Looks M s1.heap (keeperOf fx.1) k) ∧ Ext B s.heap s1.heap ∧ wpAny M A (call fx.1 (fx.2 ++ [y])) QQ EE s1) EE s)
    (hsp : ∀ s3 (Q' : List Value → Shared → Prop), Ext B s.heap s3.heap → Q' [y] s3 → wpAny M A (spliced (backTo pos (starEach es env))) Q' EE s3) (hst : (backTo pos (starEach es env)).any (·.1) = false) :
    wpAny M A (getMethod (.ref so) "__init__" pl) (fun fx s2 => wpAny M A (callWith pos fx.1 fx.2 (backTo pos (starEach es env)) []) QQ EE s2) EE s := by
  refine wpAny_mono key ?_ fun _ _ z => z
  rintro fx s3 ⟨⟨kk, kk1, kk2⟩, x3, hc⟩
  exact call_node (P := fun h => h = s3.heap) (fun h q => by subst q; exact ⟨kk, kk1, kk2⟩) (hsp s3 _ x3 ⟨rfl, hc⟩) hst
theorem K_init {n : Nat} {hn : Bool} {f : Addr} {fd : FuncData} {params : List Str} {oc : Value} {od : Option Addr} {osl : Array (Option Value)} {ρ0 ρ1 : Rho} {rest : List V} {a C D cc cda : Addr} {dO : Option Addr} {nw : Bool} {wv yv : V}
    {p0 p1 p2 p3 p4 p5 p6 p7 p8 p9 : Pos} {w sf y attr : Str} {ar : Arg} {vsC : Array Value} {file : Str} {tf : Tok} {ccl cl : Value} {cdd cld : Option Addr} {ccs csl : Array (Option Value)} {cD0 : Value} {dD : Option Addr} {cdD : ClassData} {slD : Array (Option Value)}
    (hK : c.K.lookup f = some ⟨oc, od, .func fd, osl⟩) (hb : fd.body = .stmts [.Expr (.Call (.Attribute (.Call (.Name "super" p0) [] [] p1) "__init__" p2) [.Name w p3] [] p4) p5, .Assign [.Attribute (.Name sf p6) attr p7] (.Name y p8) p9])
    (hcl : fd.closure = [(("__class__" : Str), cc)]) (hg : fd.globals = mainGlobals) (hbl : fd.builtins = builtinsNs) (hcd : codeIn c.K fd.code fd.qualname = true)
    (hk : fd.scope.kind = .function) (hco : fd.scope.isCoroutine = false) (hgen : fd.scope.isGenerator = false) (hbind : ∀ ys : List Value, ys.length = (V.raw (.ref a) :: rest).length → bindArgs fd ⟨ys, []⟩ = pure (params.zip ys))
    (hcellk : ∀ x ∈ fd.scope.names, x.2 ≠ .cell) (hxs : ∀ x ∈ params, fd.scope.names.lookup x = some .local)
    (hkeys : ∀ x ∈ ρ0.map (·.1), fd.scope.names.lookup x = some .local) (hnd : (ρ0.map (·.1)).Nodup) (hnone : ∀ p ∈ ρ0, p.2 = none) (hbs : Binds (params.zip (V.raw (.ref a) :: rest)) ρ0 ρ1)
    (hp : (fd.params.posonlyargs ++ fd.params.args).head? = some ar) (har : ar.arg = sf) (hcode : fd.code = .ref cda) (hcda : c.K.lookup cda = some ⟨ccl, cdd, .fields vsC, ccs⟩) (hvs : vsC[2]? = some (.str file tf)) (hfile : ((c.prog.main.file : Str) == file) = true)
    (hcc : c.K.lookup cc = some ⟨cl, cld, .cell (some (.ref D)), csl⟩) (hD : c.K.lookup D = some ⟨cD0, dD, .cls cdD, slD⟩) (hsubD : mroIn c.K C (.ref D) = some true) (hsuper : c.mg "super" = none) (htop : (c.prog.main.scope.names.lookup ("super" : Str)).isSome = false)
    (hks : fd.scope.names.lookup ("super" : Str) = some .globalImplicit) (hkc : fd.scope.names.lookup ("__class__" : Str) = some .free) (hksf : fd.scope.names.lookup sf = some .local) (hkw : fd.scope.names.lookup w = some .local) (hky : fd.scope.names.lookup y = some .local)
    (hms : (sf, some (.raw (.ref a))) ∈ ρ1) (hmw : (w, some wv) ∈ ρ1) (hmy : (y, some yv) ∈ ρ1) (hdw : (w == ("__debug__" : Str)) = false) (hdy : (y == ("__debug__" : Str)) = false) (hdsf : (sf == ("__debug__" : Str)) = false)
    {pl : Env → Sem Bool} (hev : ∀ env : Env, eval (.Call (.Attribute (.Call (.Name "super" p0) [] [] p1) "__init__" p2) [.Name w p3] [] p4) env = (do
      let ov ← attributeBase (.Call (.Name "super" p0) [] [] p1) "__init__" env (eval (.Call (.Name "super" p0) [] [] p1) env)
      standAt p2.atName
      let (f, first) ← holding [ov] (getMethod ov "__init__" (pl env))
      callWith p4 f first (backTo p4 (starEach [.Name w p3] env)) [])) (hst : ∀ env : Env, (backTo p4 (starEach [.Name w p3] env)).any (·.1) = false)
    (hsw1 : ∀ env : Env, swapsWith (.Call (.Attribute (.Call (.Name "super" p0) [] [] p1) "__init__" p2) [.Name w p3] [] p4) none p5.line env = pure false) (hsw2 : ∀ env : Env, swapsWith (.Name y p8) (some (.Attribute (.Name sf p6) attr p7)) p9.line env = pure false)
    (e1 : σ a = some (.exc C dO nw))
    (g : SuperOp c ⟨n, hn⟩ σ a C D wv (fun _ σ1 => SetOp c ⟨n, hn⟩ σ1 (.raw (.ref a)) attr yv (fun σ2 => Q .none σ2) (fun _ _ => False)) (fun _ _ => False)) : CodeOp c ⟨n + 1, hn⟩ σ (.ref f) (.raw (.ref a) :: rest) Q X := fun A s R' ys ak R r p xp => by
  refine codeAny_call_function (o := ⟨oc, od, .func fd, osl⟩) (fd := fd) (by have := ak.depth; simp only at this; omega) (R.static _ _ (c.KIn _ _ hK)) rfl hco hgen hb (codeRec_of (c.KIn.keeps R.static) hcd) ?_
  rw [hbind ys r.length, hcl, hg, hbl]
  refine wpAny_pure (enterC_ R r hk hcellk hxs hkeys hnd hnone hbs fun env h1 tk1 he R1 E1 x1 hF => ⟨c.nol.keeps R1.static, ?_⟩)
  have hfr : env.frame = some s.heap.objs.size := by rw [he]; rfl
  have hloc : env.locals = s.heap.objs.size := by rw [he]; rfl
  have F : FrameOk c σ h1 env := by
    obtain ⟨o, es, m, q1, q2, q3⟩ := hF
    exact ⟨_, o, hfr, q1, q2, ⟨es, m, q3⟩, R.fresh, R.size, by rw [show env.scope.kind = .function from E1.kind]; decide⟩
  have a1 : AOk c ⟨n, hn⟩ (A.deeper env) σ h1 := (ak.ext x1 (.refl _ _)).deeper F
  have hke : env.scope.kind = .function := E1.kind
  have kn : ∀ x, env.kindOf x = fd.scope.names.lookup x := fun x => by rw [he]; rfl
  have hcells : env.cells = [(("__class__" : Str), cc)] := by rw [he]; rfl
  have hfu : env.func = some f := by rw [he]; rfl
  have hcoe : env.code = .ref cda := by rw [he]; exact hcode
  have hgl : env.globals = mainGlobals := by rw [he]; rfl
  have hbu : env.builtins = builtinsNs := by rw [he]; rfl
  have X1 := c.KIn.keeps R1.static
  obtain ⟨m, hns, hv⟩ := varB E1
  obtain ⟨z, hz1, hz2⟩ := hv sf _ hms (by rw [kn]; exact hksf)
  simp only [VR] at hz2; subst hz2
  obtain ⟨vs, hx, _⟩ := (R1.obj a _ e1).2
  refine ks_codeAny_funcAt ?_
  refine ks_wpAt_execs_cons (ks_wpAt_Expr_any (ks_wpAt_MethodCall (pl := pl env) ?_ (hev env)) (by unfold interactive; rw [hke]; rfl) (hsw1 env))
  refine ks_wpAt_super_base (by rw [kn]; exact hks) (by rw [kn]; exact hkc) (by decide) hfu (X1 _ _ hK) rfl hp hcoe (X1 _ _ hcda) rfl hvs hfile htop ?_
  refine ks_loadName_global hke (by rw [kn]; exact hks) (Calls.loadGlobal_builtin (by rw [hgl]; exact c.g.keeps R1.static) hsuper (by rw [hbu]; exact c.b.keeps R1.static) ((c.blt _ (by decide)).trans (show bootBuiltins "super" = some (.type "super") from by rfl)) ⟨rfl, ?_⟩)
  refine wpAny_loadName_free hke (by rw [kn]; exact hkc) (by rw [hcells]; rfl) ⟨_, X1 _ _ hcc, rfl⟩ ?_
  rw [har]
  refine wpAny_loadName_local hke (by rw [kn]; exact hksf) hns hz1 ?_
  refine ks_wpAny_isType_cls (X1 _ _ hD) rfl ⟨rfl, ?_⟩
  refine ks_wpAny_call_super (X1 _ _ hD) rfl hx rfl (fun c e => by cases e) (looks_mroIn X1 hsubD) (fun h2 e k => ?_)
  have lt2 : h1.objs.size < h2.objs.size := Heap.lt_size e
  have x2 : Ext (dom σ) h1 h2 := ext_grow k (Nat.le_of_lt lt2)
  have R2 : Rel c σ h2 := R1.grow k (Nat.le_of_lt lt2)
  have E2 : EnvR c σ (bare env) ρ1 h2 := E1.ext R1 x2 (.refl _ _)
  have a2 : AOk c ⟨n, hn⟩ (A.deeper env) σ h2 := a1.ext x2 (.refl _ _)
  obtain ⟨m2, hns2, hv2⟩ := varB E2
  obtain ⟨yw, hw1, hw2⟩ := hv2 w _ hmw (by rw [kn]; exact hkw)
  refine super_use (g (A.deeper env) (at_ s h2 tk1) h1.objs.size (pl env) _ _ yw a2 R2 e hw2 ?post ?xpost) ?sp (hst env)
  case sp =>
    intro s3 Q' x3 hc
    exact spliced_more (wpAny_Name (loadB hke (by rw [kn]; exact hkw) (Ns.like hns2 x3 (fun q => q E2.loc.1)) hw1 (spliced_none hc)) hdw) rfl
  case xpost => exact fun _ _ _ _ _ q => q.elim
  case post =>
    intro v0 yv0 σ' h' tk' q rr R3 x3 gr3
    have E3 : EnvR c σ' (bare env) ρ1 h' := E2.ext R2 x3 gr3
    have a3 : AOk c ⟨n, hn⟩ (A.deeper env) σ' h' := a2.ext x3 gr3
    obtain ⟨m3, hns3, hv3⟩ := varB E3
    obtain ⟨z3, hz3, hz4⟩ := hv3 sf _ hms (by rw [kn]; exact hksf)
    simp only [VR] at hz4; subst hz4
    obtain ⟨yy, hy1, hy2⟩ := hv3 y _ hmy (by rw [kn]; exact hky)
    refine _root_.PySem.wpAt_of_wpAny (wpAny_execs_cons (plainObj_wpAny_Assign_Attribute (wpAny_Name (loadB (s := at_ s h' tk') hke (by rw [kn]; exact hky) hns3 hy1 (wpAny_Name (loadB (s := at_ s h' tk') hke (by rw [kn]; exact hksf) hns3 hz3 ?_) hdsf)) hdy) (hsw2 env)))
    refine q (A.deeper env) (at_ s h' tk') _ _ (.ref a) yy a3 R3 (by simp only [VR]) hy2 (fun _ _ σ2 h3 tk3 q3 _ R4 x4 gr4 => wpAny_execs_nil ?_) fun _ _ _ _ _ q => q.elim
    have gr34 : Grown σ h2 σ2 := gr3.trans gr4 x3.size
    have xx : Ext (dom σ) s.heap h3 := (x1.trans x2 fun _ q => .inl q).trans (x3.trans x4 (dom_back gr3)) fun _ q => .inl q
    exact p .none .none σ2 h3 tk3 q3 (by simp only [VR]) R4 xx ((Grown.refl σ s.heap).trans gr34 (Nat.le_trans x1.size x2.size))
end
end Mine

-- part P49
namespace Mine
section
variable {prog : Program} {w : World} {A : Around} {E : Value → Shared → Prop} {s : Shared} {K : Frag} {x C : Addr} {ox : Obj} {od : Option Obj} {name : Str} {expr : Bool} {Q : Value → Shared → Prop}
theorem kind_bexc_ga : builtinKind "BaseException.__getattribute__" = some .slot := by kernel_rfl
theorem split_bexc_ga : splitId "BaseException.__getattribute__" = some ("BaseException", "__getattribute__") := by kernel_rfl
theorem getE_call {tk : Tok} {v : Value} {R : Result → Shared → Prop} (X : K.In s.heap) (I : InstAt s.heap x ox C od) (hsub : subIn K (.ref C) (.type "BaseException") = some true) (hf : findObj K C od name = some (.value v)) (h : R (.ok (.ret v)) s) :
    codeAny (model prog w) A (.call (.builtin "BaseException.__getattribute__") ⟨[.ref x, .str name tk], []⟩) R s := by
  have sub : Looks (model prog w) s.heap (isInstance (.ref x) (.type "BaseException")) true := I.type.andThen (looks_subIn X hsub)
  refine codeAny_call_builtin (by decide +kernel) PySem.F.entry_bexc_ga (@check_slot (model prog w) _ _ s "BaseException.__getattribute__" "BaseException" "__getattribute__" (.ref x) [.str name tk] [] _ kind_bexc_ga split_bexc_ga sub (PySem.F.args_bexc_ga (.ref x) (.str name tk)) ?_)
  obtain ⟨hh', g, d, t, os⟩ := s
  have L0 := I.type (M := model prog w)
  have L1 := looks_find (M := model prog w) X I hf
  refine wpAny_bind (wpAny_pure (wpAny_bind (wpAny_pure (wpAny_bind (L0.at (wpAny_bind (L1.at ?_)))))))
  exact wpAny_pure h
theorem getE {v : Value} (X : K.In s.heap) (I : InstAt s.heap x ox C od) (hga : findIn K (.ref C) "__getattribute__" = some (some (.builtin "BaseException.__getattribute__"))) (hgn : findIn K (.ref C) "__getattr__" = some none) (hsub : subIn K (.ref C) (.type "BaseException") = some true)
    (hf : findObj K C od name = some (.value v)) (hh : handedIn v = true) (h : Q v { s with toks := s.toks + 1 }) : wpAny (model prog w) A (getAttr (.ref x) name expr) Q E s := by
  obtain ⟨hp, g, d, t, os⟩ := s
  have L0 := I.type (M := model prog w)
  have L1 := looks_findIn (M := model prog w) X hga
  have L2 := looks_findIn (M := model prog w) X hgn
  unfold getAttr getAttrBy
  refine wpAny_bind (wpAny_mkText (wpAny_holding (wpAny_bind (L0.at (wpAny_bind (L1.at ?_))))))
  show wpAny _ _ (getAttrByItsOwn (.ref x) (.str name t) (.ref C) (.builtin "BaseException.__getattribute__") true expr) _ _ _
  unfold getAttrByItsOwn
  refine wpAny_bind (m := hookBefore (.ref C)) (L2.at ?_)
  have hx0 : (expr && onTheHeap (Value.builtin "BaseException.__getattribute__")) = false := by cases expr <;> rfl
  refine wpAny_bind (wpAny_attempt (wpAny_holding ?_))
  unfold callGetattribute
  rw [hx0]
  simp only [Bool.false_eq_true, if_false]
  unfold boundAndCalled
  refine wpAny_bind (wpAny_of_eq (show bindSpecial (.builtin "BaseException.__getattribute__") (.ref x) = pure (.builtin "BaseException.__getattribute__", [.ref x]) from PySem.F.excAttr_ValueError.ga.bind _) ?_)
  refine wpAny_call (getE_call (s := ⟨hp, g, d, t + 1, os⟩) X I hsub hf ?_)
  dsimp only
  rw [handedOut_of hh]
  exact wpAny_pure h
end
section
variable {c : Cx} {N : Lv} {env : Env} {ρ : Rho} {σ : Sig} {Q : V → Sig → Prop} {X : Exn → Sig → Prop}
theorem A_ownE {a C dx : Addr} {nw : Bool} {l : List (Str × V)} {name : Str} {v : V} (q : Q v σ) (e1 : σ a = some (.exc C (some dx) nw)) (e2 : σ dx = some (.ns l)) (hl : assoc l name = some v) (hv : handedV v = true)
    (hga : findIn c.K (.ref C) "__getattribute__" = some (some (.builtin "BaseException.__getattribute__"))) (hgn : findIn c.K (.ref C) "__getattr__" = some none) (hsub : subIn c.K (.ref C) (.type "BaseException") = some true) (h2 : hasDictIn c.K C = true) (h3 : findIn c.K (.ref C) name = some none) :
    GetOp c N σ (.raw (.ref a)) name Q X := fun A s QQ EE x ak R r p xp => by
  simp only [VR] at r; subst r
  obtain ⟨es, n, q1, q2⟩ := (R.obj dx _ e2).2
  obtain ⟨vs, hx, _⟩ := (R.obj a _ e1).2
  have I : InstAt s.heap a ⟨.ref C, some dx, .fields vs, #[]⟩ C (some (W.dictOf es n)) := ⟨hx, rfl, rfl, q1⟩
  have := q2.getL (name := name)
  rw [hl] at this
  obtain ⟨z, hz, rz⟩ := this
  exact getE (c.KIn.keeps R.static) I hga hgn hsub (findObj_own h2 h3 rfl hz) (handedV_of rz hv) (p.tok R q rz)
end
end Mine

-- part D0
namespace Mine
section
variable {c : Cx} {N : Lv} {σ : Sig} {Q : V → Sig → Prop} {X : Exn → Sig → Prop}
theorem eqV_str (x y : Str) : eqV (.str x) (.str y) = decide (x = y) := by
  unfold eqV; simp only [toP, PyData.eqv]
  first | rfl | (by_cases h : x = y <;> simp [h])
theorem eqV_int (x y : Int) : eqV (.int x) (.int y) = decide (x = y) := by
  unfold eqV; simp only [toP, PyData.eqv]
  first | rfl | (by_cases h : x = y <;> simp [h])
theorem O_eqS {x y : Str} (q : Q (.bool (decide (x = y))) σ) : Op2 c N σ (.str x) (.str y) (compareOp .Eq) Q X :=
  O_eq (by rw [eqV_str]; exact q) rfl rfl (by simp [toP, PyData.depth])
theorem O_eqI {x y : Int} (q : Q (.bool (decide (x = y))) σ) : Op2 c N σ (.int x) (.int y) (compareOp .Eq) Q X :=
  O_eq (by rw [eqV_int]; exact q) rfl rfl (by simp [toP, PyData.depth])
end
theorem S_assign_swap2 {c : Cx} {N : Lv} {env : Env} {ρ : Rho} {σ : Sig} {SQ : GF → Rho → Sig → Prop} {SX : Exn → Rho → Sig → Prop} {x y : Str} {px py p' pos : Pos} {k : Nat} {e : PySem.Expr} (hhn : N.hn = true)
    (g : EvG c N env ρ e σ (fun v σ' => ∃ u w ρ1 ρ', v = .tup [u, w] ∧ Put y (some w) ρ ρ1 ∧ Put x (some u) ρ1 ρ' ∧ SQ .next ρ' σ') (fun ex σ' => SX ex ρ σ'))
    (hs : swapsWithSole [.Tuple [.Name x px, .Name y py] k p'] e pos.line env = pure false) (hw : swappedStores [.Tuple [.Name x px, .Name y py] k p'] e env = pure (some [x, y])) : StG c N env ρ (.Assign [.Tuple [.Name x px, .Name y py] k p'] e pos) σ SQ SX :=
  S_assign_swap (names := [x, y]) hhn (G_mono g (fun v σ' ⟨u, w, ρ1, ρ', h, p1, p2, q⟩ => ⟨[u, w], ρ', h, rfl, .cons p1 (.cons p2 .nil), q⟩) fun _ _ h => h) hs hw
theorem G_neg {c : Cx} {N : Lv} {env : Env} {ρ : Rho} {σ : Sig} {Q : V → Sig → Prop} {X : Exn → Sig → Prop} {x : PySem.Expr} {pos : Pos} (g : EvG c N env ρ x σ (fun v σ1 => ∃ i, v = .int i ∧ Q (.int (-i)) σ1) X) : EvG c N env ρ (.UnaryOp .USub x pos) σ Q X := fun A s QQ EE a R E p xp =>
  wpAny_UnaryOp (g.run a R E xp fun v x σ1 h1 tk1 ⟨b, e1, q⟩ r a1 R1 E1 x1 gr1 => by
    subst e1
    simp only [VR] at r; obtain ⟨t, rfl⟩ := r
    exact PyProof.Rows.neg_int (p (.int (-b)) _ σ1 h1 (tk1.1 + 1, tk1.2) q (by simp only [VR]; exact ⟨_, rfl⟩) R1 x1 gr1))
theorem T_not2 {c : Cx} {N : Lv} {env : Env} {ρ : Rho} {σ : Sig} {X : Exn → Sig → Prop} {BQ : Bool → Sig → Prop} {x : PySem.Expr} {pos : Pos} (g : TG c N env ρ x σ (fun b σ1 => match b with | true => BQ false σ1 | false => BQ true σ1) X) : TG c N env ρ (.UnaryOp .Not x pos) σ BQ X :=
  T_not fun A s QQ EE ak R E p xp => g A s QQ EE ak R E (fun b b' σ' h' tk' q => p b b' σ' h' tk' (by cases b <;> exact q)) xp
/-- what is left to do, behind a letter -/
noncomputable def KN (K : GF → Rho → Sig → Prop) (M : Rho → Sig → Prop) : Prop := ∀ ρ σ, M ρ σ → K .next ρ σ
noncomputable def KR (K : GF → Rho → Sig → Prop) (M : V → Rho → Sig → Prop) : Prop := ∀ v ρ σ, M v ρ σ → K (.ret v) ρ σ
theorem KN.use {K : GF → Rho → Sig → Prop} {M : Rho → Sig → Prop} {ρ : Rho} {σ : Sig} (h : KN K M) (m : M ρ σ) : K .next ρ σ := h ρ σ m
theorem KR.use {K : GF → Rho → Sig → Prop} {M : V → Rho → Sig → Prop} {v : V} {ρ : Rho} {σ : Sig} (h : KR K M) (m : M v ρ σ) : K (.ret v) ρ σ := h v ρ σ m
theorem S_consK {c : Cx} {N : Lv} {env : Env} {ρ : Rho} {σ : Sig} {SQ : GF → Rho → Sig → Prop} {SX : Exn → Rho → Sig → Prop} {st : Stmt} {rest : List Stmt}
    (g : ∀ K, KN K (fun ρ' σ' => SsG c N env ρ' rest σ' SQ SX) → KR K (fun v ρ' σ' => SQ (.ret v) ρ' σ') → StG c N env ρ st σ K SX) : SsG c N env ρ (st :: rest) σ SQ SX := S_cons (g _ (fun _ _ h => h) fun _ _ _ h => h)
theorem exPut2 {x y : Str} {u w : V} {ρ ρ1 ρ' : Rho} {P : Rho → Prop} (p : Put y (some w) ρ ρ1) (p2 : Put x (some u) ρ1 ρ') (h : P ρ') : ∃ u' w' ρ1 ρ', V.tup [u, w] = .tup [u', w'] ∧ Put y (some w') ρ ρ1 ∧ Put x (some u') ρ1 ρ' ∧ P ρ' := ⟨_, _, _, _, rfl, p, p2, h⟩
theorem exTakes {e : PySem.Expr} {v : V} {ρ ρ' : Rho} {P : Rho → Prop} (p : Takes e v ρ ρ') (h : P ρ') : ∃ ρ', Takes e v ρ ρ' ∧ P ρ' := ⟨_, p, h⟩
theorem exD {c : Cx} {N : Lv} {env : Env} {ρ : Rho} {e : PySem.Expr} {σ : Sig} {X : Exn → Sig → Prop} {d : Addr} {l : List (Str × V)} {F : Addr → List (Str × V) → V → Sig → Prop} (s : σ d = some (.dict l)) (h : EvG c N env ρ e σ (F d l) X) : ∃ d' l, V.raw (.ref d) = .raw (.ref d') ∧ EvG c N env ρ e σ (fun k σ3 => F d' l k σ3) X := ⟨_, _, rfl, h⟩
theorem setD {σ : Sig} {d : Addr} {l : List (Str × V)} {P : Prop} (s : σ d = some (.dict l)) (z : l.length ≤ 900) (h : P) : σ d = some (.dict l) ∧ l.length ≤ 900 ∧ P := ⟨s, z, h⟩
theorem upd_keep {σ : Sig} {a b : Addr} {m m' : MO} (h : σ b = none) (h' : σ a = some m') : upd σ b m a = some m' := by
  rw [upd_ne]
  · exact h'
  · intro q; rw [q, h] at h'; cases h'
theorem upd_keepN {σ : Sig} {a b : Addr} {m m' : MO} (h : a ≠ b) (h' : σ a = some m') : upd σ b m a = some m' := by
  rw [upd_ne _ _ h]; exact h'
theorem small_bits {i : Int} (h0 : 0 ≤ i) (h : i ≤ 1000000) : Builtin.Int.intBits i ≤ 64 := intBits_le_iff.mpr (by omega)
noncomputable abbrev btab : List (Str × Value) := [("len", .builtin "len"), ("sorted", .builtin "sorted"), ("set", .type "set"), ("tuple", .type "tuple"), ("list", .type "list"), ("dict", .type "dict"), ("int", .type "int"), ("range", .type "range"), ("enumerate", .type "enumerate"), ("zip", .type "zip"), ("abs", .builtin "abs"), ("repr", .builtin "repr")]
theorem bt_ok {x : Str} {v : Value} (h : (x, v) ∈ btab) : bootBuiltins x = some v := by
  simp only [btab, List.mem_cons, List.not_mem_nil, or_false, Prod.mk.injEq] at h
  rcases h with ⟨rfl, rfl⟩ | ⟨rfl, rfl⟩ | ⟨rfl, rfl⟩ | ⟨rfl, rfl⟩ | ⟨rfl, rfl⟩ | ⟨rfl, rfl⟩ | ⟨rfl, rfl⟩ | ⟨rfl, rfl⟩ | ⟨rfl, rfl⟩ | ⟨rfl, rfl⟩ | ⟨rfl, rfl⟩ | ⟨rfl, rfl⟩ <;> rfl
section
variable {c : Cx} {N : Lv} {σ : Sig} {Q : V → Sig → Prop} {X : Exn → Sig → Prop}
theorem O_isN (q : Q (.bool true) σ) : Op2 c N σ .none .none (compareOp .Is) Q X := O_isNone q (fun v h => by cases h)
theorem O_isNt {l : List V} (q : Q (.bool false) σ) : Op2 c N σ (.tup l) .none (compareOp .Is) Q X := O_isNone q (fun v h => by cases h)
theorem O_neII {i : Int} (q : Q (.bool false) σ) : Op2 c N σ (.int i) (.int i) (compareOp .NotEq) Q X :=
  O_ne (by rw [show eqV (.int i) (.int i) = true by simp [eqV, toP, PyData.eqv]]; exact q) rfl rfl (by simp [toP, PyData.depth])
theorem I_t0 {v : V} {l : List V} (q : Q v σ) : SubOp c N σ (.tup (v :: l)) (.int 0) Q X := I_tup (j := 0) q (by simp [seqIndex?]) rfl (by decide)
theorem I_t1 {u v : V} {l : List V} (q : Q v σ) : SubOp c N σ (.tup (u :: v :: l)) (.int 1) Q X := I_tup (j := 1) q (by simp [seqIndex?]; omega) rfl (by decide)
theorem I_t2 {u w v : V} {l : List V} (q : Q v σ) : SubOp c N σ (.tup (u :: w :: v :: l)) (.int 2) Q X := I_tup (j := 2) q (by simp [seqIndex?]; omega) rfl (by decide)
theorem I_t3 {u w x v : V} {l : List V} (q : Q v σ) : SubOp c N σ (.tup (u :: w :: x :: v :: l)) (.int 3) Q X := I_tup (j := 3) q (by simp [seqIndex?]; omega) rfl (by decide)
theorem I_t4 {u w x y v : V} {l : List V} (q : Q v σ) : SubOp c N σ (.tup (u :: w :: x :: y :: v :: l)) (.int 4) Q X := I_tup (j := 4) q (by simp [seqIndex?]; omega) rfl (by decide)
theorem range_take {α : Type} (xs : List α) : ∀ n : Nat, (List.range n).filterMap (fun k => xs[k]?) = xs.take n
  | 0 => by simp
  | n + 1 => by
    rw [List.range_succ, List.filterMap_append, range_take xs n, List.take_succ]
    cases h : xs[n]? <;> simp [h]
/-- a slice by ones -/
theorem tslice_ones {l : List V} {lo hi : Option Int} {a b : Nat} (h : Builtin.Slice.sliceAdjust lo hi 1 l.length = ((a : Int), (b : Int))) : tslice l lo hi none = (l.drop a).take (b - a) ∧ Builtin.Slice.slicePlaces (Builtin.Slice.sliceAdjust lo hi 1 l.length).1 (Builtin.Slice.sliceAdjust lo hi 1 l.length).2 1 = b - a := by
  have hp : Builtin.Slice.slicePlaces (a : Int) (b : Int) 1 = b - a := by
    unfold Builtin.Slice.slicePlaces
    simp only [gt_iff_lt, show (0 : Int) < 1 from by decide, if_true, Int.ediv_one]
    split <;> omega
  refine ⟨?_, by rw [h]; exact hp⟩
  unfold tslice
  simp only [Option.getD_none, h, hp]
  rw [← range_take]
  congr 1
  funext i
  rw [List.getElem?_drop]
  congr 1
  omega
theorem adj_from {n : Nat} {a : Nat} (h : a ≤ n) : Builtin.Slice.sliceAdjust (some (a : Int)) none 1 n = ((a : Int), (n : Int)) := by
  unfold Builtin.Slice.sliceAdjust
  simp only [show ¬ ((1 : Int) < 0) from by decide, if_false]
  rw [if_neg (by omega), Int.min_eq_left (by omega)]
theorem adj_to {n : Nat} {a : Nat} (h : a ≤ n) : Builtin.Slice.sliceAdjust none (some (a : Int)) 1 n = (((0 : Nat) : Int), (a : Int)) := by
  unfold Builtin.Slice.sliceAdjust
  simp only [show ¬ ((1 : Int) < 0) from by decide, if_false]
  rw [if_neg (by omega), Int.min_eq_left (by omega)]; rfl
theorem adj_rev (n : Nat) : Builtin.Slice.sliceAdjust none none (-1) n = ((n : Int) - 1, -1) := by
  unfold Builtin.Slice.sliceAdjust
  simp only [show ((-1 : Int) < 0) from by decide, if_true]
theorem adj_last {n : Nat} (h : 0 < n) : Builtin.Slice.sliceAdjust none (some (-1)) 1 n = (((0 : Nat) : Int), ((n - 1 : Nat) : Int)) := by
  unfold Builtin.Slice.sliceAdjust
  simp only [show ¬ ((1 : Int) < 0) from by decide, show ((-1 : Int) < 0) from by decide, if_false, if_true]
  rw [Int.max_eq_left (by omega)]
  ext <;> simp; omega
theorem Sl_from {l : List V} {a : Nat} (h : a ≤ l.length) (hz : l.length ≤ 1000000) (q : Q (.tup (l.drop a)) σ) : SliceOp c N σ (.tup l) (some (a : Int)) none none Q X := by
  have k := tslice_ones (l := l) (adj_from h)
  refine Sl_tup ?_ (by simp) ?_
  · rw [k.1, List.take_of_length_le (by simp)]; exact q
  · rw [Option.getD_none, k.2]; omega
theorem Sl_to {l : List V} {a : Nat} (h : a ≤ l.length) (hz : l.length ≤ 1000000) (q : Q (.tup (l.take a)) σ) : SliceOp c N σ (.tup l) none (some (a : Int)) none Q X := by
  have k := tslice_ones (l := l) (adj_to h)
  refine Sl_tup ?_ (by simp) ?_
  · rw [k.1, List.drop_zero, Nat.sub_zero]; exact q
  · rw [Option.getD_none, k.2]; omega
theorem Sl_last {l : List V} (h : 0 < l.length) (hz : l.length ≤ 1000000) (q : Q (.tup (l.dropLast)) σ) : SliceOp c N σ (.tup l) none (some (-1)) none Q X := by
  have k := tslice_ones (l := l) (adj_last h)
  refine Sl_tup ?_ (by simp) ?_
  · rw [k.1, List.drop_zero, Nat.sub_zero, ← List.dropLast_eq_take]; exact q
  · rw [Option.getD_none, k.2]; omega
theorem Sl_last0 (q : Q (.tup []) σ) : SliceOp c N σ (.tup []) none (some (-1)) none Q X := Sl_tup q (by simp) (by decide)
theorem Sl_from0 {a : Int} (q : Q (.tup []) σ) (ha : 0 ≤ a) : SliceOp c N σ (.tup []) (some a) none none Q X := Sl_tup (by
    have : tslice [] (some a) none none = [] := by unfold tslice; simp
    rw [this]; exact q) (by simp) (by
  unfold Builtin.Slice.slicePlaces Builtin.Slice.sliceAdjust
  simp; split <;> omega)
theorem fm_congr {α β : Type} {f g : α → Option β} : ∀ {l : List α}, (∀ x ∈ l, f x = g x) → l.filterMap f = l.filterMap g
  | [], _ => rfl
  | x :: l, h => by rw [List.filterMap_cons, List.filterMap_cons, h x (.head _), fm_congr fun y hy => h y (.tail _ hy)]
theorem Sl_lastA {l : List V} (hz : l.length ≤ 1000000) (q : Q (.tup (l.dropLast)) σ) : SliceOp c N σ (.tup l) none (some (-1)) none Q X := by
  cases l with
  | nil => exact Sl_last0 q
  | cons x l => exact Sl_last (by simp) hz q
theorem Sl_1A {l : List V} (hz : l.length ≤ 1000000) (q : Q (.tup (l.drop 1)) σ) : SliceOp c N σ (.tup l) (some 1) none none Q X := by
  cases l with
  | nil => exact Sl_from0 q (by decide)
  | cons x l => exact Sl_from (a := 1) (by simp) hz q
/-- an item at a drawn place -/
theorem I_any {l : List V} {k : Int} (h0 : 0 ≤ k) (h1 : k < l.length) (hz : l.length ≤ 1000000) (q : ∀ v, v ∈ l → Q v σ) : SubOp c N σ (.tup l) (.int k) Q X := by
  have hk : k.toNat < l.length := by omega
  refine I_tup (j := k.toNat) (q _ (List.getElem_mem hk)) ?_ (List.getElem?_eq_getElem hk) ⟨by omega, by omega⟩
  have hn : ¬ k < 0 := by omega
  simp only [seqIndex?, hn, if_false, h0, h1, decide_true, Bool.and_self, if_true]
theorem rev_places (n : Nat) : Builtin.Slice.slicePlaces ((n : Int) - 1) (-1) (-1) = n := by
  unfold Builtin.Slice.slicePlaces
  simp only [gt_iff_lt, show ¬ ((0 : Int) < -1) from by decide, if_false, Int.neg_neg, Int.ediv_one]
  split <;> omega
theorem Sl_rev {l : List V} (hz : l.length ≤ 1000000) (q : Q (.tup l.reverse) σ) : SliceOp c N σ (.tup l) none none (some (-1)) Q X := by
  refine Sl_tup ?_ (by simp) ?_
  · have : tslice l none none (some (-1)) = l.reverse := by
      unfold tslice
      simp only [Option.getD_some, adj_rev, rev_places]
      have h := range_take l.reverse l.length
      rw [List.take_of_length_le (by simp)] at h
      rw [← h]
      refine fm_congr fun i hi => ?_
      rw [List.mem_range] at hi
      rw [List.getElem?_reverse hi]
      congr 1; omega
    rw [this]; exact q
  · rw [Option.getD_some, adj_rev, rev_places]; exact hz
end
/-- objects are forgotten -/
theorem Sub.none {σ' σ : Sig} (x : Sub σ' σ) {a : Addr} (h : σ a = none) : σ' a = none := by
  cases e : σ' a with
  | none => rfl
  | some m => rw [x a m e] at h; cases h
theorem Sub.dom {σ' σ : Sig} (x : Sub σ' σ) (a : Addr) (h : dom σ' a) : dom σ a := fun q => h (x.none q)
theorem Sub.fresh {τ σ : Sig} {D : Addr} {m : MO} (x : Sub τ σ) (h : σ D = Option.none) : Sub τ (Mine.upd σ D m) := x.trans (Sub.upd h)
theorem Sub.cong {τ σ : Sig} {D : Addr} {m : MO} (x : Sub τ σ) : Sub (Mine.upd τ D m) (Mine.upd σ D m) := fun a m' e => by
  unfold Mine.upd at e ⊢; split
  · rename_i h; rw [if_pos h] at e; exact e
  · rename_i h; rw [if_neg h] at e; exact x a m' e
section
variable {c : Cx} {N : Lv} {env : Env} {ρ : Rho} {σ σ' : Sig} {Q : V → Sig → Prop} {X : Exn → Sig → Prop} {SQ : GF → Rho → Sig → Prop} {SX : Exn → Rho → Sig → Prop}
theorem AOk.sub {A : Around} {h : Heap} (a : AOk c N A σ h) (x : Sub σ' σ) : AOk c N A σ' h :=
  ⟨a.depth, a.units, a.han, let ⟨l, e, f⟩ := a.frames; ⟨l, e, fun y hy => let ⟨f1, o, e1, e2, e3, e4, e5, e6⟩ := f y hy; ⟨f1, o, e1, e2, e3, e4, x.none e5, e6⟩⟩, a.guards⟩
theorem EnvR.sub {h : Heap} (E : EnvR c σ env ρ h) (x : Sub σ' σ) : EnvR c σ' env ρ h :=
  { E with loc := ⟨x.none E.loc.1, E.loc.2⟩, cells := fun y k e => let ⟨a, b⟩ := E.cells y k e; ⟨x.none a, b⟩ }
theorem Ext.sub {h h' : Heap} (y : Ext (Mine.both σ' env) h h') (x : Sub σ' σ) : Ext (Mine.both σ env) h h' := y.mono fun a q => q.imp (x.dom a) id
theorem Grown.sub0 {h : Heap} {σ1 : Sig} (g : Grown σ' h σ1) (x : Sub σ' σ) : Grown σ h σ1 := fun a q => (g a q).imp (x.dom a) id
theorem S_forget {t : Sem Flow} (x : Sub σ' σ) (g : ExG c N env ρ t σ' SQ SX) : ExG c N env ρ t σ SQ SX := fun A s QQ EE ot ak R E p xp =>
  g A s QQ EE ot (ak.sub x) (R.forget x) (E.sub x) (fun f fl ρ1 σ1 h1 tk q r R1 E1 x1 g1 => p f fl ρ1 σ1 h1 tk q r R1 E1 (x1.sub x) (g1.sub0 x)) fun e ex ρ1 σ1 h1 tk q r R1 E1 x1 g1 => xp e ex ρ1 σ1 h1 tk q r R1 E1 (x1.sub x) (g1.sub0 x)
theorem G_post {e : PySem.Expr} (g : EvG c N env ρ e σ (fun v σ1 => ∃ σ2, Sub σ2 σ1 ∧ Q v σ2) X) : EvG c N env ρ e σ Q X := fun A s QQ EE ak R E p xp =>
  g A s QQ EE ak R E (fun f fl σ1 h1 tk ⟨σ2, z, q⟩ r R1 x1 g1 => p f fl σ2 h1 tk q r (R1.forget z) x1 (g1.sub z)) xp
end
section
variable {c : Cx} {N : Lv} {σ : Sig} {P : Value → Prop} {Q : V → Sig → Prop} {X : Exn → Sig → Prop}
theorem exM_extend {d : Addr} {l : List V} (e : σ d = some (.list l)) (h : P (.builtin "list.extend")) : ∃ f, MethOp c N σ (.raw (.ref d)) "extend" f ∧ P f := ⟨_, M_list e PySem.F.slot_list_extend PySem.F.type_list_extend, h⟩
theorem exM_get {d : Addr} {l : List (Str × V)} (e : DR c σ d l) (h : P (.builtin "dict.get")) : ∃ f, MethOp c N σ (.raw (.ref d)) "get" f ∧ P f := ⟨_, M_dict e PySem.F.slot_dict_get PySem.F.type_dict_get, h⟩
theorem exM_items {d : Addr} {l : List (Str × V)} (e : DR c σ d l) (h : P (.builtin "dict.items")) : ∃ f, MethOp c N σ (.raw (.ref d)) "items" f ∧ P f := ⟨_, M_dict e PySem.F.slot_dict_items PySem.F.type_dict_items, h⟩
theorem Sl_1 {v : V} {l : List V} (hz : l.length < 1000000) (q : Q (.tup l) σ) : SliceOp c N σ (.tup (v :: l)) (some 1) none none Q X := Sl_from (a := 1) (by simp) (by simp; omega) q
theorem Sl_to1 {v : V} {l : List V} (hz : l.length < 1000000) (q : Q (.tup [v]) σ) : SliceOp c N σ (.tup (v :: l)) none (some 1) none Q X := Sl_to (a := 1) (by simp) (by simp; omega) (by simpa using q)
end
section
variable {c : Cx} {N : Lv} {env : Env} {σ : Sig} {Q : V → Sig → Prop} {X : Exn → Sig → Prop} {P : Rho → Prop}
theorem G_v0 {r : Rho} {x : Str} {pos : Pos} {v : V} (q : Q v σ) (hd : (x == ("__debug__" : Str)) = false) : EvG c N env ((x, some v) :: r) (.Name x pos) σ Q X := G_var (by simp) q hd
theorem G_v1 {p0 : Str × Option V} {r : Rho} {x : Str} {pos : Pos} {v : V} (q : Q v σ) (hd : (x == ("__debug__" : Str)) = false) : EvG c N env (p0 :: (x, some v) :: r) (.Name x pos) σ Q X := G_var (by simp) q hd
theorem G_v2 {p0 p1 : Str × Option V} {r : Rho} {x : Str} {pos : Pos} {v : V} (q : Q v σ) (hd : (x == ("__debug__" : Str)) = false) : EvG c N env (p0 :: p1 :: (x, some v) :: r) (.Name x pos) σ Q X := G_var (by simp) q hd
theorem G_v3 {p0 p1 p2 : Str × Option V} {r : Rho} {x : Str} {pos : Pos} {v : V} (q : Q v σ) (hd : (x == ("__debug__" : Str)) = false) : EvG c N env (p0 :: p1 :: p2 :: (x, some v) :: r) (.Name x pos) σ Q X := G_var (by simp) q hd
theorem G_v4 {p0 p1 p2 p3 : Str × Option V} {r : Rho} {x : Str} {pos : Pos} {v : V} (q : Q v σ) (hd : (x == ("__debug__" : Str)) = false) : EvG c N env (p0 :: p1 :: p2 :: p3 :: (x, some v) :: r) (.Name x pos) σ Q X := G_var (by simp) q hd
theorem G_v5 {p0 p1 p2 p3 p4 : Str × Option V} {r : Rho} {x : Str} {pos : Pos} {v : V} (q : Q v σ) (hd : (x == ("__debug__" : Str)) = false) : EvG c N env (p0 :: p1 :: p2 :: p3 :: p4 :: (x, some v) :: r) (.Name x pos) σ Q X := G_var (by simp) q hd
theorem G_v6 {p0 p1 p2 p3 p4 p5 : Str × Option V} {r : Rho} {x : Str} {pos : Pos} {v : V} (q : Q v σ) (hd : (x == ("__debug__" : Str)) = false) : EvG c N env (p0 :: p1 :: p2 :: p3 :: p4 :: p5 :: (x, some v) :: r) (.Name x pos) σ Q X := G_var (by simp) q hd
theorem G_v7 {p0 p1 p2 p3 p4 p5 p6 : Str × Option V} {r : Rho} {x : Str} {pos : Pos} {v : V} (q : Q v σ) (hd : (x == ("__debug__" : Str)) = false) : EvG c N env (p0 :: p1 :: p2 :: p3 :: p4 :: p5 :: p6 :: (x, some v) :: r) (.Name x pos) σ Q X := G_var (by simp) q hd
theorem G_v8 {p0 p1 p2 p3 p4 p5 p6 p7 : Str × Option V} {r : Rho} {x : Str} {pos : Pos} {v : V} (q : Q v σ) (hd : (x == ("__debug__" : Str)) = false) : EvG c N env (p0 :: p1 :: p2 :: p3 :: p4 :: p5 :: p6 :: p7 :: (x, some v) :: r) (.Name x pos) σ Q X := G_var (by simp) q hd
theorem G_v9 {p0 p1 p2 p3 p4 p5 p6 p7 p8 : Str × Option V} {r : Rho} {x : Str} {pos : Pos} {v : V} (q : Q v σ) (hd : (x == ("__debug__" : Str)) = false) : EvG c N env (p0 :: p1 :: p2 :: p3 :: p4 :: p5 :: p6 :: p7 :: p8 :: (x, some v) :: r) (.Name x pos) σ Q X := G_var (by simp) q hd
theorem G_v10 {p0 p1 p2 p3 p4 p5 p6 p7 p8 p9 : Str × Option V} {r : Rho} {x : Str} {pos : Pos} {v : V} (q : Q v σ) (hd : (x == ("__debug__" : Str)) = false) : EvG c N env (p0 :: p1 :: p2 :: p3 :: p4 :: p5 :: p6 :: p7 :: p8 :: p9 :: (x, some v) :: r) (.Name x pos) σ Q X := G_var (by simp) q hd
theorem exP1 {p0 : Str × Option V} {r : Rho} {x : Str} {u v : Option V} (h : P (p0 :: (x, v) :: r)) : ∃ ρ', Put x v (p0 :: (x, u) :: r) ρ' ∧ P ρ' := ⟨_, (.there .here), h⟩
theorem exP2 {p0 p1 : Str × Option V} {r : Rho} {x : Str} {u v : Option V} (h : P (p0 :: p1 :: (x, v) :: r)) : ∃ ρ', Put x v (p0 :: p1 :: (x, u) :: r) ρ' ∧ P ρ' := ⟨_, (.there (.there .here)), h⟩
theorem exP3 {p0 p1 p2 : Str × Option V} {r : Rho} {x : Str} {u v : Option V} (h : P (p0 :: p1 :: p2 :: (x, v) :: r)) : ∃ ρ', Put x v (p0 :: p1 :: p2 :: (x, u) :: r) ρ' ∧ P ρ' := ⟨_, (.there (.there (.there .here))), h⟩
theorem exP4 {p0 p1 p2 p3 : Str × Option V} {r : Rho} {x : Str} {u v : Option V} (h : P (p0 :: p1 :: p2 :: p3 :: (x, v) :: r)) : ∃ ρ', Put x v (p0 :: p1 :: p2 :: p3 :: (x, u) :: r) ρ' ∧ P ρ' := ⟨_, (.there (.there (.there (.there .here)))), h⟩
theorem exP5 {p0 p1 p2 p3 p4 : Str × Option V} {r : Rho} {x : Str} {u v : Option V} (h : P (p0 :: p1 :: p2 :: p3 :: p4 :: (x, v) :: r)) : ∃ ρ', Put x v (p0 :: p1 :: p2 :: p3 :: p4 :: (x, u) :: r) ρ' ∧ P ρ' := ⟨_, (.there (.there (.there (.there (.there .here))))), h⟩
theorem exP6 {p0 p1 p2 p3 p4 p5 : Str × Option V} {r : Rho} {x : Str} {u v : Option V} (h : P (p0 :: p1 :: p2 :: p3 :: p4 :: p5 :: (x, v) :: r)) : ∃ ρ', Put x v (p0 :: p1 :: p2 :: p3 :: p4 :: p5 :: (x, u) :: r) ρ' ∧ P ρ' := ⟨_, (.there (.there (.there (.there (.there (.there .here)))))), h⟩
theorem exP8 {p0 p1 p2 p3 p4 p5 p6 p7 : Str × Option V} {r : Rho} {x : Str} {u v : Option V} (h : P (p0 :: p1 :: p2 :: p3 :: p4 :: p5 :: p6 :: p7 :: (x, v) :: r)) : ∃ ρ', Put x v (p0 :: p1 :: p2 :: p3 :: p4 :: p5 :: p6 :: p7 :: (x, u) :: r) ρ' ∧ P ρ' := ⟨_, (.there (.there (.there (.there (.there (.there (.there (.there .here)))))))), h⟩
theorem exP10 {p0 p1 p2 p3 p4 p5 p6 p7 p8 p9 : Str × Option V} {r : Rho} {x : Str} {u v : Option V} (h : P (p0 :: p1 :: p2 :: p3 :: p4 :: p5 :: p6 :: p7 :: p8 :: p9 :: (x, v) :: r)) : ∃ ρ', Put x v (p0 :: p1 :: p2 :: p3 :: p4 :: p5 :: p6 :: p7 :: p8 :: p9 :: (x, u) :: r) ρ' ∧ P ρ' := ⟨_, (.there (.there (.there (.there (.there (.there (.there (.there (.there (.there .here)))))))))), h⟩
end
/-- the globals, and what else stands fast -/
structure Gs (c : Cx) (K : Frag) (tab : List (Str × Option Value)) : Prop where
  hc : c.K = K
  mg : ∀ {x v}, (x, v) ∈ tab → c.mg x = v
  file : ((c.prog.main.file : Str) == ("/claim/cut.py" : Str)) = true
  top : (c.prog.main.scope.names.lookup ("super" : Str)).isSome = false
theorem all_dec {α : Type} {P : α → Prop} [DecidablePred P] {l : List α} (h : l.all (fun x => decide (P x)) = true) : ∀ x ∈ l, P x := fun x hx => of_decide_eq_true (List.all_eq_true.mp h x hx)
theorem len0 {P : List Value → Prop} (h : P []) (ys : List Value) (e : ys.length = 0) : P ys := by
  rw [List.eq_nil_of_length_eq_zero e]; exact h
theorem lenS {n : Nat} {P : List Value → Prop} (h : ∀ a ys, ys.length = n → P (a :: ys)) (ys : List Value) (e : ys.length = n + 1) : P ys := by
  cases ys with
  | nil => exact absurd e (Nat.succ_ne_zero n).symm
  | cons a ys => exact h a ys (Nat.succ.inj e)
theorem len1 {P : List Value → Prop} (h : ∀ a, P [a]) : ∀ ys : List Value, ys.length = 1 → P ys := lenS fun a => len0 (P := fun ys => P (a :: ys)) (h a)
theorem len2 {P : List Value → Prop} (h : ∀ a b, P [a, b]) : ∀ ys : List Value, ys.length = 2 → P ys := lenS fun a => len1 (P := fun ys => P (a :: ys)) (h a)
theorem len3 {P : List Value → Prop} (h : ∀ a b c, P [a, b, c]) : ∀ ys : List Value, ys.length = 3 → P ys := lenS fun a => len2 (P := fun ys => P (a :: ys)) (h a)
theorem len4 {P : List Value → Prop} (h : ∀ a b c d, P [a, b, c, d]) : ∀ ys : List Value, ys.length = 4 → P ys := lenS fun a => len3 (P := fun ys => P (a :: ys)) (h a)
theorem len5 {P : List Value → Prop} (h : ∀ a b c d e, P [a, b, c, d, e]) : ∀ ys : List Value, ys.length = 5 → P ys := lenS fun a => len4 (P := fun ys => P (a :: ys)) (h a)
/-- is every name of the frame a local or a cell -/
noncomputable def keysOk (fd : FuncData) (xs : List Str) : Bool := xs.all fun x => decide (fd.scope.names.lookup x = some .local) || decide (fd.scope.names.lookup x = some .cell)
/-- the frame after the binding -/
noncomputable def frameR : List Str → List V → List Str → Rho
  | p :: ps, a :: as, ls => (p, some a) :: frameR ps as ls
  | ps, _, ls => (ps ++ ls).map fun x => (x, none)
theorem put_front {x : Str} {v u : Option V} {r : Rho} : ∀ pre : Rho, Put x v (pre ++ (x, u) :: r) (pre ++ (x, v) :: r)
  | [] => .here
  | _ :: pre => .there (put_front pre)
theorem binds_front {ls : List Str} : ∀ (ps : List Str) (as : List V) (pre : Rho), ps.length = as.length → Binds (ps.zip as) (pre ++ (ps ++ ls).map fun x => (x, none)) (pre ++ frameR ps as ls)
  | [], [], pre, _ => .nil
  | p :: ps, a :: as, pre, h => by
    refine .cons (put_front pre) ?_
    have := binds_front (ls := ls) ps as (pre ++ [(p, some a)]) (by simpa using h)
    rw [List.append_assoc, List.append_assoc] at this
    exact this
theorem K_fnK {c : Cx} {K : Frag} {gt : List (Str × Option Value)} {σ : Sig} {X : Exn → Sig → Prop} {Q : V → Sig → Prop} {n : Nat} {hn : Bool} {f : Addr} {fd : FuncData} {body : List Stmt} {params locs : List Str} {oc : Value} {od : Option Addr} {osl : Array (Option Value)} {ρ1 : Rho} {args : List V}
    (H : Gs c K gt) (hK : K.lookup f = some ⟨oc, od, .func fd, osl⟩) (hb : fd.body = .stmts body) (hcl : fd.closure = []) (hg : fd.globals = mainGlobals) (hbl : fd.builtins = builtinsNs) (hcd : codeIn K fd.code fd.qualname = true)
    (hk : fd.scope.kind = .function) (hco : fd.scope.isCoroutine = false) (hgen : fd.scope.isGenerator = false) (hbind : ∀ ys : List Value, ys.length = args.length → bindArgs fd ⟨ys, []⟩ = pure (params.zip ys))
    (hkeys : keysOk fd (params ++ locs) = true) (hnd : (params ++ locs).Nodup) (hl : params.length = args.length) (hρ : frameR params args locs = ρ1)
    (g : ∀ L, SsG c ⟨n, hn⟩ (callEnvC fd L f) ρ1 body σ (fun fl ρ' σ' => ∃ σ'', Sub σ'' σ' ∧ Q (outV fl) σ'') (fun ex ρ' σ' => ∃ σ'', Sub σ'' σ' ∧ X ex σ'')) : CodeOp c ⟨n + 1, hn⟩ σ (.ref f) args Q X := by
  have e : ((params ++ locs).map fun x => ((x, none) : Str × Option V)).map (·.1) = params ++ locs := by
    rw [List.map_map]; exact List.map_id'' (fun _ => rfl) _
  subst hρ
  refine K_fn (ρ0 := (params ++ locs).map fun x => (x, none)) (by rw [H.hc]; exact hK) hb hcl hg hbl (by rw [H.hc]; exact hcd) hk hco hgen hbind ?_ ?_ ?_ ?_ g
  · intro x hx
    rw [e] at hx
    have := List.all_eq_true.mp hkeys x hx
    simpa using this
  · rw [e]; exact hnd
  · intro p hp
    obtain ⟨x, _, rfl⟩ := List.mem_map.mp hp
    rfl
  · exact binds_front params args [] hl
theorem CodeOp.mono {c : Cx} {N : Lv} {σ : Sig} {X X' : Exn → Sig → Prop} {f : Value} {args : List V} {Q Q' : V → Sig → Prop} (g : CodeOp c N σ f args Q X) (h : ∀ v σ', Q v σ' → Q' v σ') (hx : ∀ e σ', X e σ' → X' e σ') : CodeOp c N σ f args Q' X' := fun A s R' ys a R r p xp =>
  g A s R' ys a R r (fun v y σ' h' tk q => p v y σ' h' tk (h v σ' q)) (fun e ex σ' h' tk q => xp e ex σ' h' tk (hx ex σ' q))
end Mine

-- part D2
namespace Mine
theorem all_nil {α : Type} {P : α → Prop} : ∀ p ∈ ([] : List α), P p := fun p h => nomatch h
theorem all_cons {α : Type} {P : α → Prop} {a : α} {l : List α} (h : P a) (t : ∀ p ∈ l, P p) : ∀ p ∈ a :: l, P p := fun p hp => by
  rcases List.mem_cons.mp hp with rfl | hp
  · exact h
  · exact t p hp
/-- the room of a comprehension, to be looked at entry by entry -/
structure CompX (env : Env) (ρ : Rho) (scope : Scope) (cl : List (Str × Addr)) (ρc : Rho) (target : PySem.Expr) : Prop where
  H : CompOk env ρ scope cl ρc
  hloc : ∀ x ∈ names target, (relabel scope env).names.lookup x = some .local
  hfree : ∀ x v, (x, some v) ∈ ρc → x ∉ names target
noncomputable def KeyP (env : Env) (ρ : Rho) (scope : Scope) (cl : List (Str × Addr)) (target : PySem.Expr) (p : Str × Option V) : Prop :=
  (p.2 = none ∧ (relabel scope env).names.lookup p.1 = some .local) ∨ (∃ v, p.2 = some v ∧ (p.1, some v) ∈ ρ ∧ env.kindOf p.1 = some .cell ∧ (relabel scope env).names.lookup p.1 = some .cell ∧ (∃ k, cl.lookup p.1 = some k) ∧ p.1 ∉ names target)
theorem KeyP.loc {env : Env} {ρ : Rho} {scope : Scope} {cl : List (Str × Addr)} {target : PySem.Expr} {x : Str} (h : (relabel scope env).names.lookup x = some .local) : KeyP env ρ scope cl target (x, none) := .inl ⟨rfl, h⟩
theorem KeyP.cap {env : Env} {ρ : Rho} {scope : Scope} {cl : List (Str × Addr)} {target : PySem.Expr} {x : Str} {v : V} {k : Addr} (m : (x, some v) ∈ ρ) (h1 : env.kindOf x = some .cell) (h2 : (relabel scope env).names.lookup x = some .cell) (h3 : cl.lookup x = some k) (h4 : (names target).contains x = false) : KeyP env ρ scope cl target (x, some v) :=
  .inr ⟨v, rfl, m, h1, h2, ⟨k, h3⟩, fun q => by rw [List.contains_iff_mem.mpr q] at h4; cases h4⟩
theorem CompX.of {env : Env} {ρ : Rho} {scope : Scope} {cl : List (Str × Addr)} {ρc : Rho} {target : PySem.Expr} (clos : closureFor scope env = pure cl) (kind : scope.kind = .function)
    (b1 : scope.names.all (fun y => y.2 != .cell) = true) (b2 : scope.names.all (fun x => x.2 != .local || scope.names.lookup x.1 == some .local) = true) (sub : ∀ p ∈ cl, env.cells.lookup p.1 = some p.2)
    (apart : cl.Pairwise fun x y => x.2 ≠ y.2) (nodup : (ρc.map (·.1)).Nodup) (ks : ∀ p ∈ ρc, KeyP env ρ scope cl target p) (hloc : ∀ x ∈ names target, (relabel scope env).names.lookup x = some .local) : CompX env ρ scope cl ρc target where
  H := ⟨clos, kind, fun y hy q => by have := List.all_eq_true.mp b1 y hy; rw [q] at this; simp at this,
    fun x hx q => by have := List.all_eq_true.mp b2 x hx; rw [q] at this; simpa using this,
    fun x k h => sub (x, k) (mem_of_lookup h), apart, nodup, fun x hx => by
      obtain ⟨p, hp, rfl⟩ := List.mem_map.mp hx
      rcases ks p hp with ⟨_, h⟩ | ⟨v, _, _, _, h, h', _⟩
      · exact .inl h
      · exact .inr ⟨h, h'⟩,
    fun x v hx => by
      rcases ks _ hx with ⟨h, _⟩ | ⟨u, h, a, b, d, _⟩
      · cases h
      · simp only [Option.some.injEq] at h; subst h; exact ⟨a, b, d⟩⟩
  hloc := hloc
  hfree := fun x v hx => by
    rcases ks _ hx with ⟨h, _⟩ | ⟨u, h, _, _, _, _, k⟩
    · cases h
    · exact k
section
variable {c : Cx} {N : Lv} {env : Env} {ρ ρc : Rho} {σ : Sig} {Q : V → Sig → Prop} {X : Exn → Sig → Prop} {SQ : GF → Rho → Sig → Prop} {SX : Exn → Rho → Sig → Prop}
/-- a comprehension by what holds of it: done, left -/
noncomputable def CompI (c : Cx) (N : Lv) (env : Env) (ρc : Rho) (scope : Scope) (cl : List (Str × Addr)) (target elt : PySem.Expr) (ifs : List PySem.Expr) (F : List V → Sig → Prop) : IK := fun l Need tg σ1 => tg target ∧ ∃ Inv : List V → List V → Sig → Prop, Inv l [] σ1 ∧
        (∀ C v l acc σ1, Inv (v :: l) acc σ1 → Need σ1 ∧ acc.length < 1000000 ∧ ∃ ρ2, Takes target v ρc ρ2 ∧ CompT c N (compEnvC scope cl C env) ρ2 σ1 (fun b σ2 => match b with | true => EvG c N (compEnvC scope cl C env) ρ2 elt σ2 (fun u σ3 => Inv l (acc ++ [u]) σ3) NoX | false => Inv l acc σ2) ifs) ∧
        (∀ acc σ1, Inv [] acc σ1 → Need σ1 ∧ F acc σ1)
theorem G_lcI {elt target iter : PySem.Expr} {ifs : List PySem.Expr} {scope : Scope} {pos : Pos} {cl : List (Str × Addr)} (hhn : N.hn = true) (CX : CompX env ρ scope cl ρc target)
    (hs : ∀ x, foldedSetIterable iter env x = pure x)
    (g : IterG c N env ρ iter σ (CompI c N env ρc scope cl target elt ifs (fun acc σ1 => ∀ D, σ1 D = none → Q (.raw (.ref D)) (upd σ1 D (.list acc)))) X) : EvG c N env ρ (.ListComp elt [⟨target, iter, ifs, 0⟩] scope pos) σ Q X :=
  G_listcomp hhn CX.H CX.hloc CX.hfree g hs
theorem S_lcI {x : Str} {pos' : Pos} {elt target iter : PySem.Expr} {ifs : List PySem.Expr} {scope : Scope} {p0 pos : Pos} {cl : List (Str × Addr)} (hhn : N.hn = true) (CX : CompX env ρ scope cl ρc target) (hx : env.kindOf x = some .local)
    (hs : ∀ x, foldedSetIterable iter env x = pure x) (hsw : swapsWith (.ListComp elt [⟨target, iter, ifs, 0⟩] scope p0) (some (.Name x pos')) pos.line env = pure true)
    (g : IterG c N env ρ iter σ (CompI c N env ρc scope cl target elt ifs (fun acc σ1 => ∀ D, σ1 D = none → ∃ ρ', Put x (some (.raw (.ref D))) ρ ρ' ∧ SQ .next ρ' (upd σ1 D (.list acc)))) (fun ex σ' => SX ex ρ σ')) :
    StG c N env ρ (.Assign [.Name x pos'] (.ListComp elt [⟨target, iter, ifs, 0⟩] scope p0) pos) σ SQ SX :=
  S_assign_comp hhn CX.H CX.hloc CX.hfree hx g hs hsw
theorem CompT_nil {K : Bool → Sig → Prop} (h : K true σ) : CompT c N env ρ σ K [] := h
theorem CompT_one {K : Bool → Sig → Prop} {t : PySem.Expr} (h : TG c N env ρ t σ K NoX) : CompT c N env ρ σ K [t] := h
theorem Sub.over {τ σ' : Sig} {D : Addr} {m0 m : MO} (x : Sub (Mine.upd τ D m0) σ') : Sub (Mine.upd τ D m) (Mine.upd σ' D m) := fun a m' e => by
  by_cases h : a = D
  · subst h; rw [upd_same] at e ⊢; exact e
  · rw [upd_ne _ _ h] at e ⊢; exact x a m' (by rw [upd_ne _ _ h]; exact e)
/-- each item gives one, or none; the ghost heap stays -/
theorem comp_map {α : Type} {scope : Scope} {cl : List (Str × Addr)} {target elt : PySem.Expr} {ifs : List PySem.Expr} {F : List V → Sig → Prop} {l : List V} {Need : Sig → Prop} {tg : PySem.Expr → Prop} {σ1 : Sig} (items : List α) (inV out : α → V) (keep : α → Bool)
    (h1 : tg target) (h2 : Need σ1) (h3 : l = items.map inV) (h4 : items.length < 1000000)
    (h5 : ∀ C, ∀ a ∈ items, ∃ ρ2, Takes target (inV a) ρc ρ2 ∧ CompT c N (compEnvC scope cl C env) ρ2 σ1 (fun b σ2 => match b with | true => keep a = true ∧ EvG c N (compEnvC scope cl C env) ρ2 elt σ2 (fun u σ3 => u = out a ∧ Sub σ1 σ3) NoX | false => keep a = false ∧ Sub σ1 σ2) ifs)
    (h6 : F ((items.filter keep).map out) σ1) : CompI c N env ρc scope cl target elt ifs F l Need tg σ1 := by
  refine ⟨h1, fun l' acc σ2 => σ2 = σ1 ∧ ∃ done rest, items = done ++ rest ∧ l' = rest.map inV ∧ acc = (done.filter keep).map out, ⟨rfl, [], items, rfl, h3, rfl⟩, ?_, ?_⟩
  · rintro C v l acc σ2 ⟨rfl, done, rest, e1, e2, e3⟩
    cases rest with
    | nil => simp at e2
    | cons a rest =>
      simp only [List.map_cons, List.cons.injEq] at e2
      obtain ⟨rfl, rfl⟩ := e2
      obtain ⟨ρ2, t, g⟩ := h5 C a (by rw [e1]; simp)
      have hd : done ++ a :: rest = (done ++ [a]) ++ rest := by simp
      refine ⟨h2, ?_, ρ2, t, ?_⟩
      · rw [e3, List.length_map]
        have := List.length_filter_le keep done
        have : items.length = done.length + (rest.length + 1) := by rw [e1]; simp
        omega
      · have fin : ∀ (b : Bool) σ3, (match (generalizing := false) b with | true => keep a = true ∧ EvG c N (compEnvC scope cl C env) ρ2 elt σ3 (fun u σ4 => u = out a ∧ Sub σ2 σ4) NoX | false => keep a = false ∧ Sub σ2 σ3) →
            (match (generalizing := false) b with | true => EvG c N (compEnvC scope cl C env) ρ2 elt σ3 (fun u σ4 => ∃ σ5, Sub σ5 σ4 ∧ σ5 = σ2 ∧ ∃ done' rest', items = done' ++ rest' ∧ rest.map inV = rest'.map inV ∧ acc ++ [u] = (done'.filter keep).map out) NoX | false => ∃ σ5, Sub σ5 σ3 ∧ σ5 = σ2 ∧ ∃ done' rest', items = done' ++ rest' ∧ rest.map inV = rest'.map inV ∧ acc = (done'.filter keep).map out) := by
          intro b σ3 h
          cases b with
          | true =>
            obtain ⟨hk, g⟩ := h
            refine G_mono g (fun u σ4 ⟨hu, hs⟩ => ⟨σ2, hs, rfl, done ++ [a], rest, by rw [e1, hd], rfl, ?_⟩) fun _ _ q => q
            rw [e3, hu]; simp [List.filter_append, hk]
          | false =>
            obtain ⟨hk, hs⟩ := h
            exact ⟨σ2, hs, rfl, done ++ [a], rest, by rw [e1, hd], rfl, by rw [e3]; simp [List.filter_append, hk]⟩
        revert g
        match ifs with
        | [] => intro g; exact G_post (fin true _ g)
        | [t] =>
          intro g A s QQ EE ak R E p xp
          refine g A s QQ EE ak R E (fun b b' σ3 h' tk' q r R' x' gr => ?_) xp
          have q' := fin b σ3 q
          cases b with
          | true => exact p true b' σ3 h' tk' (G_post q') r R' x' gr
          | false =>
            obtain ⟨σ5, hs, rfl, q'⟩ := q'
            exact p false b' σ5 h' tk' ⟨rfl, q'⟩ r (R'.forget hs) x' (gr.sub hs)
        | _ :: _ :: _ => intro g; exact g
  · rintro acc σ2 ⟨rfl, done, rest, e1, e2, e3⟩
    have : rest = [] := by
      cases rest with
      | nil => rfl
      | cons a r => simp at e2
    subst this
    rw [List.append_nil] at e1
    subst e1; subst e3
    exact ⟨h2, h6⟩
end
end Mine

-- part S1
namespace Mine
noncomputable def okB (k : Str) : Bool := decide (k.length ≤ 1000) && PyData.strOk k
noncomputable def mapOpt (f : Value → Option V) : List Value → Option (List V)
  | [] => some []
  | x :: r => match f x, mapOpt f r with
    | some v, some l => some (v :: l)
    | _, _ => none
/-- data that stands in the part that is written out -/
noncomputable def readK (K : Frag) : Nat → Value → Option V
  | 0, _ => none
  | n + 1, x => match x with
    | .none => some .none
    | .bool b => some (.bool b)
    | .int i _ => some (.int i)
    | .str s _ => if okB s then some (.str s) else none
    | .ref a => match K.lookup a with
      | some ⟨.type "tuple", none, .seq xs _, _⟩ => (mapOpt (readK K n) xs.toList).map .tup
      | _ => none
    | _ => none
theorem mapOpt_ok {h : Heap} {f : Value → Option V} (hf : ∀ x v, f x = some v → VR h v x) : ∀ (xs : List Value) (l : List V), mapOpt f xs = some l → VRs h l xs
  | [], l, e => by simp only [mapOpt] at e; cases e; exact .nil
  | x :: r, l, e => by
    simp only [mapOpt] at e
    split at e
    · rename_i v l' e1 e2
      cases e
      exact .cons (hf x v e1) (mapOpt_ok hf r l' e2)
    · cases e
theorem readK_ok {K : Frag} {h : Heap} (X : K.In h) : ∀ (n : Nat) (x : Value) (v : V), readK K n x = some v → VR h v x := by
  intro n
  induction n with
  | zero => intro x v e; cases e
  | succ n ih =>
  intro x v e
  unfold readK at e
  split at e
  · cases e; simp only [VR]
  · cases e; simp only [VR]
  · cases e; simp only [VR]; exact ⟨_, rfl⟩
  · split at e
    · rename_i ho; cases e; simp only [VR]
      simp only [okB, Bool.and_eq_true, decide_eq_true_eq] at ho
      exact ⟨ho, _, rfl⟩
    · cases e
  · rename_i a
    split at e
    · rename_i xs k sl hl
      cases hr : mapOpt (readK K n) xs.toList with
      | none => rw [hr] at e; cases e
      | some l =>
        rw [hr] at e; cases e
        simp only [VR]
        exact ⟨a, xs, rfl, ⟨_, X _ _ hl, rfl, rfl, k, rfl⟩, mapOpt_ok ih xs.toList l hr⟩
    · cases e
  · cases e
theorem ns_of {K : Frag} {h : Heap} {a : Addr} {mg : Str → Option Value} {cl : Value} {d : Option Addr} {es : Array DictEntry} {n : Nat} {sl : Array (Option Value)} (X : K.In h) (e : K.lookup a = some ⟨cl, d, .dict es n, sl⟩) (g : h.Ns a mg) (x : Str) : mg x = nsFind es x := by
  obtain ⟨o, es', ep, h1, h2, _, h4⟩ := g
  rw [X _ _ e] at h1; cases h1
  simp only [Data.dict.injEq] at h2
  rw [← h4, h2.1]
theorem ints_vrs {h : Heap} : ∀ {vs : List Value} {ns : List Int}, IntsAre vs ns → VRs h (ns.map .int) vs
  | _, _, .nil => .nil
  | _, _, .cons n t r => .cons (by simp only [VR]; exact ⟨t, rfl⟩) (ints_vrs r)
/-- the ghost heap that holds nothing -/
noncomputable def noSig : Sig := fun _ => none
theorem Rel.start {c : Cx} : Rel c noSig c.S := ⟨fun _ _ e => e, Nat.le_refl _, fun a m e => by cases e⟩
theorem AOk.start {c : Cx} {n : Nat} {hn : Bool} (h1 : n ≤ 500) : AOk c ⟨n, hn⟩ callerA noSig c.S where
  depth := by show 1 + claimMargin + n < recursionLimit; have : 1 + claimMargin = 301 := by decide
              have : recursionLimit = 1000 := by decide
              omega
  units := by show 4 + 16 * n < cLine; have : cLine = 9900 := by decide
              omega
  han := fun _ => rfl
  frames := ⟨[], rfl, fun y hy => by cases hy⟩
  guards := rfl
section
variable {c : Cx} {σ : Sig}
theorem statV {K : Frag} (hc : c.K = K) {n : Nat} {x : Value} {v : V} (e : readK K n x = some v) : VR c.S v x := readK_ok (hc ▸ c.KIn) n x v e
noncomputable def readL (K : Frag) (n : Nat) (a : Addr) : Option (List V) := match K.lookup a with
  | some ⟨.type "list", none, .seq xs _, _⟩ => mapOpt (readK K n) xs.toList
  | _ => none
theorem statL {K : Frag} (hc : c.K = K) {n : Nat} {a : Addr} {l : List V} (e : readL K n a = some l) : LR c σ a l := by
  unfold readL at e
  split at e
  · rename_i xs k sl hl
    subst hc
    exact .inr ⟨xs, ⟨_, c.KIn _ _ hl, rfl, k, rfl⟩, mapOpt_ok (readK_ok c.KIn n) _ _ e⟩
  · cases e
/-- entries as they are written out -/
noncomputable def entriesAre (P : Params) : List DictEntry → List (Str × Value) → Prop
  | [], [] => True
  | e :: es, (k, v) :: kvs => (∃ t, e = ⟨PyData.keyHash P k, .str k t, v⟩) ∧ entriesAre P es kvs
  | _, _ => False
theorem entries_ok {w : World} {prog : Program} : ∀ {es : List DictEntry} {kvs : List (Str × Value)}, entriesAre w.params es kvs → (∀ e ∈ es, ∃ k, (strKind prog w).is k e.key = true ∧ e.hash = (strKind prog w).hash k) ∧ Pairs (strKind prog w) es kvs
  | [], [], _ => ⟨fun e h => (nomatch h), .nil⟩
  | e :: es, (k, v) :: kvs, ⟨⟨t, he⟩, h⟩ => by
    have ih := entries_ok (prog := prog) h
    subst he
    have hk : (strKind prog w).is k (.str k t) = true := by show Value.isStrOf k (.str k t) = true; simp [Value.isStrOf]
    exact ⟨fun e' h' => by
      rcases List.mem_cons.mp h' with rfl | h'
      · exact ⟨k, hk, rfl⟩
      · exact ih.1 e' h', .cons hk rfl ih.2⟩
theorem statD {P : Params} {K : Frag} (hc : c.K = K) (hP : P = c.w.params) {a : Addr} {es : Array DictEntry} {n : Nat} {l : List (Str × V)} {kvs : List (Str × Value)} (e : K.lookup a = some { cls := .type "dict", data := .dict es n }) (he : entriesAre P es.toList kvs) (hn : (kvs.map (·.1)).Nodup) (hp : PairsR c.S l kvs) (ha : a ≠ sysModules) : DR c σ a l := by
  subst hP; subst hc
  have k := entries_ok (prog := c.prog) he
  exact .inr ⟨⟨kvs, ⟨_, es, n, c.KIn _ _ e, ⟨rfl, rfl, rfl⟩, rfl, fun e' h' => k.1 e' (Array.mem_toList_iff.mpr h'), k.2, hn⟩, hp⟩, ha⟩
end
end Mine

-- part K01
namespace Mine
noncomputable def stAt (i : Nat) : Stmt := PySem.Challenge.pw_pq0055_01.main.body[i]?.getD (.Pass default)
noncomputable def stIn (i j : Nat) : Stmt := match stAt i with | .ClassDef _ _ _ body _ _ _ _ _ _ _ => body[j]?.getD (.Pass default) | _ => .Pass default
noncomputable def fnArgs : Stmt → PySem.Arguments | .FunctionDef _ a _ _ _ _ _ _ _ _ => a | _ => default
noncomputable def fnBody : Stmt → List Stmt | .FunctionDef _ _ b _ _ _ _ _ _ _ => b | _ => []
noncomputable def fnScope : Stmt → PySem.Scope | .FunctionDef _ _ _ _ _ _ s _ _ _ => s | _ => default
noncomputable def KK (P : Params) : Frag := [
(2, { cls := Value.none, data := Data.dict #[{ hash := PyData.keyHash P (Str.ofString "type.__subclasses__.Exception.0"), key := Value.str (Str.ofString "type.__subclasses__.Exception.0") 230, val := Value.int 47 0 }, { hash := PyData.keyHash P (Str.ofString "type.__subclasses__.Exception.n"), key := Value.str (Str.ofString "type.__subclasses__.Exception.n") 231, val := Value.int 1 0 }] 2 }),
(3, { cls := Value.type "dict", data := Data.dict #[{ hash := PyData.keyHash P (Str.ofString "__name__"), key := Value.str (Str.ofString "__name__") 165, val := Value.str (Str.ofString "law_pq0055_01") 555 }, { hash := PyData.keyHash P (Str.ofString "__doc__"), key := Value.str (Str.ofString "__doc__") 166, val := Value.none }, { hash := PyData.keyHash P (Str.ofString "__package__"), key := Value.str (Str.ofString "__package__") 167, val := Value.none }, { hash := PyData.keyHash P (Str.ofString "__loader__"), key := Value.str (Str.ofString "__loader__") 168, val := Value.builtin "__main__.__loader__#opaque" }, { hash := PyData.keyHash P (Str.ofString "__spec__"), key := Value.str (Str.ofString "__spec__") 169, val := Value.none }, { hash := PyData.keyHash P (Str.ofString "__annotations__"), key := Value.str (Str.ofString "__annotations__") 170, val := Value.ref 6 }, { hash := PyData.keyHash P (Str.ofString "__builtins__"), key := Value.str (Str.ofString "__builtins__") 171, val := Value.ref 4 }, { hash := PyData.keyHash P (Str.ofString "__file__"), key := Value.str (Str.ofString "__file__") 173, val := Value.str (Str.ofString "/claim/cut.py") 172 }, { hash := PyData.keyHash P (Str.ofString "__cached__"), key := Value.str (Str.ofString "__cached__") 174, val := Value.none }, { hash := PyData.keyHash P (Str.ofString "_wall"), key := Value.str (Str.ofString "_wall") 193, val := Value.ref 21 }, { hash := PyData.keyHash P (Str.ofString "HeapError"), key := Value.str (Str.ofString "HeapError") 233, val := Value.ref 47 }, { hash := PyData.keyHash P (Str.ofString "TermFault"), key := Value.str (Str.ofString "TermFault") 249, val := Value.ref 60 }, { hash := PyData.keyHash P (Str.ofString "RuleFault"), key := Value.str (Str.ofString "RuleFault") 265, val := Value.ref 72 }, { hash := PyData.keyHash P (Str.ofString "PaperFault"), key := Value.str (Str.ofString "PaperFault") 300, val := Value.ref 100 }, { hash := PyData.keyHash P (Str.ofString "is_variable"), key := Value.str (Str.ofString "is_variable") 309, val := Value.ref 109 }, { hash := PyData.keyHash P (Str.ofString "variables"), key := Value.str (Str.ofString "variables") 315, val := Value.ref 114 }, { hash := PyData.keyHash P (Str.ofString "placed"), key := Value.str (Str.ofString "placed") 321, val := Value.ref 119 }, { hash := PyData.keyHash P (Str.ofString "parts"), key := Value.str (Str.ofString "parts") 327, val := Value.ref 124 }, { hash := PyData.keyHash P (Str.ofString "parts_of"), key := Value.str (Str.ofString "parts_of") 336, val := Value.ref 131 }, { hash := PyData.keyHash P (Str.ofString "is_plain_term"), key := Value.str (Str.ofString "is_plain_term") 345, val := Value.ref 138 }, { hash := PyData.keyHash P (Str.ofString "are_places"), key := Value.str (Str.ofString "are_places") 351, val := Value.ref 143 }, { hash := PyData.keyHash P (Str.ofString "has_form"), key := Value.str (Str.ofString "has_form") 360, val := Value.ref 150 }, { hash := PyData.keyHash P (Str.ofString "in_order"), key := Value.str (Str.ofString "in_order") 366, val := Value.ref 155 }, { hash := PyData.keyHash P (Str.ofString "want_form"), key := Value.str (Str.ofString "want_form") 374, val := Value.ref 162 }, { hash := PyData.keyHash P (Str.ofString "Judge"), key := Value.str (Str.ofString "Judge") 440, val := Value.ref 208 }, { hash := PyData.keyHash P (Str.ofString "Steps"), key := Value.str (Str.ofString "Steps") 515, val := Value.ref 264 }, { hash := PyData.keyHash P (Str.ofString "Rule"), key := Value.str (Str.ofString "Rule") 554, val := Value.ref 290 }, { hash := PyData.keyHash P (Str.ofString "_law_terms"), key := Value.str (Str.ofString "_law_terms") 566, val := Value.ref 304 }, { hash := PyData.keyHash P (Str.ofString "_law_known"), key := Value.str (Str.ofString "_law_known") 572, val := Value.ref 311 }, { hash := PyData.keyHash P (Str.ofString "_law_rules"), key := Value.str (Str.ofString "_law_rules") 578, val := Value.ref 318 }, { hash := PyData.keyHash P (Str.ofString "_law_wanted"), key := Value.str (Str.ofString "_law_wanted") 591, val := Value.ref 319 }, { hash := PyData.keyHash P (Str.ofString "_law_draw"), key := Value.str (Str.ofString "_law_draw") 601, val := Value.ref 330 }, { hash := PyData.keyHash P (Str.ofString "_law_bent"), key := Value.str (Str.ofString "_law_bent") 610, val := Value.ref 337 }, { hash := PyData.keyHash P (Str.ofString "_law_step"), key := Value.str (Str.ofString "_law_step") 616, val := Value.ref 342 }, { hash := PyData.keyHash P (Str.ofString "_law_put"), key := Value.str (Str.ofString "_law_put") 622, val := Value.ref 347 }, { hash := PyData.keyHash P (Str.ofString "_law_due"), key := Value.str (Str.ofString "_law_due") 628, val := Value.ref 352 }, { hash := PyData.keyHash P (Str.ofString "_law_heard"), key := Value.str (Str.ofString "_law_heard") 638, val := Value.ref 359 }, { hash := PyData.keyHash P (Str.ofString "law"), key := Value.str (Str.ofString "law") 644, val := Value.ref 364 }] 38 }),
(15, { cls := Value.type "tuple", data := Data.seq #[] }),
(17, { cls := Value.type "tuple", data := Data.seq #[Value.str (Str.ofString "k") 190] }),
(18, { cls := Value.type "tuple", data := Data.seq #[] }),
(20, { cls := Value.type "code", data := Data.fields #[Value.str (Str.ofString "_wall") 187, Value.str (Str.ofString "_wall") 188, Value.str (Str.ofString "/claim/cut.py") 189, Value.int 1 0, Value.int 1 0, Value.int 0 0, Value.int 0 0, Value.int 3 0, Value.ref 15, Value.bool Bool.true, Value.int 181 0, Value.ref 16, Value.none, Value.ref 17, Value.ref 18, Value.ref 19, Value.int 191 0, Value.int 1 0, Value.str (Str.ofString "/claim/cut.py") 192] }),
(21, { cls := Value.type "function", data := Data.func { name := Str.ofString "_wall", qualname := Str.ofString "_wall", params := Mine.fnArgs (Mine.stAt 0), body := FuncBody.stmts (Mine.fnBody (Mine.stAt 0)), scope := Mine.fnScope (Mine.stAt 0), globals := 3, closure := [], defaults := Value.none, kwdefaults := Value.none, pyModule := Value.str (Str.ofString "__main__") 164, code := Value.ref 20 } }),
(22, { cls := Value.type "tuple", data := Data.seq #[Value.type "Exception"] }),
(25, { cls := Value.type "cell", data := Data.cell (Option.some (Value.ref 47)) }),
(30, { cls := Value.type "tuple", data := Data.seq #[Value.ref 25] }),
(31, { cls := Value.type "tuple", data := Data.seq #[Value.str (Str.ofString "__class__") 211] }),
(33, { cls := Value.type "tuple", data := Data.seq #[Value.str (Str.ofString "self") 212, Value.str (Str.ofString "what") 213] }),
(34, { cls := Value.type "tuple", data := Data.seq #[] }),
(36, { cls := Value.type "code", data := Data.fields #[Value.str (Str.ofString "__init__") 208, Value.str (Str.ofString "HeapError.__init__") 209, Value.str (Str.ofString "/claim/cut.py") 210, Value.int 7 0, Value.int 2 0, Value.int 0 0, Value.int 0 0, Value.int 3 0, Value.ref 31, Value.bool Bool.true, Value.int 181 0, Value.ref 32, Value.none, Value.ref 33, Value.ref 34, Value.ref 35, Value.int 214 0, Value.int 7 0, Value.str (Str.ofString "/claim/cut.py") 215] }),
(37, { cls := Value.type "function", data := Data.func { name := Str.ofString "__init__", qualname := Str.ofString "HeapError.__init__", params := Mine.fnArgs (Mine.stIn 2 0), body := FuncBody.stmts (Mine.fnBody (Mine.stIn 2 0)), scope := Mine.fnScope (Mine.stIn 2 0), globals := 3, closure := [(Str.ofString "__class__", 25)], defaults := Value.none, kwdefaults := Value.none, pyModule := Value.str (Str.ofString "alikeheap.errors") 194, code := Value.ref 36, closureTuple := Value.ref 30 } }),
(38, { cls := Value.type "tuple", data := Data.seq #[] }),
(40, { cls := Value.type "tuple", data := Data.seq #[Value.str (Str.ofString "self") 220] }),
(41, { cls := Value.type "tuple", data := Data.seq #[] }),
(43, { cls := Value.type "code", data := Data.fields #[Value.str (Str.ofString "told") 217, Value.str (Str.ofString "HeapError.told") 218, Value.str (Str.ofString "/claim/cut.py") 219, Value.int 11 0, Value.int 1 0, Value.int 0 0, Value.int 0 0, Value.int 3 0, Value.ref 38, Value.bool Bool.true, Value.int 181 0, Value.ref 39, Value.none, Value.ref 40, Value.ref 41, Value.ref 42, Value.int 221 0, Value.int 11 0, Value.str (Str.ofString "/claim/cut.py") 222] }),
(44, { cls := Value.type "function", data := Data.func { name := Str.ofString "told", qualname := Str.ofString "HeapError.told", params := Mine.fnArgs (Mine.stIn 2 1), body := FuncBody.stmts (Mine.fnBody (Mine.stIn 2 1)), scope := Mine.fnScope (Mine.stIn 2 1), globals := 3, closure := [], defaults := Value.none, kwdefaults := Value.none, pyModule := Value.str (Str.ofString "alikeheap.errors") 194, code := Value.ref 43 } }),
(45, { cls := Value.type "tuple", data := Data.seq #[Value.str (Str.ofString "what") 224] }),
(46, { cls := Value.type "dict", data := Data.dict #[{ hash := PyData.keyHash P (Str.ofString "__module__"), key := Value.str (Str.ofString "__module__") 203, val := Value.str (Str.ofString "alikeheap.errors") 194 }, { hash := PyData.keyHash P (Str.ofString "__firstlineno__"), key := Value.str (Str.ofString "__firstlineno__") 207, val := Value.int 5 206 }, { hash := PyData.keyHash P (Str.ofString "__init__"), key := Value.str (Str.ofString "__init__") 216, val := Value.ref 37 }, { hash := PyData.keyHash P (Str.ofString "told"), key := Value.str (Str.ofString "told") 223, val := Value.ref 44 }, { hash := PyData.keyHash P (Str.ofString "__static_attributes__"), key := Value.str (Str.ofString "__static_attributes__") 225, val := Value.ref 45 }, { hash := PyData.keyHash P (Str.ofString "__weakref__"), key := Value.str (Str.ofString "__weakref__") 228, val := Value.ref 48 }, { hash := PyData.keyHash P (Str.ofString "__doc__"), key := Value.str (Str.ofString "__doc__") 229, val := Value.none }] 4 }),
(47, { cls := Value.type "type", data := Data.cls { name := Str.ofString "HeapError", bases := [Value.type "Exception"], mro := [Value.ref 47, Value.type "Exception", Value.type "BaseException", Value.type "object"], ns := 46, qualname := Str.ofString "HeapError", subclasses := [Value.ref 60, Value.ref 72, Value.ref 100] }, slots := #[Option.some (Value.ref 22), Option.none, Option.some (Value.str (Str.ofString "HeapError") 196), Option.some (Value.str (Str.ofString "HeapError") 204), Option.some (Value.builtin "Exception.__new__"), Option.some (Value.bool Bool.true)] }),
(48, { cls := Value.type "getset_descriptor", data := Data.fields #[Value.str (Str.ofString "__weakref__") 227, Value.ref 47, Value.builtin "ExceptionGroup.__weakref__", Value.none] }),
(51, { cls := Value.type "tuple", data := Data.seq #[Value.ref 47] }),
(58, { cls := Value.type "tuple", data := Data.seq #[] }),
(59, { cls := Value.type "dict", data := Data.dict #[{ hash := PyData.keyHash P (Str.ofString "__module__"), key := Value.str (Str.ofString "__module__") 241, val := Value.str (Str.ofString "alikeheap.errors") 194 }, { hash := PyData.keyHash P (Str.ofString "__firstlineno__"), key := Value.str (Str.ofString "__firstlineno__") 245, val := Value.int 13 244 }, { hash := PyData.keyHash P (Str.ofString "__static_attributes__"), key := Value.str (Str.ofString "__static_attributes__") 246, val := Value.ref 58 }, { hash := PyData.keyHash P (Str.ofString "__doc__"), key := Value.str (Str.ofString "__doc__") 247, val := Value.none }] 2 }),
(60, { cls := Value.type "type", data := Data.cls { name := Str.ofString "TermFault", bases := [Value.ref 47], mro := [Value.ref 60, Value.ref 47, Value.type "Exception", Value.type "BaseException", Value.type "object"], ns := 59, qualname := Str.ofString "TermFault" }, slots := #[Option.some (Value.ref 51), Option.none, Option.some (Value.str (Str.ofString "TermFault") 234), Option.some (Value.str (Str.ofString "TermFault") 242), Option.some (Value.builtin "Exception.__new__"), Option.some (Value.bool Bool.true)] }),
(63, { cls := Value.type "tuple", data := Data.seq #[Value.ref 47] }),
(70, { cls := Value.type "tuple", data := Data.seq #[] }),
(71, { cls := Value.type "dict", data := Data.dict #[{ hash := PyData.keyHash P (Str.ofString "__module__"), key := Value.str (Str.ofString "__module__") 257, val := Value.str (Str.ofString "alikeheap.errors") 194 }, { hash := PyData.keyHash P (Str.ofString "__firstlineno__"), key := Value.str (Str.ofString "__firstlineno__") 261, val := Value.int 15 260 }, { hash := PyData.keyHash P (Str.ofString "__static_attributes__"), key := Value.str (Str.ofString "__static_attributes__") 262, val := Value.ref 70 }, { hash := PyData.keyHash P (Str.ofString "__doc__"), key := Value.str (Str.ofString "__doc__") 263, val := Value.none }] 2 }),
(72, { cls := Value.type "type", data := Data.cls { name := Str.ofString "RuleFault", bases := [Value.ref 47], mro := [Value.ref 72, Value.ref 47, Value.type "Exception", Value.type "BaseException", Value.type "object"], ns := 71, qualname := Str.ofString "RuleFault" }, slots := #[Option.some (Value.ref 63), Option.none, Option.some (Value.str (Str.ofString "RuleFault") 250), Option.some (Value.str (Str.ofString "RuleFault") 258), Option.some (Value.builtin "Exception.__new__"), Option.some (Value.bool Bool.true)] }),
(75, { cls := Value.type "tuple", data := Data.seq #[Value.ref 47] }),
(78, { cls := Value.type "cell", data := Data.cell (Option.some (Value.ref 100)) }),
(83, { cls := Value.type "tuple", data := Data.seq #[Value.ref 78] }),
(84, { cls := Value.type "tuple", data := Data.seq #[Value.str (Str.ofString "__class__") 281] }),
(86, { cls := Value.type "tuple", data := Data.seq #[Value.str (Str.ofString "self") 282, Value.str (Str.ofString "what") 283, Value.str (Str.ofString "place") 284] }),
(87, { cls := Value.type "tuple", data := Data.seq #[] }),
(89, { cls := Value.type "code", data := Data.fields #[Value.str (Str.ofString "__init__") 278, Value.str (Str.ofString "PaperFault.__init__") 279, Value.str (Str.ofString "/claim/cut.py") 280, Value.int 19 0, Value.int 3 0, Value.int 0 0, Value.int 0 0, Value.int 3 0, Value.ref 84, Value.bool Bool.true, Value.int 181 0, Value.ref 85, Value.none, Value.ref 86, Value.ref 87, Value.ref 88, Value.int 285 0, Value.int 19 0, Value.str (Str.ofString "/claim/cut.py") 286] }),
(90, { cls := Value.type "function", data := Data.func { name := Str.ofString "__init__", qualname := Str.ofString "PaperFault.__init__", params := Mine.fnArgs (Mine.stIn 5 0), body := FuncBody.stmts (Mine.fnBody (Mine.stIn 5 0)), scope := Mine.fnScope (Mine.stIn 5 0), globals := 3, closure := [(Str.ofString "__class__", 78)], defaults := Value.none, kwdefaults := Value.none, pyModule := Value.str (Str.ofString "alikeheap.errors") 194, code := Value.ref 89, closureTuple := Value.ref 83 } }),
(91, { cls := Value.type "tuple", data := Data.seq #[] }),
(93, { cls := Value.type "tuple", data := Data.seq #[Value.str (Str.ofString "self") 291] }),
(94, { cls := Value.type "tuple", data := Data.seq #[] }),
(96, { cls := Value.type "code", data := Data.fields #[Value.str (Str.ofString "told") 288, Value.str (Str.ofString "PaperFault.told") 289, Value.str (Str.ofString "/claim/cut.py") 290, Value.int 23 0, Value.int 1 0, Value.int 0 0, Value.int 0 0, Value.int 3 0, Value.ref 91, Value.bool Bool.true, Value.int 181 0, Value.ref 92, Value.none, Value.ref 93, Value.ref 94, Value.ref 95, Value.int 292 0, Value.int 23 0, Value.str (Str.ofString "/claim/cut.py") 293] }),
(97, { cls := Value.type "function", data := Data.func { name := Str.ofString "told", qualname := Str.ofString "PaperFault.told", params := Mine.fnArgs (Mine.stIn 5 1), body := FuncBody.stmts (Mine.fnBody (Mine.stIn 5 1)), scope := Mine.fnScope (Mine.stIn 5 1), globals := 3, closure := [], defaults := Value.none, kwdefaults := Value.none, pyModule := Value.str (Str.ofString "alikeheap.errors") 194, code := Value.ref 96 } }),
(98, { cls := Value.type "tuple", data := Data.seq #[Value.str (Str.ofString "place") 295] }),
(99, { cls := Value.type "dict", data := Data.dict #[{ hash := PyData.keyHash P (Str.ofString "__module__"), key := Value.str (Str.ofString "__module__") 273, val := Value.str (Str.ofString "alikeheap.errors") 194 }, { hash := PyData.keyHash P (Str.ofString "__firstlineno__"), key := Value.str (Str.ofString "__firstlineno__") 277, val := Value.int 17 276 }, { hash := PyData.keyHash P (Str.ofString "__init__"), key := Value.str (Str.ofString "__init__") 287, val := Value.ref 90 }, { hash := PyData.keyHash P (Str.ofString "told"), key := Value.str (Str.ofString "told") 294, val := Value.ref 97 }, { hash := PyData.keyHash P (Str.ofString "__static_attributes__"), key := Value.str (Str.ofString "__static_attributes__") 296, val := Value.ref 98 }, { hash := PyData.keyHash P (Str.ofString "__doc__"), key := Value.str (Str.ofString "__doc__") 298, val := Value.none }] 3 }),
(100, { cls := Value.type "type", data := Data.cls { name := Str.ofString "PaperFault", bases := [Value.ref 47], mro := [Value.ref 100, Value.ref 47, Value.type "Exception", Value.type "BaseException", Value.type "object"], ns := 99, qualname := Str.ofString "PaperFault" }, slots := #[Option.some (Value.ref 75), Option.none, Option.some (Value.str (Str.ofString "PaperFault") 266), Option.some (Value.str (Str.ofString "PaperFault") 274), Option.some (Value.builtin "Exception.__new__"), Option.some (Value.bool Bool.true)] }),
(103, { cls := Value.type "tuple", data := Data.seq #[] }),
(105, { cls := Value.type "tuple", data := Data.seq #[Value.str (Str.ofString "t") 306] }),
(106, { cls := Value.type "tuple", data := Data.seq #[] }),
(108, { cls := Value.type "code", data := Data.fields #[Value.str (Str.ofString "is_variable") 303, Value.str (Str.ofString "is_variable") 304, Value.str (Str.ofString "/claim/cut.py") 305, Value.int 26 0, Value.int 1 0, Value.int 0 0, Value.int 0 0, Value.int 3 0, Value.ref 103, Value.bool Bool.true, Value.int 181 0, Value.ref 104, Value.none, Value.ref 105, Value.ref 106, Value.ref 107, Value.int 307 0, Value.int 26 0, Value.str (Str.ofString "/claim/cut.py") 308] }),
(109, { cls := Value.type "function", data := Data.func { name := Str.ofString "is_variable", qualname := Str.ofString "is_variable", params := Mine.fnArgs (Mine.stAt 7), body := FuncBody.stmts (Mine.fnBody (Mine.stAt 7)), scope := Mine.fnScope (Mine.stAt 7), globals := 3, closure := [], defaults := Value.none, kwdefaults := Value.none, pyModule := Value.str (Str.ofString "alikeheap.terms") 301, code := Value.ref 108 } }),
(110, { cls := Value.type "tuple", data := Data.seq #[] }),
(113, { cls := Value.type "code", data := Data.fields #[Value.str (Str.ofString "variables") 310, Value.str (Str.ofString "variables") 311, Value.str (Str.ofString "/claim/cut.py") 312, Value.int 28 0, Value.int 1 0, Value.int 0 0, Value.int 0 0, Value.int 3 0, Value.ref 110, Value.bool Bool.true, Value.int 181 0, Value.ref 111, Value.none, Value.none, Value.none, Value.ref 112, Value.int 313 0, Value.int 28 0, Value.str (Str.ofString "/claim/cut.py") 314] }),
(114, { cls := Value.type "function", data := Data.func { name := Str.ofString "variables", qualname := Str.ofString "variables", params := Mine.fnArgs (Mine.stAt 8), body := FuncBody.stmts (Mine.fnBody (Mine.stAt 8)), scope := Mine.fnScope (Mine.stAt 8), globals := 3, closure := [], defaults := Value.none, kwdefaults := Value.none, pyModule := Value.str (Str.ofString "alikeheap.terms") 301, code := Value.ref 113 } }),
(115, { cls := Value.type "tuple", data := Data.seq #[] }),
(118, { cls := Value.type "code", data := Data.fields #[Value.str (Str.ofString "placed") 316, Value.str (Str.ofString "placed") 317, Value.str (Str.ofString "/claim/cut.py") 318, Value.int 30 0, Value.int 2 0, Value.int 0 0, Value.int 0 0, Value.int 3 0, Value.ref 115, Value.bool Bool.true, Value.int 181 0, Value.ref 116, Value.none, Value.none, Value.none, Value.ref 117, Value.int 319 0, Value.int 30 0, Value.str (Str.ofString "/claim/cut.py") 320] }),
(119, { cls := Value.type "function", data := Data.func { name := Str.ofString "placed", qualname := Str.ofString "placed", params := Mine.fnArgs (Mine.stAt 9), body := FuncBody.stmts (Mine.fnBody (Mine.stAt 9)), scope := Mine.fnScope (Mine.stAt 9), globals := 3, closure := [], defaults := Value.none, kwdefaults := Value.none, pyModule := Value.str (Str.ofString "alikeheap.terms") 301, code := Value.ref 118 } }),
(120, { cls := Value.type "tuple", data := Data.seq #[] }),
(123, { cls := Value.type "code", data := Data.fields #[Value.str (Str.ofString "parts") 322, Value.str (Str.ofString "parts") 323, Value.str (Str.ofString "/claim/cut.py") 324, Value.int 36 0, Value.int 1 0, Value.int 0 0, Value.int 0 0, Value.int 3 0, Value.ref 120, Value.bool Bool.true, Value.int 181 0, Value.ref 121, Value.none, Value.none, Value.none, Value.ref 122, Value.int 325 0, Value.int 36 0, Value.str (Str.ofString "/claim/cut.py") 326] }),
(124, { cls := Value.type "function", data := Data.func { name := Str.ofString "parts", qualname := Str.ofString "parts", params := Mine.fnArgs (Mine.stAt 10), body := FuncBody.stmts (Mine.fnBody (Mine.stAt 10)), scope := Mine.fnScope (Mine.stAt 10), globals := 3, closure := [], defaults := Value.none, kwdefaults := Value.none, pyModule := Value.str (Str.ofString "alikeheap.terms") 301, code := Value.ref 123 } }),
(125, { cls := Value.type "tuple", data := Data.seq #[] }),
(127, { cls := Value.type "tuple", data := Data.seq #[Value.str (Str.ofString "paper") 333] }),
(128, { cls := Value.type "tuple", data := Data.seq #[] }),
(130, { cls := Value.type "code", data := Data.fields #[Value.str (Str.ofString "parts_of") 330, Value.str (Str.ofString "parts_of") 331, Value.str (Str.ofString "/claim/cut.py") 332, Value.int 42 0, Value.int 1 0, Value.int 0 0, Value.int 0 0, Value.int 3 0, Value.ref 125, Value.bool Bool.true, Value.int 181 0, Value.ref 126, Value.none, Value.ref 127, Value.ref 128, Value.ref 129, Value.int 334 0, Value.int 42 0, Value.str (Str.ofString "/claim/cut.py") 335] }),
(131, { cls := Value.type "function", data := Data.func { name := Str.ofString "parts_of", qualname := Str.ofString "parts_of", params := Mine.fnArgs (Mine.stAt 12), body := FuncBody.stmts (Mine.fnBody (Mine.stAt 12)), scope := Mine.fnScope (Mine.stAt 12), globals := 3, closure := [], defaults := Value.none, kwdefaults := Value.none, pyModule := Value.str (Str.ofString "alikeheap.papers") 328, code := Value.ref 130 } }),
(132, { cls := Value.type "tuple", data := Data.seq #[] }),
(134, { cls := Value.type "tuple", data := Data.seq #[Value.str (Str.ofString "thing") 340, Value.str (Str.ofString "waiting") 341, Value.str (Str.ofString "one") 342] }),
(135, { cls := Value.type "tuple", data := Data.seq #[] }),
(137, { cls := Value.type "code", data := Data.fields #[Value.str (Str.ofString "is_plain_term") 337, Value.str (Str.ofString "is_plain_term") 338, Value.str (Str.ofString "/claim/cut.py") 339, Value.int 46 0, Value.int 1 0, Value.int 0 0, Value.int 0 0, Value.int 3 0, Value.ref 132, Value.bool Bool.true, Value.int 181 0, Value.ref 133, Value.none, Value.ref 134, Value.ref 135, Value.ref 136, Value.int 343 0, Value.int 46 0, Value.str (Str.ofString "/claim/cut.py") 344] }),
(138, { cls := Value.type "function", data := Data.func { name := Str.ofString "is_plain_term", qualname := Str.ofString "is_plain_term", params := Mine.fnArgs (Mine.stAt 13), body := FuncBody.stmts (Mine.fnBody (Mine.stAt 13)), scope := Mine.fnScope (Mine.stAt 13), globals := 3, closure := [], defaults := Value.none, kwdefaults := Value.none, pyModule := Value.str (Str.ofString "alikeheap.papers") 328, code := Value.ref 137 } }),
(139, { cls := Value.type "tuple", data := Data.seq #[] }),
(142, { cls := Value.type "code", data := Data.fields #[Value.str (Str.ofString "are_places") 346, Value.str (Str.ofString "are_places") 347, Value.str (Str.ofString "/claim/cut.py") 348, Value.int 54 0, Value.int 1 0, Value.int 0 0, Value.int 0 0, Value.int 3 0, Value.ref 139, Value.bool Bool.true, Value.int 181 0, Value.ref 140, Value.none, Value.none, Value.none, Value.ref 141, Value.int 349 0, Value.int 54 0, Value.str (Str.ofString "/claim/cut.py") 350] }),
(143, { cls := Value.type "function", data := Data.func { name := Str.ofString "are_places", qualname := Str.ofString "are_places", params := Mine.fnArgs (Mine.stAt 14), body := FuncBody.stmts (Mine.fnBody (Mine.stAt 14)), scope := Mine.fnScope (Mine.stAt 14), globals := 3, closure := [], defaults := Value.none, kwdefaults := Value.none, pyModule := Value.str (Str.ofString "alikeheap.papers") 328, code := Value.ref 142 } }),
(144, { cls := Value.type "tuple", data := Data.seq #[] }),
(146, { cls := Value.type "tuple", data := Data.seq #[Value.str (Str.ofString "thing") 355, Value.str (Str.ofString "kind") 356, Value.str (Str.ofString "many") 357] }),
(147, { cls := Value.type "tuple", data := Data.seq #[] }),
(149, { cls := Value.type "code", data := Data.fields #[Value.str (Str.ofString "has_form") 352, Value.str (Str.ofString "has_form") 353, Value.str (Str.ofString "/claim/cut.py") 354, Value.int 61 0, Value.int 1 0, Value.int 0 0, Value.int 0 0, Value.int 3 0, Value.ref 144, Value.bool Bool.true, Value.int 181 0, Value.ref 145, Value.none, Value.ref 146, Value.ref 147, Value.ref 148, Value.int 358 0, Value.int 61 0, Value.str (Str.ofString "/claim/cut.py") 359] }),
(150, { cls := Value.type "function", data := Data.func { name := Str.ofString "has_form", qualname := Str.ofString "has_form", params := Mine.fnArgs (Mine.stAt 15), body := FuncBody.stmts (Mine.fnBody (Mine.stAt 15)), scope := Mine.fnScope (Mine.stAt 15), globals := 3, closure := [], defaults := Value.none, kwdefaults := Value.none, pyModule := Value.str (Str.ofString "alikeheap.papers") 328, code := Value.ref 149 } }),
(151, { cls := Value.type "tuple", data := Data.seq #[] }),
(154, { cls := Value.type "code", data := Data.fields #[Value.str (Str.ofString "in_order") 361, Value.str (Str.ofString "in_order") 362, Value.str (Str.ofString "/claim/cut.py") 363, Value.int 74 0, Value.int 1 0, Value.int 0 0, Value.int 0 0, Value.int 3 0, Value.ref 151, Value.bool Bool.true, Value.int 181 0, Value.ref 152, Value.none, Value.none, Value.none, Value.ref 153, Value.int 364 0, Value.int 74 0, Value.str (Str.ofString "/claim/cut.py") 365] }),
(155, { cls := Value.type "function", data := Data.func { name := Str.ofString "in_order", qualname := Str.ofString "in_order", params := Mine.fnArgs (Mine.stAt 16), body := FuncBody.stmts (Mine.fnBody (Mine.stAt 16)), scope := Mine.fnScope (Mine.stAt 16), globals := 3, closure := [], defaults := Value.none, kwdefaults := Value.none, pyModule := Value.str (Str.ofString "alikeheap.papers") 328, code := Value.ref 154 } }),
(156, { cls := Value.type "tuple", data := Data.seq #[] }),
(158, { cls := Value.type "tuple", data := Data.seq #[Value.str (Str.ofString "paper") 370, Value.str (Str.ofString "path") 371] }),
(159, { cls := Value.type "tuple", data := Data.seq #[] }),
(161, { cls := Value.type "code", data := Data.fields #[Value.str (Str.ofString "want_form") 367, Value.str (Str.ofString "want_form") 368, Value.str (Str.ofString "/claim/cut.py") 369, Value.int 83 0, Value.int 2 0, Value.int 0 0, Value.int 0 0, Value.int 3 0, Value.ref 156, Value.bool Bool.true, Value.int 181 0, Value.ref 157, Value.none, Value.ref 158, Value.ref 159, Value.ref 160, Value.int 372 0, Value.int 83 0, Value.str (Str.ofString "/claim/cut.py") 373] }),
(162, { cls := Value.type "function", data := Data.func { name := Str.ofString "want_form", qualname := Str.ofString "want_form", params := Mine.fnArgs (Mine.stAt 17), body := FuncBody.stmts (Mine.fnBody (Mine.stAt 17)), scope := Mine.fnScope (Mine.stAt 17), globals := 3, closure := [], defaults := Value.none, kwdefaults := Value.none, pyModule := Value.str (Str.ofString "alikeheap.papers") 328, code := Value.ref 161 } }),
(170, { cls := Value.type "tuple", data := Data.seq #[] }),
(172, { cls := Value.type "tuple", data := Data.seq #[Value.str (Str.ofString "self") 390, Value.str (Str.ofString "rules") 391, Value.str (Str.ofString "told") 392] }),
(173, { cls := Value.type "tuple", data := Data.seq #[] }),
(175, { cls := Value.type "code", data := Data.fields #[Value.str (Str.ofString "__init__") 387, Value.str (Str.ofString "Judge.__init__") 388, Value.str (Str.ofString "/claim/cut.py") 389, Value.int 88 0, Value.int 3 0, Value.int 0 0, Value.int 0 0, Value.int 3 0, Value.ref 170, Value.bool Bool.true, Value.int 181 0, Value.ref 171, Value.none, Value.ref 172, Value.ref 173, Value.ref 174, Value.int 393 0, Value.int 88 0, Value.str (Str.ofString "/claim/cut.py") 394] }),
(176, { cls := Value.type "function", data := Data.func { name := Str.ofString "__init__", qualname := Str.ofString "Judge.__init__", params := Mine.fnArgs (Mine.stIn 18 0), body := FuncBody.stmts (Mine.fnBody (Mine.stIn 18 0)), scope := Mine.fnScope (Mine.stIn 18 0), globals := 3, closure := [], defaults := Value.none, kwdefaults := Value.none, pyModule := Value.str (Str.ofString "alikeheap.papers") 328, code := Value.ref 175 } }),
(177, { cls := Value.type "tuple", data := Data.seq #[] }),
(179, { cls := Value.type "tuple", data := Data.seq #[Value.str (Str.ofString "self") 399, Value.str (Str.ofString "label") 400, Value.str (Str.ofString "place") 401] }),
(180, { cls := Value.type "tuple", data := Data.seq #[] }),
(182, { cls := Value.type "code", data := Data.fields #[Value.str (Str.ofString "told_sides") 396, Value.str (Str.ofString "Judge.told_sides") 397, Value.str (Str.ofString "/claim/cut.py") 398, Value.int 92 0, Value.int 3 0, Value.int 0 0, Value.int 0 0, Value.int 3 0, Value.ref 177, Value.bool Bool.true, Value.int 181 0, Value.ref 178, Value.none, Value.ref 179, Value.ref 180, Value.ref 181, Value.int 402 0, Value.int 92 0, Value.str (Str.ofString "/claim/cut.py") 403] }),
(183, { cls := Value.type "function", data := Data.func { name := Str.ofString "told_sides", qualname := Str.ofString "Judge.told_sides", params := Mine.fnArgs (Mine.stIn 18 1), body := FuncBody.stmts (Mine.fnBody (Mine.stIn 18 1)), scope := Mine.fnScope (Mine.stIn 18 1), globals := 3, closure := [], defaults := Value.none, kwdefaults := Value.none, pyModule := Value.str (Str.ofString "alikeheap.papers") 328, code := Value.ref 182 } }),
(184, { cls := Value.type "tuple", data := Data.seq #[] }),
(187, { cls := Value.type "code", data := Data.fields #[Value.str (Str.ofString "rule_sides") 405, Value.str (Str.ofString "Judge.rule_sides") 406, Value.str (Str.ofString "/claim/cut.py") 407, Value.int 97 0, Value.int 4 0, Value.int 0 0, Value.int 0 0, Value.int 3 0, Value.ref 184, Value.bool Bool.true, Value.int 181 0, Value.ref 185, Value.none, Value.none, Value.none, Value.ref 186, Value.int 408 0, Value.int 97 0, Value.str (Str.ofString "/claim/cut.py") 409] }),
(188, { cls := Value.type "function", data := Data.func { name := Str.ofString "rule_sides", qualname := Str.ofString "Judge.rule_sides", params := Mine.fnArgs (Mine.stIn 18 2), body := FuncBody.stmts (Mine.fnBody (Mine.stIn 18 2)), scope := Mine.fnScope (Mine.stIn 18 2), globals := 3, closure := [], defaults := Value.none, kwdefaults := Value.none, pyModule := Value.str (Str.ofString "alikeheap.papers") 328, code := Value.ref 187 } }),
(189, { cls := Value.type "tuple", data := Data.seq #[] }),
(192, { cls := Value.type "code", data := Data.fields #[Value.str (Str.ofString "sides_of") 411, Value.str (Str.ofString "Judge.sides_of") 412, Value.str (Str.ofString "/claim/cut.py") 413, Value.int 108 0, Value.int 4 0, Value.int 0 0, Value.int 0 0, Value.int 3 0, Value.ref 189, Value.bool Bool.true, Value.int 181 0, Value.ref 190, Value.none, Value.none, Value.none, Value.ref 191, Value.int 414 0, Value.int 108 0, Value.str (Str.ofString "/claim/cut.py") 415] }),
(193, { cls := Value.type "function", data := Data.func { name := Str.ofString "sides_of", qualname := Str.ofString "Judge.sides_of", params := Mine.fnArgs (Mine.stIn 18 3), body := FuncBody.stmts (Mine.fnBody (Mine.stIn 18 3)), scope := Mine.fnScope (Mine.stIn 18 3), globals := 3, closure := [], defaults := Value.none, kwdefaults := Value.none, pyModule := Value.str (Str.ofString "alikeheap.papers") 328, code := Value.ref 192 } }),
(194, { cls := Value.type "tuple", data := Data.seq #[] }),
(197, { cls := Value.type "code", data := Data.fields #[Value.str (Str.ofString "sides") 417, Value.str (Str.ofString "Judge.sides") 418, Value.str (Str.ofString "/claim/cut.py") 419, Value.int 124 0, Value.int 2 0, Value.int 0 0, Value.int 0 0, Value.int 3 0, Value.ref 194, Value.bool Bool.true, Value.int 181 0, Value.ref 195, Value.none, Value.none, Value.none, Value.ref 196, Value.int 420 0, Value.int 124 0, Value.str (Str.ofString "/claim/cut.py") 421] }),
(198, { cls := Value.type "function", data := Data.func { name := Str.ofString "sides", qualname := Str.ofString "Judge.sides", params := Mine.fnArgs (Mine.stIn 18 4), body := FuncBody.stmts (Mine.fnBody (Mine.stIn 18 4)), scope := Mine.fnScope (Mine.stIn 18 4), globals := 3, closure := [], defaults := Value.none, kwdefaults := Value.none, pyModule := Value.str (Str.ofString "alikeheap.papers") 328, code := Value.ref 197 } }),
(199, { cls := Value.type "tuple", data := Data.seq #[] }),
(201, { cls := Value.type "tuple", data := Data.seq #[Value.str (Str.ofString "self") 426, Value.str (Str.ofString "paper") 427] }),
(202, { cls := Value.type "tuple", data := Data.seq #[] }),
(204, { cls := Value.type "code", data := Data.fields #[Value.str (Str.ofString "count") 423, Value.str (Str.ofString "Judge.count") 424, Value.str (Str.ofString "/claim/cut.py") 425, Value.int 131 0, Value.int 2 0, Value.int 0 0, Value.int 0 0, Value.int 3 0, Value.ref 199, Value.bool Bool.true, Value.int 181 0, Value.ref 200, Value.none, Value.ref 201, Value.ref 202, Value.ref 203, Value.int 428 0, Value.int 131 0, Value.str (Str.ofString "/claim/cut.py") 429] }),
(205, { cls := Value.type "function", data := Data.func { name := Str.ofString "count", qualname := Str.ofString "Judge.count", params := Mine.fnArgs (Mine.stIn 18 5), body := FuncBody.stmts (Mine.fnBody (Mine.stIn 18 5)), scope := Mine.fnScope (Mine.stIn 18 5), globals := 3, closure := [], defaults := Value.none, kwdefaults := Value.none, pyModule := Value.str (Str.ofString "alikeheap.papers") 328, code := Value.ref 204 } }),
(206, { cls := Value.type "tuple", data := Data.seq #[Value.str (Str.ofString "rules") 431, Value.str (Str.ofString "told") 432] }),
(207, { cls := Value.type "dict", data := Data.dict #[{ hash := PyData.keyHash P (Str.ofString "__module__"), key := Value.str (Str.ofString "__module__") 382, val := Value.str (Str.ofString "alikeheap.papers") 328 }, { hash := PyData.keyHash P (Str.ofString "__firstlineno__"), key := Value.str (Str.ofString "__firstlineno__") 386, val := Value.int 86 385 }, { hash := PyData.keyHash P (Str.ofString "__init__"), key := Value.str (Str.ofString "__init__") 395, val := Value.ref 176 }, { hash := PyData.keyHash P (Str.ofString "told_sides"), key := Value.str (Str.ofString "told_sides") 404, val := Value.ref 183 }, { hash := PyData.keyHash P (Str.ofString "rule_sides"), key := Value.str (Str.ofString "rule_sides") 410, val := Value.ref 188 }, { hash := PyData.keyHash P (Str.ofString "sides_of"), key := Value.str (Str.ofString "sides_of") 416, val := Value.ref 193 }, { hash := PyData.keyHash P (Str.ofString "sides"), key := Value.str (Str.ofString "sides") 422, val := Value.ref 198 }, { hash := PyData.keyHash P (Str.ofString "count"), key := Value.str (Str.ofString "count") 430, val := Value.ref 205 }, { hash := PyData.keyHash P (Str.ofString "__static_attributes__"), key := Value.str (Str.ofString "__static_attributes__") 433, val := Value.ref 206 }, { hash := PyData.keyHash P (Str.ofString "__dict__"), key := Value.str (Str.ofString "__dict__") 435, val := Value.ref 209 }, { hash := PyData.keyHash P (Str.ofString "__weakref__"), key := Value.str (Str.ofString "__weakref__") 437, val := Value.ref 210 }, { hash := PyData.keyHash P (Str.ofString "__doc__"), key := Value.str (Str.ofString "__doc__") 438, val := Value.none }] 4 }),
(208, { cls := Value.type "type", data := Data.cls { name := Str.ofString "Judge", bases := [Value.type "object"], mro := [Value.ref 208, Value.type "object"], ns := 207, qualname := Str.ofString "Judge" }, slots := #[Option.none, Option.none, Option.some (Value.str (Str.ofString "Judge") 375), Option.some (Value.str (Str.ofString "Judge") 383), Option.some (Value.builtin "object.__new__"), Option.some (Value.bool Bool.true)] }),
(209, { cls := Value.type "getset_descriptor", data := Data.fields #[Value.str (Str.ofString "__dict__") 434, Value.ref 208, Value.builtin "function.__dict__", Value.builtin "function.__dict__#set"] }),
(210, { cls := Value.type "getset_descriptor", data := Data.fields #[Value.str (Str.ofString "__weakref__") 436, Value.ref 208, Value.builtin "ExceptionGroup.__weakref__", Value.none] }),
(220, { cls := Value.type "tuple", data := Data.seq #[] }),
(222, { cls := Value.type "tuple", data := Data.seq #[Value.str (Str.ofString "self") 456, Value.str (Str.ofString "judge") 457] }),
(223, { cls := Value.type "tuple", data := Data.seq #[] }),
(225, { cls := Value.type "code", data := Data.fields #[Value.str (Str.ofString "__init__") 453, Value.str (Str.ofString "Steps.__init__") 454, Value.str (Str.ofString "/claim/cut.py") 455, Value.int 135 0, Value.int 2 0, Value.int 0 0, Value.int 0 0, Value.int 3 0, Value.ref 220, Value.bool Bool.true, Value.int 181 0, Value.ref 221, Value.none, Value.ref 222, Value.ref 223, Value.ref 224, Value.int 458 0, Value.int 135 0, Value.str (Str.ofString "/claim/cut.py") 459] }),
(226, { cls := Value.type "function", data := Data.func { name := Str.ofString "__init__", qualname := Str.ofString "Steps.__init__", params := Mine.fnArgs (Mine.stIn 19 0), body := FuncBody.stmts (Mine.fnBody (Mine.stIn 19 0)), scope := Mine.fnScope (Mine.stIn 19 0), globals := 3, closure := [], defaults := Value.none, kwdefaults := Value.none, pyModule := Value.str (Str.ofString "alikeheap.papers") 328, code := Value.ref 225 } }),
(227, { cls := Value.type "tuple", data := Data.seq #[] }),
(229, { cls := Value.type "tuple", data := Data.seq #[Value.str (Str.ofString "self") 464, Value.str (Str.ofString "paper") 465] }),
(230, { cls := Value.type "tuple", data := Data.seq #[] }),
(232, { cls := Value.type "code", data := Data.fields #[Value.str (Str.ofString "of_paper") 461, Value.str (Str.ofString "Steps.of_paper") 462, Value.str (Str.ofString "/claim/cut.py") 463, Value.int 138 0, Value.int 2 0, Value.int 0 0, Value.int 0 0, Value.int 3 0, Value.ref 227, Value.bool Bool.true, Value.int 181 0, Value.ref 228, Value.none, Value.ref 229, Value.ref 230, Value.ref 231, Value.int 466 0, Value.int 138 0, Value.str (Str.ofString "/claim/cut.py") 467] }),
(233, { cls := Value.type "function", data := Data.func { name := Str.ofString "of_paper", qualname := Str.ofString "Steps.of_paper", params := Mine.fnArgs (Mine.stIn 19 1), body := FuncBody.stmts (Mine.fnBody (Mine.stIn 19 1)), scope := Mine.fnScope (Mine.stIn 19 1), globals := 3, closure := [], defaults := Value.none, kwdefaults := Value.none, pyModule := Value.str (Str.ofString "alikeheap.papers") 328, code := Value.ref 232 } }),
(234, { cls := Value.type "tuple", data := Data.seq #[] }),
(236, { cls := Value.type "tuple", data := Data.seq #[Value.str (Str.ofString "self") 472, Value.str (Str.ofString "step") 473, Value.str (Str.ofString "number") 474, Value.str (Str.ofString "found") 475] }),
(237, { cls := Value.type "tuple", data := Data.seq #[] }),
(239, { cls := Value.type "code", data := Data.fields #[Value.str (Str.ofString "sides") 469, Value.str (Str.ofString "Steps.sides") 470, Value.str (Str.ofString "/claim/cut.py") 471, Value.int 141 0, Value.int 3 0, Value.int 0 0, Value.int 0 0, Value.int 3 0, Value.ref 234, Value.bool Bool.true, Value.int 181 0, Value.ref 235, Value.none, Value.ref 236, Value.ref 237, Value.ref 238, Value.int 476 0, Value.int 141 0, Value.str (Str.ofString "/claim/cut.py") 477] }),
(240, { cls := Value.type "function", data := Data.func { name := Str.ofString "sides", qualname := Str.ofString "Steps.sides", params := Mine.fnArgs (Mine.stIn 19 2), body := FuncBody.stmts (Mine.fnBody (Mine.stIn 19 2)), scope := Mine.fnScope (Mine.stIn 19 2), globals := 3, closure := [], defaults := Value.none, kwdefaults := Value.none, pyModule := Value.str (Str.ofString "alikeheap.papers") 328, code := Value.ref 239 } }),
(241, { cls := Value.type "tuple", data := Data.seq #[] }),
(243, { cls := Value.type "tuple", data := Data.seq #[Value.str (Str.ofString "self") 482, Value.str (Str.ofString "term") 483, Value.str (Str.ofString "step") 484, Value.str (Str.ofString "number") 485] }),
(244, { cls := Value.type "tuple", data := Data.seq #[] }),
(246, { cls := Value.type "code", data := Data.fields #[Value.str (Str.ofString "stepped") 479, Value.str (Str.ofString "Steps.stepped") 480, Value.str (Str.ofString "/claim/cut.py") 481, Value.int 150 0, Value.int 4 0, Value.int 0 0, Value.int 0 0, Value.int 3 0, Value.ref 241, Value.bool Bool.true, Value.int 181 0, Value.ref 242, Value.none, Value.ref 243, Value.ref 244, Value.ref 245, Value.int 486 0, Value.int 150 0, Value.str (Str.ofString "/claim/cut.py") 487] }),
(247, { cls := Value.type "function", data := Data.func { name := Str.ofString "stepped", qualname := Str.ofString "Steps.stepped", params := Mine.fnArgs (Mine.stIn 19 3), body := FuncBody.stmts (Mine.fnBody (Mine.stIn 19 3)), scope := Mine.fnScope (Mine.stIn 19 3), globals := 3, closure := [], defaults := Value.none, kwdefaults := Value.none, pyModule := Value.str (Str.ofString "alikeheap.papers") 328, code := Value.ref 246 } }),
(248, { cls := Value.type "tuple", data := Data.seq #[] }),
(250, { cls := Value.type "tuple", data := Data.seq #[Value.str (Str.ofString "self") 492, Value.str (Str.ofString "term") 493, Value.str (Str.ofString "steps") 494] }),
(251, { cls := Value.type "tuple", data := Data.seq #[] }),
(253, { cls := Value.type "code", data := Data.fields #[Value.str (Str.ofString "walk") 489, Value.str (Str.ofString "Steps.walk") 490, Value.str (Str.ofString "/claim/cut.py") 491, Value.int 153 0, Value.int 3 0, Value.int 0 0, Value.int 0 0, Value.int 3 0, Value.ref 248, Value.bool Bool.true, Value.int 181 0, Value.ref 249, Value.none, Value.ref 250, Value.ref 251, Value.ref 252, Value.int 495 0, Value.int 153 0, Value.str (Str.ofString "/claim/cut.py") 496] }),
(254, { cls := Value.type "function", data := Data.func { name := Str.ofString "walk", qualname := Str.ofString "Steps.walk", params := Mine.fnArgs (Mine.stIn 19 4), body := FuncBody.stmts (Mine.fnBody (Mine.stIn 19 4)), scope := Mine.fnScope (Mine.stIn 19 4), globals := 3, closure := [], defaults := Value.none, kwdefaults := Value.none, pyModule := Value.str (Str.ofString "alikeheap.papers") 328, code := Value.ref 253 } }),
(255, { cls := Value.type "tuple", data := Data.seq #[] }),
(257, { cls := Value.type "tuple", data := Data.seq #[Value.str (Str.ofString "self") 501, Value.str (Str.ofString "term") 502, Value.str (Str.ofString "steps") 503] }),
(258, { cls := Value.type "tuple", data := Data.seq #[] }),
(260, { cls := Value.type "code", data := Data.fields #[Value.str (Str.ofString "paper_of") 498, Value.str (Str.ofString "Steps.paper_of") 499, Value.str (Str.ofString "/claim/cut.py") 500, Value.int 156 0, Value.int 3 0, Value.int 0 0, Value.int 0 0, Value.int 3 0, Value.ref 255, Value.bool Bool.true, Value.int 181 0, Value.ref 256, Value.none, Value.ref 257, Value.ref 258, Value.ref 259, Value.int 504 0, Value.int 156 0, Value.str (Str.ofString "/claim/cut.py") 505] }),
(261, { cls := Value.type "function", data := Data.func { name := Str.ofString "paper_of", qualname := Str.ofString "Steps.paper_of", params := Mine.fnArgs (Mine.stIn 19 5), body := FuncBody.stmts (Mine.fnBody (Mine.stIn 19 5)), scope := Mine.fnScope (Mine.stIn 19 5), globals := 3, closure := [], defaults := Value.none, kwdefaults := Value.none, pyModule := Value.str (Str.ofString "alikeheap.papers") 328, code := Value.ref 260 } }),
(262, { cls := Value.type "tuple", data := Data.seq #[Value.str (Str.ofString "judge") 507] }),
(263, { cls := Value.type "dict", data := Data.dict #[{ hash := PyData.keyHash P (Str.ofString "__module__"), key := Value.str (Str.ofString "__module__") 448, val := Value.str (Str.ofString "alikeheap.papers") 328 }, { hash := PyData.keyHash P (Str.ofString "__firstlineno__"), key := Value.str (Str.ofString "__firstlineno__") 452, val := Value.int 133 451 }, { hash := PyData.keyHash P (Str.ofString "__init__"), key := Value.str (Str.ofString "__init__") 460, val := Value.ref 226 }, { hash := PyData.keyHash P (Str.ofString "of_paper"), key := Value.str (Str.ofString "of_paper") 468, val := Value.ref 233 }, { hash := PyData.keyHash P (Str.ofString "sides"), key := Value.str (Str.ofString "sides") 478, val := Value.ref 240 }, { hash := PyData.keyHash P (Str.ofString "stepped"), key := Value.str (Str.ofString "stepped") 488, val := Value.ref 247 }, { hash := PyData.keyHash P (Str.ofString "walk"), key := Value.str (Str.ofString "walk") 497, val := Value.ref 254 }, { hash := PyData.keyHash P (Str.ofString "paper_of"), key := Value.str (Str.ofString "paper_of") 506, val := Value.ref 261 }, { hash := PyData.keyHash P (Str.ofString "__static_attributes__"), key := Value.str (Str.ofString "__static_attributes__") 508, val := Value.ref 262 }, { hash := PyData.keyHash P (Str.ofString "__dict__"), key := Value.str (Str.ofString "__dict__") 510, val := Value.ref 265 }, { hash := PyData.keyHash P (Str.ofString "__weakref__"), key := Value.str (Str.ofString "__weakref__") 512, val := Value.ref 266 }, { hash := PyData.keyHash P (Str.ofString "__doc__"), key := Value.str (Str.ofString "__doc__") 513, val := Value.none }] 4 }),
(264, { cls := Value.type "type", data := Data.cls { name := Str.ofString "Steps", bases := [Value.type "object"], mro := [Value.ref 264, Value.type "object"], ns := 263, qualname := Str.ofString "Steps" }, slots := #[Option.none, Option.none, Option.some (Value.str (Str.ofString "Steps") 441), Option.some (Value.str (Str.ofString "Steps") 449), Option.some (Value.builtin "object.__new__"), Option.some (Value.bool Bool.true)] }),
(265, { cls := Value.type "getset_descriptor", data := Data.fields #[Value.str (Str.ofString "__dict__") 509, Value.ref 264, Value.builtin "function.__dict__", Value.builtin "function.__dict__#set"] }),
(266, { cls := Value.type "getset_descriptor", data := Data.fields #[Value.str (Str.ofString "__weakref__") 511, Value.ref 264, Value.builtin "ExceptionGroup.__weakref__", Value.none] }),
(276, { cls := Value.type "tuple", data := Data.seq #[] }),
(279, { cls := Value.type "code", data := Data.fields #[Value.str (Str.ofString "__init__") 530, Value.str (Str.ofString "Rule.__init__") 531, Value.str (Str.ofString "/claim/cut.py") 532, Value.int 161 0, Value.int 5 0, Value.int 0 0, Value.int 0 0, Value.int 3 0, Value.ref 276, Value.bool Bool.true, Value.int 181 0, Value.ref 277, Value.none, Value.none, Value.none, Value.ref 278, Value.int 533 0, Value.int 161 0, Value.str (Str.ofString "/claim/cut.py") 534] }),
(280, { cls := Value.type "function", data := Data.func { name := Str.ofString "__init__", qualname := Str.ofString "Rule.__init__", params := Mine.fnArgs (Mine.stIn 21 0), body := FuncBody.stmts (Mine.fnBody (Mine.stIn 21 0)), scope := Mine.fnScope (Mine.stIn 21 0), globals := 3, closure := [], defaults := Value.none, kwdefaults := Value.none, pyModule := Value.str (Str.ofString "alikeheap.rules") 516, code := Value.ref 279 } }),
(281, { cls := Value.type "tuple", data := Data.seq #[] }),
(283, { cls := Value.type "tuple", data := Data.seq #[Value.str (Str.ofString "self") 539] }),
(284, { cls := Value.type "tuple", data := Data.seq #[] }),
(286, { cls := Value.type "code", data := Data.fields #[Value.str (Str.ofString "turned") 536, Value.str (Str.ofString "Rule.turned") 537, Value.str (Str.ofString "/claim/cut.py") 538, Value.int 177 0, Value.int 1 0, Value.int 0 0, Value.int 0 0, Value.int 3 0, Value.ref 281, Value.bool Bool.true, Value.int 181 0, Value.ref 282, Value.none, Value.ref 283, Value.ref 284, Value.ref 285, Value.int 540 0, Value.int 177 0, Value.str (Str.ofString "/claim/cut.py") 541] }),
(287, { cls := Value.type "function", data := Data.func { name := Str.ofString "turned", qualname := Str.ofString "Rule.turned", params := Mine.fnArgs (Mine.stIn 21 1), body := FuncBody.stmts (Mine.fnBody (Mine.stIn 21 1)), scope := Mine.fnScope (Mine.stIn 21 1), globals := 3, closure := [], defaults := Value.none, kwdefaults := Value.none, pyModule := Value.str (Str.ofString "alikeheap.rules") 516, code := Value.ref 286 } }),
(288, { cls := Value.type "tuple", data := Data.seq #[Value.str (Str.ofString "left") 543, Value.str (Str.ofString "name") 544, Value.str (Str.ofString "needs") 545, Value.str (Str.ofString "right") 546] }),
(289, { cls := Value.type "dict", data := Data.dict #[{ hash := PyData.keyHash P (Str.ofString "__module__"), key := Value.str (Str.ofString "__module__") 525, val := Value.str (Str.ofString "alikeheap.rules") 516 }, { hash := PyData.keyHash P (Str.ofString "__firstlineno__"), key := Value.str (Str.ofString "__firstlineno__") 529, val := Value.int 159 528 }, { hash := PyData.keyHash P (Str.ofString "__init__"), key := Value.str (Str.ofString "__init__") 535, val := Value.ref 280 }, { hash := PyData.keyHash P (Str.ofString "turned"), key := Value.str (Str.ofString "turned") 542, val := Value.ref 287 }, { hash := PyData.keyHash P (Str.ofString "__static_attributes__"), key := Value.str (Str.ofString "__static_attributes__") 547, val := Value.ref 288 }, { hash := PyData.keyHash P (Str.ofString "__dict__"), key := Value.str (Str.ofString "__dict__") 549, val := Value.ref 291 }, { hash := PyData.keyHash P (Str.ofString "__weakref__"), key := Value.str (Str.ofString "__weakref__") 551, val := Value.ref 292 }, { hash := PyData.keyHash P (Str.ofString "__doc__"), key := Value.str (Str.ofString "__doc__") 552, val := Value.none }] 4 }),
(290, { cls := Value.type "type", data := Data.cls { name := Str.ofString "Rule", bases := [Value.type "object"], mro := [Value.ref 290, Value.type "object"], ns := 289, qualname := Str.ofString "Rule" }, slots := #[Option.none, Option.none, Option.some (Value.str (Str.ofString "Rule") 518), Option.some (Value.str (Str.ofString "Rule") 526), Option.some (Value.builtin "object.__new__"), Option.some (Value.bool Bool.true)] }),
(291, { cls := Value.type "getset_descriptor", data := Data.fields #[Value.str (Str.ofString "__dict__") 548, Value.ref 290, Value.builtin "function.__dict__", Value.builtin "function.__dict__#set"] }),
(292, { cls := Value.type "getset_descriptor", data := Data.fields #[Value.str (Str.ofString "__weakref__") 550, Value.ref 290, Value.builtin "ExceptionGroup.__weakref__", Value.none] }),
(295, { cls := Value.type "tuple", data := Data.seq #[Value.str (Str.ofString "a") 557] }),
(296, { cls := Value.type "tuple", data := Data.seq #[Value.str (Str.ofString "b") 559] }),
(297, { cls := Value.type "tuple", data := Data.seq #[Value.str (Str.ofString "f") 558, Value.ref 296] }),
(298, { cls := Value.type "tuple", data := Data.seq #[Value.str (Str.ofString "a") 561] }),
(299, { cls := Value.type "tuple", data := Data.seq #[Value.str (Str.ofString "a") 563] }),
(300, { cls := Value.type "tuple", data := Data.seq #[Value.str (Str.ofString "f") 562, Value.ref 299] }),
(301, { cls := Value.type "tuple", data := Data.seq #[Value.str (Str.ofString "g") 560, Value.ref 298, Value.ref 300] }),
(302, { cls := Value.type "tuple", data := Data.seq #[Value.str (Str.ofString "b") 565] }),
(303, { cls := Value.type "tuple", data := Data.seq #[Value.str (Str.ofString "h") 564, Value.ref 302] }),
(304, { cls := Value.type "tuple", data := Data.seq #[Value.ref 295, Value.ref 297, Value.ref 301, Value.ref 303] }),
(305, { cls := Value.type "tuple", data := Data.seq #[] }),
(307, { cls := Value.type "tuple", data := Data.seq #[] }),
(308, { cls := Value.type "tuple", data := Data.seq #[] }),
(310, { cls := Value.type "code", data := Data.fields #[Value.str (Str.ofString "_law_known") 567, Value.str (Str.ofString "_law_known") 568, Value.str (Str.ofString "/claim/cut.py") 569, Value.int 181 0, Value.int 0 0, Value.int 0 0, Value.int 0 0, Value.int 3 0, Value.ref 305, Value.bool Bool.true, Value.int 181 0, Value.ref 306, Value.none, Value.ref 307, Value.ref 308, Value.ref 309, Value.int 570 0, Value.int 181 0, Value.str (Str.ofString "/claim/cut.py") 571] }),
(311, { cls := Value.type "function", data := Data.func { name := Str.ofString "_law_known", qualname := Str.ofString "_law_known", params := Mine.fnArgs (Mine.stAt 24), body := FuncBody.stmts (Mine.fnBody (Mine.stAt 24)), scope := Mine.fnScope (Mine.stAt 24), globals := 3, closure := [], defaults := Value.none, kwdefaults := Value.none, pyModule := Value.str (Str.ofString "law_pq0055_01") 555, code := Value.ref 310 } }),
(312, { cls := Value.type "tuple", data := Data.seq #[] }),
(314, { cls := Value.type "tuple", data := Data.seq #[] }),
(315, { cls := Value.type "tuple", data := Data.seq #[] }),
(317, { cls := Value.type "code", data := Data.fields #[Value.str (Str.ofString "_law_rules") 573, Value.str (Str.ofString "_law_rules") 574, Value.str (Str.ofString "/claim/cut.py") 575, Value.int 183 0, Value.int 0 0, Value.int 0 0, Value.int 0 0, Value.int 3 0, Value.ref 312, Value.bool Bool.true, Value.int 181 0, Value.ref 313, Value.none, Value.ref 314, Value.ref 315, Value.ref 316, Value.int 576 0, Value.int 183 0, Value.str (Str.ofString "/claim/cut.py") 577] }),
(318, { cls := Value.type "function", data := Data.func { name := Str.ofString "_law_rules", qualname := Str.ofString "_law_rules", params := Mine.fnArgs (Mine.stAt 25), body := FuncBody.stmts (Mine.fnBody (Mine.stAt 25)), scope := Mine.fnScope (Mine.stAt 25), globals := 3, closure := [], defaults := Value.none, kwdefaults := Value.none, pyModule := Value.str (Str.ofString "law_pq0055_01") 555, code := Value.ref 317 } }),
(319, { cls := Value.type "dict", data := Data.dict #[{ hash := PyData.keyHash P (Str.ofString "swap"), key := Value.str (Str.ofString "swap") 579, val := Value.ref 320 }, { hash := PyData.keyHash P (Str.ofString "alone"), key := Value.str (Str.ofString "alone") 582, val := Value.ref 321 }, { hash := PyData.keyHash P (Str.ofString "twice"), key := Value.str (Str.ofString "twice") 584, val := Value.ref 322 }, { hash := PyData.keyHash P (Str.ofString "plain"), key := Value.str (Str.ofString "plain") 586, val := Value.ref 323 }] 4 }),
(320, { cls := Value.type "list", data := Data.seq #[Value.str (Str.ofString "?x") 580, Value.str (Str.ofString "?y") 581] }),
(321, { cls := Value.type "list", data := Data.seq #[Value.str (Str.ofString "?x") 583] }),
(322, { cls := Value.type "list", data := Data.seq #[Value.str (Str.ofString "?x") 585] }),
(323, { cls := Value.type "list", data := Data.seq #[] }),
(324, { cls := Value.type "tuple", data := Data.seq #[] }),
(326, { cls := Value.type "tuple", data := Data.seq #[Value.str (Str.ofString "feed") 595, Value.str (Str.ofString "wide") 596, Value.str (Str.ofString "cells") 597, Value.str (Str.ofString "spot") 598] }),
(327, { cls := Value.type "tuple", data := Data.seq #[] }),
(329, { cls := Value.type "code", data := Data.fields #[Value.str (Str.ofString "_law_draw") 592, Value.str (Str.ofString "_law_draw") 593, Value.str (Str.ofString "/claim/cut.py") 594, Value.int 186 0, Value.int 2 0, Value.int 0 0, Value.int 0 0, Value.int 3 0, Value.ref 324, Value.bool Bool.true, Value.int 181 0, Value.ref 325, Value.none, Value.ref 326, Value.ref 327, Value.ref 328, Value.int 599 0, Value.int 186 0, Value.str (Str.ofString "/claim/cut.py") 600] }),
(330, { cls := Value.type "function", data := Data.func { name := Str.ofString "_law_draw", qualname := Str.ofString "_law_draw", params := Mine.fnArgs (Mine.stAt 27), body := FuncBody.stmts (Mine.fnBody (Mine.stAt 27)), scope := Mine.fnScope (Mine.stAt 27), globals := 3, closure := [], defaults := Value.none, kwdefaults := Value.none, pyModule := Value.str (Str.ofString "law_pq0055_01") 555, code := Value.ref 329 } }),
(331, { cls := Value.type "tuple", data := Data.seq #[] }),
(333, { cls := Value.type "tuple", data := Data.seq #[Value.str (Str.ofString "feed") 605, Value.str (Str.ofString "places") 606, Value.str (Str.ofString "way") 607] }),
(334, { cls := Value.type "tuple", data := Data.seq #[] }),
(336, { cls := Value.type "code", data := Data.fields #[Value.str (Str.ofString "_law_bent") 602, Value.str (Str.ofString "_law_bent") 603, Value.str (Str.ofString "/claim/cut.py") 604, Value.int 192 0, Value.int 2 0, Value.int 0 0, Value.int 0 0, Value.int 3 0, Value.ref 331, Value.bool Bool.true, Value.int 181 0, Value.ref 332, Value.none, Value.ref 333, Value.ref 334, Value.ref 335, Value.int 608 0, Value.int 192 0, Value.str (Str.ofString "/claim/cut.py") 609] }),
(337, { cls := Value.type "function", data := Data.func { name := Str.ofString "_law_bent", qualname := Str.ofString "_law_bent", params := Mine.fnArgs (Mine.stAt 28), body := FuncBody.stmts (Mine.fnBody (Mine.stAt 28)), scope := Mine.fnScope (Mine.stAt 28), globals := 3, closure := [], defaults := Value.none, kwdefaults := Value.none, pyModule := Value.str (Str.ofString "law_pq0055_01") 555, code := Value.ref 336 } }),
(338, { cls := Value.type "tuple", data := Data.seq #[] }),
(341, { cls := Value.type "code", data := Data.fields #[Value.str (Str.ofString "_law_step") 611, Value.str (Str.ofString "_law_step") 612, Value.str (Str.ofString "/claim/cut.py") 613, Value.int 203 0, Value.int 1 0, Value.int 0 0, Value.int 0 0, Value.int 3 0, Value.ref 338, Value.bool Bool.true, Value.int 181 0, Value.ref 339, Value.none, Value.none, Value.none, Value.ref 340, Value.int 614 0, Value.int 203 0, Value.str (Str.ofString "/claim/cut.py") 615] }),
(342, { cls := Value.type "function", data := Data.func { name := Str.ofString "_law_step", qualname := Str.ofString "_law_step", params := Mine.fnArgs (Mine.stAt 29), body := FuncBody.stmts (Mine.fnBody (Mine.stAt 29)), scope := Mine.fnScope (Mine.stAt 29), globals := 3, closure := [], defaults := Value.none, kwdefaults := Value.none, pyModule := Value.str (Str.ofString "law_pq0055_01") 555, code := Value.ref 341 } }),
(343, { cls := Value.type "tuple", data := Data.seq #[] }),
(346, { cls := Value.type "code", data := Data.fields #[Value.str (Str.ofString "_law_put") 617, Value.str (Str.ofString "_law_put") 618, Value.str (Str.ofString "/claim/cut.py") 619, Value.int 215 0, Value.int 2 0, Value.int 0 0, Value.int 0 0, Value.int 3 0, Value.ref 343, Value.bool Bool.true, Value.int 181 0, Value.ref 344, Value.none, Value.none, Value.none, Value.ref 345, Value.int 620 0, Value.int 215 0, Value.str (Str.ofString "/claim/cut.py") 621] }),
(347, { cls := Value.type "function", data := Data.func { name := Str.ofString "_law_put", qualname := Str.ofString "_law_put", params := Mine.fnArgs (Mine.stAt 30), body := FuncBody.stmts (Mine.fnBody (Mine.stAt 30)), scope := Mine.fnScope (Mine.stAt 30), globals := 3, closure := [], defaults := Value.none, kwdefaults := Value.none, pyModule := Value.str (Str.ofString "law_pq0055_01") 555, code := Value.ref 346 } }),
(348, { cls := Value.type "tuple", data := Data.seq #[] }),
(351, { cls := Value.type "code", data := Data.fields #[Value.str (Str.ofString "_law_due") 623, Value.str (Str.ofString "_law_due") 624, Value.str (Str.ofString "/claim/cut.py") 625, Value.int 219 0, Value.int 1 0, Value.int 0 0, Value.int 0 0, Value.int 3 0, Value.ref 348, Value.bool Bool.true, Value.int 181 0, Value.ref 349, Value.none, Value.none, Value.none, Value.ref 350, Value.int 626 0, Value.int 219 0, Value.str (Str.ofString "/claim/cut.py") 627] }),
(352, { cls := Value.type "function", data := Data.func { name := Str.ofString "_law_due", qualname := Str.ofString "_law_due", params := Mine.fnArgs (Mine.stAt 31), body := FuncBody.stmts (Mine.fnBody (Mine.stAt 31)), scope := Mine.fnScope (Mine.stAt 31), globals := 3, closure := [], defaults := Value.none, kwdefaults := Value.none, pyModule := Value.str (Str.ofString "law_pq0055_01") 555, code := Value.ref 351 } }),
(353, { cls := Value.type "tuple", data := Data.seq #[] }),
(355, { cls := Value.type "tuple", data := Data.seq #[Value.str (Str.ofString "made") 632, Value.str (Str.ofString "step") 633, Value.str (Str.ofString "number") 634, Value.str (Str.ofString "fault") 635] }),
(356, { cls := Value.type "tuple", data := Data.seq #[] }),
(358, { cls := Value.type "code", data := Data.fields #[Value.str (Str.ofString "_law_heard") 629, Value.str (Str.ofString "_law_heard") 630, Value.str (Str.ofString "/claim/cut.py") 631, Value.int 228 0, Value.int 3 0, Value.int 0 0, Value.int 0 0, Value.int 3 0, Value.ref 353, Value.bool Bool.true, Value.int 181 0, Value.ref 354, Value.none, Value.ref 355, Value.ref 356, Value.ref 357, Value.int 636 0, Value.int 228 0, Value.str (Str.ofString "/claim/cut.py") 637] }),
(359, { cls := Value.type "function", data := Data.func { name := Str.ofString "_law_heard", qualname := Str.ofString "_law_heard", params := Mine.fnArgs (Mine.stAt 32), body := FuncBody.stmts (Mine.fnBody (Mine.stAt 32)), scope := Mine.fnScope (Mine.stAt 32), globals := 3, closure := [], defaults := Value.none, kwdefaults := Value.none, pyModule := Value.str (Str.ofString "law_pq0055_01") 555, code := Value.ref 358 } }),
(360, { cls := Value.type "tuple", data := Data.seq #[] }),
(363, { cls := Value.type "code", data := Data.fields #[Value.str (Str.ofString "law") 639, Value.str (Str.ofString "law") 640, Value.str (Str.ofString "/claim/cut.py") 641, Value.int 233 0, Value.int 1 0, Value.int 0 0, Value.int 0 0, Value.int 3 0, Value.ref 360, Value.bool Bool.true, Value.int 181 0, Value.ref 361, Value.none, Value.none, Value.none, Value.ref 362, Value.int 642 0, Value.int 233 0, Value.str (Str.ofString "/claim/cut.py") 643] }),
(364, { cls := Value.type "function", data := Data.func { name := Str.ofString "law", qualname := Str.ofString "law", params := Mine.fnArgs (Mine.stAt 33), body := FuncBody.stmts (Mine.fnBody (Mine.stAt 33)), scope := Mine.fnScope (Mine.stAt 33), globals := 3, closure := [], defaults := Value.none, kwdefaults := Value.none, pyModule := Value.str (Str.ofString "law_pq0055_01") 555, code := Value.ref 363 } })]
end Mine

open Mine
set_option compiler.extract_closed false
local macro_rules | `(tactic| walk_at "mem") => `(tactic| with_reducible ((repeat (first | exact List.mem_cons_self | refine List.mem_cons_of_mem _ ?_)); done))
local macro_rules | `(tactic| walk_at "put") => `(tactic| with_reducible ((repeat (first | exact Put.here | apply Put.there)); done))
local macro_rules | `(tactic| walk_at "K") => `(tactic| (rename Gs _ _ _ => H0; rw [H0.hc]; rfl))
local macro_rules | `(tactic| walk_at "le") => `(tactic| first | exact Nat.le_of_ble_eq_true rfl | omega | (simp; done) | (simp; omega) | (simp at *; omega))
local macro_rules | `(tactic| walk_at "ok") => `(tactic| first | decide +kernel | assumption)
local macro_rules | `(tactic| walk_at "glob") => `(tactic| (with_reducible refine' Gs.mg (by assumption) ?m; (case m => walk_at "mem")))
local macro_rules | `(tactic| walk_at "takes") => `(tactic| with_reducible ((repeat (first | exact Put.here | apply Put.there | exact TakesL.nil | apply Takes.name | apply Takes.tup | apply TakesL.cons)); done))
local macro_rules | `(tactic| walk_at "binds") => `(tactic| first | exact Binds.nil | ((refine' Binds.cons ?p ?q); (case p => walk_at "put"); (case q => walk_at "binds")))
local macro_rules | `(tactic| walk_at "sig") => `(tactic| first | assumption | exact upd_same _ _ _ | (refine upd_keep (by assumption) ?_; walk_at "sig") | (refine upd_keepN (by assumption) ?_; walk_at "sig"))
local macro_rules | `(tactic| walk_at "dr") => `(tactic| first | walk_at "sig" | exact Or.inl (by walk_at "sig"))
local macro_rules | `(tactic| walk_at "all") => `(tactic| (first | with_reducible exact all_nil | ((with_reducible refine all_cons ?_ ?_) <;> try walk_at "all")))
local macro_rules | `(tactic| walk_at "key") => `(tactic| first | exact KeyP.loc rfl | ((refine KeyP.cap ?m rfl rfl rfl rfl); (case m => walk_at "mem")))
local macro_rules | `(tactic| walk_at "alld") => `(tactic| (first | exact all_nil | ((refine all_cons ?_ ?_) <;> try walk_at "alld")))
local macro_rules | `(tactic| walk_at "cx") => `(tactic| (
  (refine CompX.of ?k1 ?k2 ?k3 ?k4 ?k5 ?k6 ?k7 ?k8 ?k9)
  (case k1 => rfl)
  (case k2 => rfl)
  (case k3 => rfl)
  (case k4 => rfl)
  (case k5 => (walk_at "all" <;> rfl))
  (case k6 => simp)
  (case k7 => exact of_decide_eq_true rfl)
  (case k8 => (walk_at "all" <;> walk_at "key"))
  (case k9 => (walk_at "alld" <;> rfl))))
local macro_rules | `(tactic| walk_at "v") => `(tactic| ((with_reducible first | refine G_v0 ?a ?d | refine G_v1 ?a ?d | refine G_v2 ?a ?d | refine G_v3 ?a ?d | refine G_v4 ?a ?d | refine G_v5 ?a ?d | refine G_v6 ?a ?d | refine G_v7 ?a ?d | refine G_v8 ?a ?d | refine G_v9 ?a ?d | refine G_v10 ?a ?d ); (case d => decide)))
local macro_rules | `(tactic| walk_at "p") => `(tactic| (with_reducible first | refine exP1 ?_ | refine exP2 ?_ | refine exP3 ?_ | refine exP4 ?_ | refine exP5 ?_ | refine exP6 ?_ | refine exP8 ?_ | refine exP10 ?_ ))
local macro_rules | `(tactic| walk_at "g") => `(tactic| first
  | ((with_reducible refine S_consK ?_); intro _ _ _)
  | (with_reducible first | refine S_nil ?_ | refine S_ret ?_ | refine S_if ?_ | refine G_int ?_ | refine G_none ?_ | refine G_bool ?_ | refine G_tuple ?_ | refine G_list ?_ | refine G_args_nil ?_ | refine G_pairs_nil ?_ | refine G_pairs_cons ?_ | refine G_bin ?_ | refine T_and ?_ | refine T_and_nil ?_ | refine T_not2 ?_ | refine G_ifexp ?_ | refine G_not ?_ | refine G_and2 ?_ | refine G_neg ?_ | refine CI_enum ?_ | refine G_slice ?_ | refine Pt_none ?_ | refine Pt_some ?_ | refine G_sub ?_ | refine O_add ?_ | refine O_lt ?_ | refine O_eqS ?_ | refine O_eqI ?_ | refine B_int ?_ | refine B_tuple_tup ?_ | refine Sl_last0 ?_ | refine CompT_nil ?_ | refine CompT_one ?_ | refine O_isN ?_ | refine O_isNt ?_ | refine O_neII ?_ | refine I_t0 ?_ | refine I_t1 ?_ | refine I_t2 ?_ | refine I_t3 ?_ | refine I_t4 ?_)
  | ((with_reducible first | refine S_assign ?a ?b | refine S_setattr ?a ?b | refine S_dictset ?a ?b | refine G_args_cons ?a ?b); (case b => rfl))
  | ((with_reducible first | refine' S_expr ?a ?b ?c | refine' IG_call ?a ?b ?c | refine' G_meth ?a ?b ?c | refine' G_call ?a ?b ?c); (case b => rfl); (case c => rfl))
  | ((with_reducible first | refine G_cmp ?a ?b | refine T_cmp ?a ?b | refine G_attr ?a ?b); (case b => with_unfolding_all rfl))
  | walk_at "v"
  | ((with_reducible refine' G_glob ?m ?a ?k ?d); (case m => walk_at "glob"); (case k => rfl); (case d => decide))
  | ((with_reducible refine' G_builtin ?m ?e ?a ?n ?k ?d); (case m => walk_at "glob"); (case e => ((with_reducible refine' bt_ok ?bm); (case bm => walk_at "mem"))); (case n => decide); (case k => rfl); (case d => decide))
  | ((with_reducible refine G_str ?a ?b); (case b => walk_at "ok"))
  | ((with_reducible first | refine S_assign_swap2 ?b ?a ?c ?d | refine S_assign_tup ?b ?a ?c ?d); (case b => rfl); (case c => rfl); (case d => rfl))
  | ((with_reducible refine G_dict ?a ?b ?c ?d ?e); (case a => rfl); (case b => rfl); (case c => exact List.cons_ne_nil _ _); (case d => exact Nat.le_of_ble_eq_true rfl))
  | ((with_reducible refine T_plain ?a ?b); (case b => rfl))
  | (with_reducible refine ⟨_, rfl, ?_⟩)
  | ((with_reducible first | refine' exD ?s ?a | refine' exM_extend ?s ?a | refine' exM_get ?s ?a | refine' exM_items ?s ?a | refine' O_in ?a ?s | refine' O_notIn ?a ?s); (case s => walk_at "dr"))
  | ((with_reducible first | refine' setD ?s ?z ?a | refine' B_len_list ?a ?s ?z | refine' B_tuple_list ?a ?s ?z | refine' B_list_list ?a ?s ?z); (case s => walk_at "dr"); (case z => walk_at "le"))
  | ((with_reducible first | refine O_addT ?a ?z | refine B_len_tup ?a ?z | refine Sl_rev ?z ?a | refine Sl_1 ?z ?a | refine Sl_to1 ?z ?a | refine Sl_lastA ?z ?a | refine Sl_1A ?z ?a); (case z => walk_at "le"))
  | ((with_reducible refine' exPut2 ?p ?q ?a); (case p => walk_at "put"); (case q => walk_at "put"))
  | walk_at "p"
  | ((with_reducible refine' exTakes ?p ?a); (case p => walk_at "takes"))
  | ((with_reducible refine And.intro (a := Kee _ _ _) ?k ?a); (case k => first | exact Kee.builtin | exact Kee.type | exact Kee.K (by walk_at "K")))
  | ((with_reducible refine And.intro (a := List.length _ ≤ _) ?k ?a); (case k => walk_at "le"))
  | ((with_reducible refine O_mul ?a ?b); (case b => first | exact IntMulOk.of_left (by decide) | exact IntMulOk.of_left (small_bits (by walk_at "le") (by walk_at "le")) | exact IntMulOk.of_right (small_bits (by walk_at "le") (by walk_at "le"))))
  | ((with_reducible refine O_mod ?a ?b); (case b => first | decide | omega))
  | ((with_reducible refine' I_dict ?a ?d ?x); (case d => walk_at "dr"); (case x => rfl))
  | ((with_reducible refine' I_tup ?a ?b ?x ?k); (case b => rfl); (case x => rfl); (case k => decide))
  | walk_at "k1"
)
local macro_rules | `(tactic| walk_at "k1") => `(tactic| ((with_reducible first | refine' KR.use ?h ?a | refine' KN.use ?h ?a); (case h => assumption)))
local macro_rules | `(tactic| walk_at "k") => `(tactic| repeat (walk_at "k1"))
local macro_rules | `(tactic| walk_at "gg") => `(tactic| repeat (walk_at "g"))

-- part D1
set_option maxHeartbeats 2000000
namespace Mine

noncomputable abbrev gtab : List (Str × Option Value) := [("len", none), ("sorted", none), ("set", none), ("tuple", none), ("list", none), ("dict", none), ("int", none), ("range", none), ("enumerate", none), ("super", none), ("is_variable", some (.ref 109)), ("variables", some (.ref 114)), ("placed", some (.ref 119)), ("parts", some (.ref 124)), ("PaperFault", some (.ref 100)), ("TermFault", some (.ref 60)), ("RuleFault", some (.ref 72)), ("Judge", some (.ref 208)), ("Steps", some (.ref 264)), ("Rule", some (.ref 290)), ("_law_known", some (.ref 311)), ("_law_rules", some (.ref 318)), ("_law_draw", some (.ref 330)), ("_law_bent", some (.ref 337)), ("_law_step", some (.ref 342)), ("_law_put", some (.ref 347)), ("_law_due", some (.ref 352)), ("_law_heard", some (.ref 359)), ("_law_terms", some (.ref 304)), ("_law_wanted", some (.ref 319))]
section
variable {c : Cx} {P : Params} {n : Nat} {hn : Bool} {σ : Sig} {X : Exn → Sig → Prop} {Q : V → Sig → Prop}
/-- a term -/
noncomputable abbrev tm (s : Str) (l : List V) : V := .tup (.str s :: l)
noncomputable def knownG : List (Str × V) := [("t1", .tup [tm "a" [], tm "f" [tm "b" []]]), ("t2", .tup [tm "g" [tm "a" [], tm "b" []], tm "a" []])]
theorem C_known (H : Gs c (KK P) gtab) (q : ∀ D, σ D = none → Q (.raw (.ref D)) (upd σ D (.dict knownG))) : CodeOp c ⟨n + 1, hn⟩ σ (.ref 311) [] Q X := by
  refine K_fnK H (f := 311) (params := []) (locs := []) (ρ1 := []) rfl rfl rfl rfl rfl rfl rfl rfl rfl (len0 rfl) rfl (by decide) rfl rfl ?_
  intro L
  refine S_consK ?_
  intro _ _ _
  walk_at "gg"
  refine ⟨by decide, fun D hD => ?_⟩
  walk_at "gg"
  exact ⟨_, .refl _, q D hD⟩
noncomputable def rulesG : List (Str × V) := [("swap", .tup [tm "g" [tm "?x" [], tm "?y" []], tm "g" [tm "?y" [], tm "?x" []]]), ("alone", .tup [tm "f" [tm "f" [tm "?x" []]], tm "?x" []]),
  ("twice", .tup [tm "h" [tm "?x" []], tm "g" [tm "?x" [], tm "f" [tm "?x" []]]]), ("plain", .tup [tm "k" [], tm "f" [tm "a" []]])]
theorem C_rules (H : Gs c (KK P) gtab) (q : ∀ D, σ D = none → Q (.raw (.ref D)) (upd σ D (.dict rulesG))) : CodeOp c ⟨n + 1, hn⟩ σ (.ref 318) [] Q X := by
  refine K_fnK H (f := 318) (params := []) (locs := []) (ρ1 := []) rfl rfl rfl rfl rfl rfl rfl rfl rfl (len0 rfl) rfl (by decide) rfl rfl ?_
  intro L
  refine S_consK ?_
  intro _ _ _
  walk_at "gg"
  refine ⟨by decide, fun D hD => ?_⟩
  walk_at "gg"
  exact ⟨_, .refl _, q D hD⟩
noncomputable def feedL (cl : Addr) (k : Nat) : List (Str × V) := [("cells", .raw (.ref cl)), ("spot", .int k)]
noncomputable def FeedOk (σ : Sig) (f : Addr) (m : Nat) : Prop := ∃ (cl : Addr) (cells : List Int) (k : Nat), σ f = some (.dict (feedL cl k)) ∧ σ cl = some (.list (cells.map .int)) ∧ k ≤ m ∧ cells.length ≤ 60
theorem C_draw (H : Gs c (KK P) gtab) {f : Addr} {m : Nat} {wide : Int} (F : FeedOk σ f m) (hm : m ≤ 100000) (hw : 0 < wide)
    (q : ∀ d σ', 0 ≤ d → d < wide → FeedOk σ' f (m + 1) → (∀ a, a ≠ f → σ' a = σ a) → Q (.int d) σ') : CodeOp c ⟨n + 1, true⟩ σ (.ref 330) [.raw (.ref f), .int wide] Q X := by
  obtain ⟨cl, cells, k, hf, hcl, hk, hl⟩ := F
  have hne : cl ≠ f := by rintro rfl; rw [hf] at hcl; cases hcl
  have F' : FeedOk (upd σ f (.dict (putA (feedL cl k) "spot" (.int ((k : Int) + 1))))) f (m + 1) := ⟨cl, cells, k + 1, upd_same _ _ _, by rw [upd_ne _ _ hne]; exact hcl, by omega, hl⟩
  have K' : ∀ a, a ≠ f → (upd σ f (.dict (putA (feedL cl k) "spot" (.int ((k : Int) + 1))))) a = σ a := fun a ha => upd_ne _ _ ha
  refine K_fnK H (f := 330) (params := [("feed" : Str), ("wide" : Str)]) (locs := [("cells" : Str), ("spot" : Str)]) (ρ1 := [(("feed" : Str), some (.raw (.ref f))), (("wide" : Str), some (.int wide)), (("cells" : Str), none), (("spot" : Str), none)]) rfl rfl rfl rfl rfl rfl rfl rfl rfl (len2 fun _ _ => rfl) rfl (by decide) rfl rfl ?_
  intro L
  refine S_consK ?_
  intro _ _ _
  walk_at "gg"
  split
  · rename_i hb
    walk_at "gg"
    simp only [List.length_map, decide_eq_true_eq] at hb
    have hk' : k < cells.length := by omega
    refine I_list (v := .int (cells[k])) ?_ (by walk_at "sig") (by simp [hk']) ⟨by omega, by omega⟩
    walk_at "gg"
    exact ⟨_, .refl _, q _ _ (Int.fmod_nonneg_of_pos _ hw) (Int.fmod_lt_of_pos _ hw) F' K'⟩
  · walk_at "gg"
    exact ⟨_, .refl _, q _ _ (Int.fmod_nonneg_of_pos _ hw) (Int.fmod_lt_of_pos _ hw) F' K'⟩
end
end Mine

-- part D3
set_option maxHeartbeats 2000000
namespace Mine

/-- terms -/
inductive Tm where
  | mk (s : Str) (ks : List Tm)
mutual
noncomputable def Tm.v : Tm → V
  | .mk s ks => .tup (.str s :: Tm.vs ks)
noncomputable def Tm.vs : List Tm → List V
  | [] => []
  | t :: ts => t.v :: Tm.vs ts
end
mutual
noncomputable def Tm.sz : Tm → Nat
  | .mk _ ks => 1 + Tm.szs ks
noncomputable def Tm.szs : List Tm → Nat
  | [] => 0
  | t :: ts => t.sz + Tm.szs ts
end
mutual
noncomputable def Tm.ht : Tm → Nat
  | .mk _ ks => 1 + Tm.hts ks
noncomputable def Tm.hts : List Tm → Nat
  | [] => 0
  | t :: ts => max t.ht (Tm.hts ts)
end
noncomputable def nameOk (s : Str) : Prop := okS s ∧ okS (Txt.slice s none (some 1))
mutual
noncomputable def Tm.ok : Tm → Prop
  | .mk s ks => nameOk s ∧ Tm.oks ks
noncomputable def Tm.oks : List Tm → Prop
  | [] => True
  | t :: ts => t.ok ∧ Tm.oks ts
end
noncomputable def Tm.hd : Tm → Str
  | .mk s _ => s
noncomputable def Tm.kids : Tm → List Tm
  | .mk _ ks => ks
noncomputable def qm (s : Str) : Bool := decide (Txt.slice s none (some 1) = "?")
noncomputable def Tm.isVar : Tm → Bool
  | .mk s ks => decide (ks.length = 0) && qm s
mutual
noncomputable def partsT : Tm → List (List Nat × Tm)
  | .mk s ks => ([], .mk s ks) :: partsTs 0 ks
noncomputable def partsTs : Nat → List Tm → List (List Nat × Tm)
  | _, [] => []
  | k, t :: ts => (partsT t).map (fun p => (k :: p.1, p.2)) ++ partsTs (k + 1) ts
end
theorem Tm.vs_length : ∀ l : List Tm, (Tm.vs l).length = l.length
  | [] => rfl
  | t :: ts => by simp [Tm.vs, Tm.vs_length ts]
theorem Tm.vs_map : ∀ l : List Tm, Tm.vs l = l.map Tm.v
  | [] => rfl
  | t :: ts => by simp [Tm.vs, Tm.vs_map ts]
noncomputable abbrev pathV (p : List Nat) : V := .tup (p.map fun (k : Nat) => .int k)
noncomputable abbrev ppV (p : List Nat × Tm) : V := .tup [pathV p.1, p.2.v]
mutual
theorem partsT_length : ∀ t : Tm, (partsT t).length = t.sz
  | .mk s ks => by simp only [partsT, Tm.sz, List.length_cons, partsTs_length 0 ks]; omega
theorem partsTs_length : ∀ (k : Nat) (l : List Tm), (partsTs k l).length = Tm.szs l
  | _, [] => rfl
  | k, t :: ts => by simp only [partsTs, Tm.szs, List.length_append, List.length_map, partsT_length t, partsTs_length (k + 1) ts]
end
theorem szs_ge : ∀ l : List Tm, l.length ≤ Tm.szs l
  | [] => Nat.le_refl _
  | .mk s ks :: ts => by have := szs_ge ts; simp only [List.length_cons, Tm.szs, Tm.sz]; omega
section
variable {c : Cx} {P : Params} {n : Nat} {hn : Bool} {σ : Sig} {X : Exn → Sig → Prop} {Q : V → Sig → Prop}
theorem C_isvar (H : Gs c (KK P) gtab) {t : Tm} (ht : t.sz ≤ 1000) (hs : nameOk t.hd) (q : Q (.bool t.isVar) σ) : CodeOp c ⟨n + 1, hn⟩ σ (.ref 109) [t.v] Q X := by
  obtain ⟨s, ks⟩ := t
  have hz : (Tm.vs ks).length ≤ 1000 := by have := szs_ge ks; rw [Tm.vs_length]; simp only [Tm.sz] at ht; omega
  refine K_fnK H (f := 109) (params := [("t" : Str)]) (locs := []) (ρ1 := [(("t" : Str), some (.tup (.str s :: Tm.vs ks)))]) rfl rfl rfl rfl rfl rfl rfl rfl rfl (len1 fun _ => rfl) rfl (by decide) rfl rfl ?_
  intro L
  refine S_consK ?_
  intro _ _ _
  walk_at "gg"
  split
  · rename_i h1
    walk_at "gg"
    refine Sl_str ?_ hs.2
    walk_at "gg"
    refine ⟨_, .refl _, ?_⟩
    simp only [List.length_cons, Tm.vs_length, decide_eq_true_eq] at h1
    have : ks.length = 0 := by omega
    show Q (.bool _) σ
    simpa only [Tm.isVar, this, qm, decide_true, Bool.true_and] using q
  · rename_i h1
    walk_at "k"
    refine ⟨_, .refl _, ?_⟩
    simp only [List.length_cons, Tm.vs_length, decide_eq_false_iff_not] at h1
    have : ks.length ≠ 0 := by omega
    show Q (.bool _) σ
    simpa only [Tm.isVar, this, qm, decide_false, Bool.false_and] using q
theorem szs_append : ∀ a b : List Tm, Tm.szs (a ++ b) = Tm.szs a + Tm.szs b
  | [], b => by simp [Tm.szs]
  | t :: a, b => by simp only [List.cons_append, Tm.szs, szs_append a b]; omega
theorem hts_append : ∀ a b : List Tm, Tm.hts (a ++ b) = max (Tm.hts a) (Tm.hts b)
  | [], b => by simp [Tm.hts]
  | t :: a, b => by simp only [List.cons_append, Tm.hts, hts_append a b]; exact (Nat.max_assoc ..).symm
theorem partsTs_append : ∀ (k : Nat) (a b : List Tm), partsTs k (a ++ b) = partsTs k a ++ partsTs (k + a.length) b
  | k, [], b => by simp [partsTs]
  | k, t :: a, b => by simp only [List.cons_append, partsTs, partsTs_append (k + 1) a b, List.length_cons, List.append_assoc]; congr 3; omega
mutual
theorem partsT_path : ∀ (t : Tm) (a : List Nat × Tm), a ∈ partsT t → a.1.length < t.sz
  | .mk s ks, a, h => by
    simp only [partsT, List.mem_cons, Tm.sz] at h ⊢
    rcases h with rfl | h
    · simp; omega
    · have := partsTs_path 0 ks a h; omega
theorem partsTs_path : ∀ (k : Nat) (l : List Tm) (a : List Nat × Tm), a ∈ partsTs k l → a.1.length ≤ Tm.szs l
  | _, [], a, h => by simp [partsTs] at h
  | k, t :: ts, a, h => by
    simp only [partsTs, List.mem_append, List.mem_map, Tm.szs] at h ⊢
    rcases h with ⟨p, hp, rfl⟩ | h
    · have := partsT_path t p hp; simp only [List.length_cons]; omega
    · have := partsTs_path (k + 1) ts a h; omega
end
theorem filt_true {α : Type} (l : List α) : l.filter (fun _ => true) = l := by simp
theorem C_parts (H : Gs c (KK P) gtab) : ∀ (m n : Nat) (σ : Sig) (Q : V → Sig → Prop) (X : Exn → Sig → Prop) (t : Tm), t.ht ≤ m → t.sz ≤ 1000 → (∀ D, σ D = none → Q (.raw (.ref D)) (upd σ D (.list ((partsT t).map ppV)))) → CodeOp c ⟨n + m, true⟩ σ (.ref 124) [t.v] Q X := by
  intro m
  induction m with
  | zero => intro n σ Q X t h1; obtain ⟨s, ks⟩ := t; simp only [Tm.ht] at h1; omega
  | succ m ih =>
  intro n σ Q X t h1 h2 q
  obtain ⟨s, ks⟩ := t
  have hz : (Tm.vs ks).length ≤ 1000 := by have := szs_ge ks; rw [Tm.vs_length]; simp only [Tm.sz] at h2; omega
  refine K_fnK H (f := 124) (params := [("t" : Str)]) (locs := [("found" : Str), ("k" : Str), ("kid" : Str)]) (ρ1 := [(("t" : Str), some (.tup (.str s :: Tm.vs ks))), (("found" : Str), none), (("k" : Str), none), (("kid" : Str), none)]) rfl rfl rfl rfl rfl rfl rfl rfl rfl (len1 fun _ => rfl) rfl (by decide) rfl rfl ?_
  intro L
  refine S_consK ?_
  intro _ _ _
  walk_at "gg"
  intro D hD
  walk_at "gg"
  refine S_for rfl ?_ (fun _ => rfl)
  walk_at "gg"
  refine ⟨⟨_, _, _, rfl⟩, fun l ρ1 σ1 => ∃ done rest u w, ks = done ++ rest ∧ l = enumV done.length (Tm.vs rest) ∧ ρ1 = ([("t", some (.tup (.str s :: Tm.vs ks))), ("found", some (.raw (.ref D))), ("k", u), ("kid", w)] : Rho) ∧ σ1 = upd σ D (.list ((([], .mk s ks) :: partsTs 0 done).map ppV)), ⟨[], ks, none, none, rfl, rfl, rfl, rfl⟩, ?_, ?_⟩
  · rintro v l ρ1 σ1 ⟨done, rest, u, w, e1, e2, rfl, rfl⟩
    cases rest with
    | nil => simp [Tm.vs, enumV] at e2
    | cons kid rest =>
      simp only [Tm.vs, enumV, List.cons.injEq] at e2
      obtain ⟨rfl, rfl⟩ := e2
      have hk : kid.ht ≤ m ∧ kid.sz + Tm.szs done ≤ 999 := by
        simp only [Tm.ht, Tm.sz, e1, szs_append, hts_append, Tm.szs, Tm.hts] at h1 h2; omega
      refine ⟨trivial, ?_⟩
      walk_at "gg"
      refine G_lcI (cl := [("k", L + 1)]) (ρc := [("k", some (.int (done.length : Nat))), ("path", none), ("part", none)]) rfl (by walk_at "cx") (fun _ => rfl) ?_
      refine IG_plain ?_
      walk_at "gg"
      refine (ih n _ _ _ kid hk.1 (by omega) fun D2 hD2 => ?_).call
      refine IO_list (l := (partsT kid).map ppV) (.inl (upd_same _ _ _)) ?_
      have hp : (partsT kid).length ≤ 1000 := by rw [partsT_length]; omega
      refine comp_map (partsT kid) ppV (fun p => ppV (done.length :: p.1, p.2)) (fun _ => true) trivial (.inl (upd_same _ _ _)) rfl (by omega) ?_ ?_
      · intro C a ha
        have hl : a.1.length ≤ 1000 := by have := partsT_path kid a ha; omega
        walk_at "gg"
        refine ⟨rfl, ?_⟩
        walk_at "gg"
        exact ⟨rfl, .refl _⟩
      · intro D3 hD3
        walk_at "gg"
        refine B_extend (by walk_at "sig") (by walk_at "sig") ?_ ?_
        · walk_at "k"
          refine S_forget (Sub.over (Sub.fresh (Sub.fresh (.refl _) hD2) hD3)) (S_nil ?_)
          refine ⟨done ++ [kid], rest, _, _, by rw [e1]; simp, by simp, rfl, ?_⟩
          congr 2
          simp [partsTs_append, partsTs]
          rw [filt_true]; rfl
        · simp only [List.length_map, List.length_cons, partsTs_length, filt_true, partsT_length]; omega
  · rintro ρ1 σ1 ⟨done, rest, u, w, e1, e2, rfl, rfl⟩
    have : rest = [] := by
      cases rest with
      | nil => rfl
      | cons a r => simp [Tm.vs, enumV] at e2
    subst this
    rw [List.append_nil] at e1; subst e1
    exact ⟨trivial, by walk_at "gg"; exact ⟨_, .refl _, q D hD⟩⟩
noncomputable def varsL (t : Tm) : List Str := ((partsT t).filter (fun p => p.2.isVar)).map (fun p => p.2.hd)
mutual
theorem parts_ok : ∀ (t : Tm), t.ok → ∀ a ∈ partsT t, a.2.ok ∧ a.2.sz ≤ t.sz
  | .mk s ks, h, a, ha => by
    simp only [partsT, List.mem_cons] at ha
    rcases ha with rfl | ha
    · exact ⟨h, Nat.le_refl _⟩
    · simp only [Tm.ok] at h
      have := partss_ok 0 ks h.2 a ha
      exact ⟨this.1, by simp only [Tm.sz]; omega⟩
theorem partss_ok : ∀ (k : Nat) (l : List Tm), Tm.oks l → ∀ a ∈ partsTs k l, a.2.ok ∧ a.2.sz ≤ Tm.szs l
  | _, [], _, a, ha => by simp [partsTs] at ha
  | k, t :: ts, h, a, ha => by
    simp only [partsTs, List.mem_append, List.mem_map] at ha
    simp only [Tm.oks] at h
    rcases ha with ⟨p, hp, rfl⟩ | ha
    · have := parts_ok t h.1 p hp
      exact ⟨this.1, by simp only [Tm.szs]; omega⟩
    · have := partss_ok (k + 1) ts h.2 a ha
      exact ⟨this.1, by simp only [Tm.szs]; omega⟩
end
theorem hd_ok : ∀ {t : Tm}, t.ok → nameOk t.hd
  | .mk s ks, h => by simp only [Tm.ok] at h; exact h.1
theorem ht_sz : ∀ t : Tm, t.ht ≤ t.sz
  | .mk s ks => by
    simp only [Tm.ht, Tm.sz]
    have := hts_szs ks; omega
where hts_szs : ∀ l : List Tm, Tm.hts l ≤ Tm.szs l
  | [] => Nat.le_refl _
  | t :: ts => by
    simp only [Tm.hts, Tm.szs]
    have := hts_szs ts; have := ht_sz t; omega
theorem mem_dedupS {k : Str} : ∀ {l acc : List Str}, k ∈ dedupS acc l → k ∈ acc ∨ k ∈ l
  | [], acc, h => .inl h
  | x :: l, acc, h => by
    rcases mem_dedupS (l := l) h with h | h
    · split at h
      · exact .inl h
      · rcases List.mem_append.mp h with h | h
        · exact .inl h
        · exact .inr (by simp at h; simp [h])
    · exact .inr (.tail _ h)
theorem dedupS_length : ∀ {l acc : List Str}, (dedupS acc l).length ≤ acc.length + l.length
  | [], acc => Nat.le_refl _
  | x :: l, acc => by
    refine Nat.le_trans (dedupS_length (l := l)) ?_
    split <;> simp <;> omega
theorem C_vars (H : Gs c (KK P) gtab) {t : Tm} (hk : t.ok) (hs : t.sz < 60) (q : ∀ ss, ss.Perm (dedupS [] (varsL t)) → sortedS ss = true → ∀ D, σ D = none → Q (.raw (.ref D)) (upd σ D (.list (ss.map .str)))) : CodeOp c ⟨n + 61, true⟩ σ (.ref 114) [t.v] Q X := by
  have hl : (varsL t).length < 60 := by
    unfold varsL
    have := List.length_filter_le (fun p => p.2.isVar) (partsT t)
    rw [partsT_length] at this
    rw [List.length_map]; omega
  refine K_fnK H (f := 114) (params := [("t" : Str)]) (locs := []) (ρ1 := [(("t" : Str), some (t.v))]) rfl rfl rfl rfl rfl rfl rfl rfl rfl (len1 fun _ => rfl) rfl (by decide) rfl rfl ?_
  intro L
  refine S_consK ?_
  intro _ _ _
  walk_at "gg"
  refine G_lcI (cl := []) (ρc := [("path", none), ("part", none)]) rfl (by walk_at "cx") (fun _ => rfl) ?_
  refine IG_plain ?_
  walk_at "gg"
  refine (C_parts H 60 n _ _ _ t (by have := ht_sz t; omega) (by omega) fun D2 hD2 => ?_).call
  refine IO_list (l := (partsT t).map ppV) (.inl (upd_same _ _ _)) ?_
  have hp : (partsT t).length ≤ 1000 := by rw [partsT_length]; omega
  refine comp_map (partsT t) ppV (fun p => .str p.2.hd) (fun p => p.2.isVar) trivial (.inl (upd_same _ _ _)) rfl (by omega) ?_ ?_
  · rintro C ⟨p, ⟨s, ks⟩⟩ ha
    have hok := parts_ok t hk _ ha
    walk_at "gg"
    refine (C_isvar H (t := .mk s ks) (by have := hok.2; simp only at this; omega) (hd_ok hok.1) ?_).call
    refine ⟨_, rfl, ?_⟩
    split
    · rename_i h1
      refine ⟨h1, ?_⟩
      walk_at "gg"
      refine I_t0 (l := Tm.vs ks) ?_
      exact ⟨rfl, .refl _⟩
    · rename_i h1
      exact ⟨h1, .refl _⟩
  · intro D3 hD3
    walk_at "gg"
    have e1 : (List.filter (fun p => p.2.isVar) (partsT t)).map (fun p => V.str p.2.hd) = (varsL t).map .str := by simp [varsL]
    rw [e1]
    refine B_set rfl (ss := varsL t) (.inl (upd_same _ _ _)) (fun D4 hD4 => ?_) (by omega)
    walk_at "gg"
    refine B_sorted_set rfl (upd_same _ _ _) ?_ (fun ss p1 p2 D5 hD5 => ?_) (by have := dedupS_length (l := varsL t) (acc := []); simp at this; omega)
    · intro k hk'
      rcases mem_dedupS hk' with h | h
      · simp at h
      · unfold varsL at h
        obtain ⟨a, ha, rfl⟩ := List.mem_map.mp h
        exact (hd_ok (parts_ok t hk a (List.mem_filter.mp ha).1).1).1
    · walk_at "k"
      exact ⟨_, Sub.cong (Sub.fresh (Sub.fresh (Sub.fresh (.refl _) hD2) hD3) hD4), q ss p1 p2 D5 ((Sub.fresh (Sub.fresh (Sub.fresh (.refl _) hD2) hD3) hD4).none hD5)⟩
end
end Mine

-- part D4
set_option maxHeartbeats 2000000
namespace Mine

mutual
noncomputable def fillT (tbl : List (Str × V)) : Tm → V
  | .mk s ks => if (Tm.mk s ks).isVar then (assoc tbl s).getD .none else .tup (.str s :: fillTs tbl ks)
noncomputable def fillTs (tbl : List (Str × V)) : List Tm → List V
  | [] => []
  | t :: ts => fillT tbl t :: fillTs tbl ts
end
mutual
noncomputable def Tm.cov (tbl : List (Str × V)) : Tm → Prop
  | .mk s ks => ((Tm.mk s ks).isVar = true → (assoc tbl s).isSome = true) ∧ Tm.covs tbl ks
noncomputable def Tm.covs (tbl : List (Str × V)) : List Tm → Prop
  | [] => True
  | t :: ts => t.cov tbl ∧ Tm.covs tbl ts
end
mutual
noncomputable def putT (tbl : List (Str × V)) : Tm → V
  | .mk s ks => match assoc tbl s with
    | some v => v
    | none => .tup (.str s :: putTs tbl ks)
noncomputable def putTs (tbl : List (Str × V)) : List Tm → List V
  | [] => []
  | t :: ts => putT tbl t :: putTs tbl ts
end
theorem fillTs_map (tbl : List (Str × V)) : ∀ l, fillTs tbl l = l.map (fillT tbl)
  | [] => rfl
  | t :: ts => by simp [fillTs, fillTs_map tbl ts]
theorem putTs_map (tbl : List (Str × V)) : ∀ l, putTs tbl l = l.map (putT tbl)
  | [] => rfl
  | t :: ts => by simp [putTs, putTs_map tbl ts]
theorem hts_mem : ∀ {l : List Tm} {t : Tm}, t ∈ l → t.ht ≤ Tm.hts l ∧ t.sz ≤ Tm.szs l
  | a :: l, t, h => by
    simp only [Tm.hts, Tm.szs]
    rcases List.mem_cons.mp h with rfl | h
    · omega
    · have := hts_mem h; omega
theorem covs_mem {tbl : List (Str × V)} : ∀ {l : List Tm} {t : Tm}, Tm.covs tbl l → t ∈ l → t.cov tbl
  | a :: l, t, hc, h => by
    simp only [Tm.covs] at hc
    rcases List.mem_cons.mp h with rfl | h
    · exact hc.1
    · exact covs_mem hc.2 h
theorem oks_mem : ∀ {l : List Tm} {t : Tm}, Tm.oks l → t ∈ l → t.ok
  | a :: l, t, hc, h => by
    simp only [Tm.oks] at hc
    rcases List.mem_cons.mp h with rfl | h
    · exact hc.1
    · exact oks_mem hc.2 h
section
variable {c : Cx} {P : Params} {n : Nat} {hn : Bool} {σ : Sig} {X : Exn → Sig → Prop} {Q : V → Sig → Prop}
theorem DR.fresh {d D : Addr} {m : MO} {l : List (Str × V)} (h : DR c σ d l) (hD : σ D = none) (hs : c.S.objs.size ≤ D ∨ True := .inr trivial) : σ d = some (.dict l) → DR c (upd σ D m) d l := fun e => .inl (upd_keep hD e)
theorem C_placed (H : Gs c (KK P) gtab) {d : Addr} {tbl : List (Str × V)} : ∀ (m n : Nat) (σ : Sig) (Q : V → Sig → Prop) (X : Exn → Sig → Prop) (t : Tm), t.ht ≤ m → t.sz ≤ 1000 → t.ok → t.cov tbl → DR c σ d tbl → Q (fillT tbl t) σ → CodeOp c ⟨n + m + 1, true⟩ σ (.ref 119) [t.v, .raw (.ref d)] Q X := by
  intro m
  induction m with
  | zero => intro n σ Q X t h1; obtain ⟨s, ks⟩ := t; simp only [Tm.ht] at h1; omega
  | succ m ih =>
  intro n σ Q X t h1 h2 h3 h4 hd q
  obtain ⟨s, ks⟩ := t
  have hz : (Tm.vs ks).length ≤ 1000 := by have := szs_ge ks; rw [Tm.vs_length]; simp only [Tm.sz] at h2; omega
  refine K_fnK H (f := 119) (params := [("pattern" : Str), ("table" : Str)]) (locs := []) (ρ1 := [(("pattern" : Str), some (.tup (.str s :: Tm.vs ks))), (("table" : Str), some (.raw (.ref d)))]) rfl rfl rfl rfl rfl rfl rfl rfl rfl (len2 fun _ _ => rfl) rfl (by decide) rfl rfl ?_
  intro L
  refine S_consK ?_
  intro _ _ _
  walk_at "gg"
  refine (C_isvar H (t := .mk s ks) h2 (hd_ok h3) ?_).call
  refine ⟨_, rfl, ?_⟩
  cases hv : (Tm.mk s ks).isVar with
  | false =>
    walk_at "gg"
    refine G_lcI (cl := [("table", L + 1)]) (ρc := [("table", some (.raw (.ref d))), ("kid", none)]) rfl (by walk_at "cx") (fun _ => rfl) ?_
    refine IG_plain ?_
    walk_at "gg"
    refine IO_tup ?_
    refine comp_map ks Tm.v (fillT tbl) (fun _ => true) trivial trivial (Tm.vs_map ks) (by rw [← Tm.vs_length]; omega) ?_ ?_
    · intro C a ha
      have hm := hts_mem ha
      simp only [Tm.ht, Tm.sz, Tm.cov, Tm.ok] at h1 h2 h3 h4
      walk_at "gg"
      refine ⟨rfl, ?_⟩
      walk_at "gg"
      exact (ih n _ _ _ a (by omega) (by omega) (oks_mem h3.2 ha) (covs_mem h4.2 ha) hd ⟨rfl, .refl _⟩).call
    · intro D hD
      have hz2 : (fillTs tbl ks).length ≤ 1000 := by rw [fillTs_map, List.length_map, ← Tm.vs_length]; omega
      walk_at "gg"
      refine B_tuple_list (l := fillTs tbl ks) ?_ (.inl ?_) ?_
      · walk_at "gg"
        · refine ⟨_, Sub.fresh (.refl _) hD, ?_⟩
          simp only [fillT, hv] at q
          exact q
      · rw [fillTs_map, filt_true, upd_same]
      · rw [fillTs_map, List.length_map, ← Tm.vs_length]; omega
  | true =>
    simp only [Tm.cov] at h4
    have h5 := h4.1 hv
    cases ha : assoc tbl s with
    | none => rw [ha] at h5; cases h5
    | some v =>
      walk_at "gg"
      simp only [ha, Option.isSome_some, Bool.not_true]
      walk_at "gg"
      refine I_dict ?_ hd ha
      walk_at "k"
      refine ⟨_, .refl _, ?_⟩
      simp only [fillT, hv, ha] at q
      exact q
theorem C_put (H : Gs c (KK P) gtab) {d : Addr} {tbl : List (Str × V)} : ∀ (m n : Nat) (σ : Sig) (Q : V → Sig → Prop) (X : Exn → Sig → Prop) (t : Tm), t.ht ≤ m → t.sz ≤ 1000 → DR c σ d tbl → Q (putT tbl t) σ → CodeOp c ⟨n + m, true⟩ σ (.ref 347) [t.v, .raw (.ref d)] Q X := by
  intro m
  induction m with
  | zero => intro n σ Q X t h1; obtain ⟨s, ks⟩ := t; simp only [Tm.ht] at h1; omega
  | succ m ih =>
  intro n σ Q X t h1 h2 hd q
  obtain ⟨s, ks⟩ := t
  have hz : (Tm.vs ks).length ≤ 1000 := by have := szs_ge ks; rw [Tm.vs_length]; simp only [Tm.sz] at h2; omega
  refine K_fnK H (f := 347) (params := [("pattern" : Str), ("table" : Str)]) (locs := []) (ρ1 := [(("pattern" : Str), some (.tup (.str s :: Tm.vs ks))), (("table" : Str), some (.raw (.ref d)))]) rfl rfl rfl rfl rfl rfl rfl rfl rfl (len2 fun _ _ => rfl) rfl (by decide) rfl rfl ?_
  intro L
  refine S_consK ?_
  intro _ _ _
  walk_at "gg"
  cases ha : assoc tbl s with
  | none =>
    simp only [Option.isSome_none]
    walk_at "gg"
    refine G_lcI (cl := [("table", L + 1)]) (ρc := [("table", some (.raw (.ref d))), ("kid", none)]) rfl (by walk_at "cx") (fun _ => rfl) ?_
    refine IG_plain ?_
    walk_at "gg"
    refine IO_tup ?_
    refine comp_map ks Tm.v (putT tbl) (fun _ => true) trivial trivial (Tm.vs_map ks) (by rw [← Tm.vs_length]; omega) ?_ ?_
    · intro C a ha
      have hm := hts_mem ha
      simp only [Tm.ht, Tm.sz] at h1 h2
      walk_at "gg"
      refine ⟨rfl, ?_⟩
      walk_at "gg"
      exact (ih n _ _ _ a (by omega) (by omega) hd ⟨rfl, .refl _⟩).call
    · intro D hD
      have hz2 : (putTs tbl ks).length ≤ 1000 := by rw [putTs_map, List.length_map, ← Tm.vs_length]; omega
      walk_at "gg"
      refine B_tuple_list (l := putTs tbl ks) ?_ (.inl ?_) ?_
      · walk_at "gg"
        · refine ⟨_, Sub.fresh (.refl _) hD, ?_⟩
          simp only [putT, ha] at q
          exact q
      · rw [putTs_map, filt_true, upd_same]
      · rw [putTs_map, List.length_map, ← Tm.vs_length]; omega
  | some v =>
    simp only [Option.isSome_some]
    walk_at "gg"
    refine I_dict ?_ hd ha
    walk_at "k"
    refine ⟨_, .refl _, ?_⟩
    simp only [putT, ha] at q
    exact q
end
end Mine

-- part D5
set_option maxHeartbeats 2000000
namespace Mine

section
variable {c : Cx} {P : Params} {n : Nat} {hn : Bool} {σ : Sig} {X : Exn → Sig → Prop} {Q : V → Sig → Prop}
theorem C_heapInit {a : Addr} {what : V} (H : Gs c (KK P) gtab) (e1 : σ a = some (.exc 100 none true)) :
    CodeOp c ⟨n + 1, hn⟩ σ (.ref 37) [.raw (.ref a), what] (fun v σ' => v = .none ∧ ∃ dx, σ dx = none ∧ dx ≠ a ∧ σ' = upd (upd σ a (.exc 100 (some dx) true)) dx (.ns [(("what" : Str), what)])) X := by
  refine K_init (f := 37) (a := a) (C := 100) (D := 47) (cc := 25) (cda := 36) (dO := none) (nw := true) (w := ("what" : Str)) (sf := ("self" : Str)) (y := ("what" : Str)) (wv := what) (yv := what) (rest := [what]) (params := [("self" : Str), ("what" : Str)]) (ρ0 := [(("self" : Str), none), (("what" : Str), none)]) (ρ1 := [(("self" : Str), some (.raw (.ref a))), (("what" : Str), some what)])
    (by walk_at "K") rfl rfl rfl rfl (by walk_at "K") rfl rfl rfl ?bind ?cell ?xs ?keys ?nd ?none ?bs rfl rfl rfl (by walk_at "K") rfl H.file (by walk_at "K") (by walk_at "K") (by walk_at "K") (H.mg (by walk_at "mem")) H.top rfl rfl rfl rfl rfl ?ms ?mw ?my (by decide) (by decide) (by decide) (fun _ => rfl) (fun _ => rfl) (fun _ => rfl) (fun _ => rfl) e1 ?g
  case bind => exact len2 fun _ _ => rfl
  case cell => decide
  case xs => exact all_dec rfl
  case keys => exact all_dec rfl
  case nd => decide
  case none => walk_at "alld" <;> rfl
  case bs => exact .cons .here (.cons (.there .here) .nil)
  case ms => exact .head _
  case mw => exact .tail _ (.head _)
  case my => exact .tail _ (.head _)
  case g =>
    refine Super_b (l := []) e1 ?_ (by walk_at "K") (by walk_at "K") (by walk_at "K") (by walk_at "K") (by walk_at "K")
    refine A_setE_new e1 (fun dx h1 h2 => ⟨rfl, dx, h1, h2, rfl⟩) (by walk_at "K") (by walk_at "K") ?_ (by walk_at "K") rfl
    exact .own _ (.own _ .base)
theorem C_paperInit {a : Addr} {what place : V} (H : Gs c (KK P) gtab) (e1 : σ a = some (.exc 100 none true)) :
    CodeOp c ⟨n + 1 + 1, hn⟩ σ (.ref 90) [.raw (.ref a), what, place] (fun v σ' => v = .none ∧ ∃ dx, σ dx = none ∧ dx ≠ a ∧ σ' = upd (upd σ a (.exc 100 (some dx) true)) dx (.ns [(("what" : Str), what), (("place" : Str), place)])) X := by
  refine K_init (f := 90) (a := a) (C := 100) (D := 100) (cc := 78) (cda := 89) (dO := none) (nw := true) (w := ("what" : Str)) (sf := ("self" : Str)) (y := ("place" : Str)) (wv := what) (yv := place) (rest := [what, place]) (params := [("self" : Str), ("what" : Str), ("place" : Str)]) (ρ0 := [(("self" : Str), none), (("what" : Str), none), (("place" : Str), none)]) (ρ1 := [(("self" : Str), some (.raw (.ref a))), (("what" : Str), some what), (("place" : Str), some place)])
    (by walk_at "K") rfl rfl rfl rfl (by walk_at "K") rfl rfl rfl ?bind ?cell ?xs ?keys ?nd ?none ?bs rfl rfl rfl (by walk_at "K") rfl H.file (by walk_at "K") (by walk_at "K") (by walk_at "K") (H.mg (by walk_at "mem")) H.top rfl rfl rfl rfl rfl ?ms ?mw ?my (by decide) (by decide) (by decide) (fun _ => rfl) (fun _ => rfl) (fun _ => rfl) (fun _ => rfl) e1 ?g
  case bind => exact len3 fun _ _ _ => rfl
  case cell => decide
  case xs => exact all_dec rfl
  case keys => exact all_dec rfl
  case nd => decide
  case none => walk_at "alld" <;> rfl
  case bs => exact .cons .here (.cons (.there .here) (.cons (.there (.there .here)) .nil))
  case ms => exact .head _
  case mw => exact .tail _ (.head _)
  case my => exact .tail _ (.tail _ (.head _))
  case g =>
    refine Super_fn (f2 := 37) e1 ?_ (by walk_at "K") (by walk_at "K") (by walk_at "K") (by walk_at "K") ?_
    · walk_at "K"
    refine (C_heapInit H e1).mono ?_ fun _ _ q => q
    rintro v σ' ⟨_, dx, h1, h2, rfl⟩
    refine A_setE (dx := dx) (by rw [upd_ne _ _ h2.symm, upd_same]) (upd_same _ _ _) ?_ (by simp) (by walk_at "K") (by walk_at "K") (.own _ (.own _ .base)) (by walk_at "K") rfl
    refine ⟨rfl, dx, h1, h2, ?_⟩
    rw [upd_upd]
    rfl
theorem C_paper {what place : V} (H : Gs c (KK P) gtab) :
    CodeOp c ⟨n + 1 + 1 + 1, hn⟩ σ (.ref 100) [what, place] (fun v σ' => ∃ a dx, v = .raw (.ref a) ∧ σ a = none ∧ σ dx = none ∧ dx ≠ a ∧ σ' = upd (upd σ a (.exc 100 (some dx) true)) dx (.ns [(("what" : Str), what), (("place" : Str), place)])) X := by
  refine C_exc (bm := [.ref 47, .type "Exception", .type "BaseException", .type "object"]) PySem.F.excBase_Exception (by decide) (by decide) (by decide) (by walk_at "K") (by walk_at "K") (by walk_at "K") (by simp) fun a ha => ?_
  refine (C_paperInit H (upd_same _ _ _)).mono ?_ fun _ _ q => q
  rintro v σ' ⟨rfl, dx, h1, h2, rfl⟩
  refine ⟨rfl, a, dx, rfl, ha, ?_, h2, ?_⟩
  · rwa [upd_ne _ _ h2] at h1
  · rw [upd_upd]
end
end Mine

-- part D6
set_option maxHeartbeats 2000000
namespace Mine

section
variable {c : Cx} {P : Params} {n : Nat} {hn : Bool} {σ : Sig} {X : Exn → Sig → Prop} {Q : V → Sig → Prop}
theorem sub_del {σ : Sig} {a dx : Addr} {m m' : MO} (h1 : σ a = none) (h2 : σ dx = none) : Sub σ (del (del (upd (upd σ a m) dx m') a) dx) := fun b mb e => by
  have ha : b ≠ a := fun q => by rw [q, h1] at e; cases e
  have hd : b ≠ dx := fun q => by rw [q, h2] at e; cases e
  unfold del
  rw [if_neg hd, if_neg ha, upd_ne _ _ hd, upd_ne _ _ ha]; exact e
/-- raise PaperFault(what, place) -/
theorem R_paper (H : Gs c (KK P) gtab) {σ0 : Sig} {what : Str} {place : V} {X : Exn → Sig → Prop} (hs : Sub σ0 σ) (q : ∀ ex, ex.C = 100 → assoc ex.fs "place" = some place → X ex σ0) :
    CallOp c ⟨n + 3, hn⟩ σ (.ref 100) [.str what, place] (fun v σ1 => ∃ a C dx fs oC, v = .raw (.ref a) ∧ σ a = none ∧ σ dx = none ∧ σ1 a = some (.exc C (some dx) true) ∧ σ1 dx = some (.ns fs) ∧ c.K.lookup C = some oC ∧ oC.cls = .type "type" ∧ subIn c.K (.ref C) (.type "BaseException") = some true ∧ ∃ σ'', Sub σ'' (del (del σ1 a) dx) ∧ X ⟨C, fs⟩ σ'') (fun ex σ' => ∃ σ'', Sub σ'' σ' ∧ X ex σ'') := by
  refine ((C_paper H).mono ?_ fun _ _ q => q).call
  rintro v σ' ⟨b, dy, rfl, h1, h2, h3, rfl⟩
  exact ⟨b, 100, dy, _, _, rfl, h1, h2, by rw [upd_ne _ _ h3.symm, upd_same], upd_same _ _ _, (by walk_at "K"), rfl, (by walk_at "K"), σ0, hs.trans (sub_del h1 h2), q _ rfl rfl⟩
theorem C_told (H : Gs c (KK P) gtab) {a dx d : Addr} {fs : List (Str × V)} {l : List (Str × V)} {label : Str} {place : V}
    (e1 : σ a = some (.inst 208 dx)) (e2 : σ dx = some (.ns fs)) (e3 : assoc fs "told" = some (.raw (.ref d))) (e4 : DR c σ d l)
    (q : ∀ v, assoc l label = some v → Q v σ) (qx : assoc l label = none → ∀ ex, ex.C = 100 → assoc ex.fs "place" = some place → X ex σ) :
    CodeOp c ⟨n + 4, true⟩ σ (.ref 183) [.raw (.ref a), .str label, place] Q X := by
  refine K_fnK H (f := 183) (params := [("self" : Str), ("label" : Str), ("place" : Str)]) (locs := []) (ρ1 := [(("self" : Str), some (.raw (.ref a))), (("label" : Str), some (.str label)), (("place" : Str), some (place))]) rfl rfl rfl rfl rfl rfl rfl rfl rfl (len3 fun _ _ _ => rfl) rfl (by decide) rfl rfl ?_
  intro L
  refine S_consK ?_
  intro _ _ _
  have tells : ∀ {N : Lv} {Q : V → Sig → Prop} {X : Exn → Sig → Prop}, Q (.raw (.ref d)) σ → GetOp c N σ (.raw (.ref a)) "told" Q X := fun q => A_own q ⟨dx, e1, e2⟩ e3 (by rfl) (by walk_at "K") (by walk_at "K") (by walk_at "K")
  walk_at "gg"
  refine tells ?_
  walk_at "gg"
  cases hl : assoc l label with
  | none =>
    simp only [Option.isSome_none, Bool.not_false]
    walk_at "gg"
    refine S_raise rfl ?_
    walk_at "gg"
    exact R_paper H (.refl _) (qx hl)
  | some v =>
    simp only [Option.isSome_some, Bool.not_true]
    walk_at "gg"
    refine tells ?_
    walk_at "gg"
    refine I_dict ?_ e4 hl
    walk_at "k"
    exact ⟨_, .refl _, q v hl⟩
theorem C_stepsInit (H : Gs c (KK P) gtab) {a dx : Addr} {j : V} (e1 : σ a = some (.inst 264 dx)) (e2 : σ dx = some (.ns [])) (q : Q .none (upd σ dx (.ns [(("judge" : Str), j)]))) :
    CodeOp c ⟨n + 1, true⟩ σ (.ref 226) [.raw (.ref a), j] Q X := by
  refine K_fnK H (f := 226) (params := [("self" : Str), ("judge" : Str)]) (locs := []) (ρ1 := [(("self" : Str), some (.raw (.ref a))), (("judge" : Str), some (j))]) rfl rfl rfl rfl rfl rfl rfl rfl rfl (len2 fun _ _ => rfl) rfl (by decide) rfl rfl ?_
  intro L
  refine S_consK ?_
  intro _ _ _
  walk_at "gg"
  refine A_set e1 e2 ?_ (by simp) (by walk_at "K") (by walk_at "K") (by walk_at "K") (by walk_at "K")
  walk_at "gg"
  exact ⟨_, .refl _, q⟩
theorem C_judgeInit (H : Gs c (KK P) gtab) {a dx : Addr} {r t : V} (e1 : σ a = some (.inst 208 dx)) (e2 : σ dx = some (.ns [])) (q : Q .none (upd σ dx (.ns [(("rules" : Str), r), (("told" : Str), t)]))) :
    CodeOp c ⟨n + 1, true⟩ σ (.ref 176) [.raw (.ref a), r, t] Q X := by
  refine K_fnK H (f := 176) (params := [("self" : Str), ("rules" : Str), ("told" : Str)]) (locs := []) (ρ1 := [(("self" : Str), some (.raw (.ref a))), (("rules" : Str), some (r)), (("told" : Str), some (t))]) rfl rfl rfl rfl rfl rfl rfl rfl rfl (len3 fun _ _ _ => rfl) rfl (by decide) rfl rfl ?_
  intro L
  refine S_consK ?_
  intro _ _ _
  have hne : a ≠ dx := fun q => by rw [q, e2] at e1; cases e1
  walk_at "gg"
  refine A_set e1 e2 ?_ (by simp) (by walk_at "K") (by walk_at "K") (by walk_at "K") (by walk_at "K")
  walk_at "gg"
  refine A_set (by rw [upd_ne _ _ hne]; exact e1) (upd_same _ _ _) ?_ (by simp [putA]) (by walk_at "K") (by walk_at "K") (by walk_at "K") (by walk_at "K")
  walk_at "gg"
  rw [upd_upd]
  exact ⟨_, .refl _, q⟩
theorem C_steps (H : Gs c (KK P) gtab) {j : V} (q : ∀ a dx, σ a = none → σ dx = none → a ≠ dx → Q (.raw (.ref a)) (upd (upd (upd σ dx (.ns [])) a (.inst 264 dx)) dx (.ns [(("judge" : Str), j)]))) : CodeOp c ⟨n + 2, true⟩ σ (.ref 264) [j] Q X := by
  refine C_cls (fI := 226) (by walk_at "K") (by walk_at "K") (by walk_at "K") fun a dx h1 h2 h3 => ?_
  exact C_stepsInit H (upd_same _ _ _) (by rw [upd_ne _ _ h3.symm, upd_same]) ⟨rfl, q a dx h1 h2 h3⟩
theorem C_judge (H : Gs c (KK P) gtab) {r t : V} (q : ∀ a dx, σ a = none → σ dx = none → a ≠ dx → Q (.raw (.ref a)) (upd (upd (upd σ dx (.ns [])) a (.inst 208 dx)) dx (.ns [(("rules" : Str), r), (("told" : Str), t)]))) : CodeOp c ⟨n + 2, true⟩ σ (.ref 208) [r, t] Q X := by
  refine C_cls (fI := 176) (by walk_at "K") (by walk_at "K") (by walk_at "K") fun a dx h1 h2 h3 => ?_
  exact C_judgeInit H (upd_same _ _ _) (by rw [upd_ne _ _ h3.symm, upd_same]) ⟨rfl, q a dx h1 h2 h3⟩
end
end Mine

-- part D7
set_option maxHeartbeats 2000000
namespace Mine

theorem handed_v (t : Tm) : handedV t.v = true := by cases t; rfl
theorem toPs_strs : ∀ l : List Str, toPs (l.map .str) = l.map .str
  | [] => rfl
  | x :: l => by simp [toPs, toP, toPs_strs l]
theorem trees_strs : ∀ l : List Str, trees (l.map .str) = true
  | [] => rfl
  | x :: l => by simp [trees, tree, trees_strs l]
theorem depth_strs : ∀ l : List Str, PyData.depthAll (l.map .str) = 0
  | [] => rfl
  | x :: l => by simp [PyData.depthAll, PyData.depth, depth_strs l]
theorem eqL_strs : ∀ l m : List Str, eqL (l.map .str) (m.map .str) = decide (l = m) := by
  intro l m
  unfold eqL
  rw [toPs_strs, toPs_strs]
  induction l generalizing m with
  | nil => cases m <;> simp [PyData.eqvAll]
  | cons x l ih =>
    cases m with
    | nil => simp [PyData.eqvAll]
    | cons y m =>
      simp only [List.map_cons, PyData.eqvAll, ih, List.cons.injEq]
      have h := eqV_str x y
      unfold eqV at h; simp only [toP] at h
      rw [h]; simp
/-- what a rule is: its sides, its variables -/
structure RuleD where
  L : Tm
  R : Tm
  vs : List Str
structure RuleD.Ok (r : RuleD) : Prop where
  lok : r.L.ok
  rok : r.R.ok
  lsz : r.L.sz < 60
  rsz : r.R.sz < 60
  vars : ∀ ss, ss.Perm (dedupS [] (varsL r.L)) → sortedS ss = true → ss = r.vs
  cov : ∀ pairs : List (Str × V), pairs.map (·.1) = r.vs → r.L.cov (putAll [] pairs) ∧ r.R.cov (putAll [] pairs)
/-- the object of a rule -/
noncomputable def RuleO (σ : Sig) (a : Addr) (r : RuleD) : Prop := ∃ dx nm nd, σ a = some (.inst 290 dx) ∧ σ dx = some (.ns [("name", nm), ("left", r.L.v), ("right", r.R.v), ("needs", nd)])
theorem RuleO.sub {σ σ' : Sig} {a : Addr} {r : RuleD} (h : RuleO σ a r) (x : Sub σ σ') : RuleO σ' a r := let ⟨dx, nm, nd, e1, e2⟩ := h; ⟨dx, nm, nd, x _ _ e1, x _ _ e2⟩
noncomputable def RulesO (σ : Sig) (l : List (Str × V)) (rule : Str → Option RuleD) : Prop := ∀ name, match rule name with
  | none => assoc l name = none
  | some r => ∃ a, assoc l name = some (.raw (.ref a)) ∧ RuleO σ a r
section
variable {c : Cx} {P : Params} {n : Nat} {hn : Bool} {σ : Sig} {X : Exn → Sig → Prop} {Q : V → Sig → Prop}
theorem A_left (H : Gs c (KK P) gtab) {N : Lv} {a : Addr} {r : RuleD} (h : RuleO σ a r) (q : Q r.L.v σ) : GetOp c N σ (.raw (.ref a)) "left" Q X :=
  let ⟨dx, nm, nd, e1, e2⟩ := h
  A_own q ⟨dx, e1, e2⟩ rfl (handed_v _) (by walk_at "K") (by walk_at "K") (by walk_at "K")
theorem A_right (H : Gs c (KK P) gtab) {N : Lv} {a : Addr} {r : RuleD} (h : RuleO σ a r) (q : Q r.R.v σ) : GetOp c N σ (.raw (.ref a)) "right" Q X :=
  let ⟨dx, nm, nd, e1, e2⟩ := h
  A_own q ⟨dx, e1, e2⟩ rfl (handed_v _) (by walk_at "K") (by walk_at "K") (by walk_at "K")
theorem C_rule_sides (H : Gs c (KK P) gtab) {a dx d : Addr} {fs l pairs : List (Str × V)} {name : Str} {place : V} {rule : Str → Option RuleD}
    (e1 : σ a = some (.inst 208 dx)) (e2 : σ dx = some (.ns fs)) (e3 : assoc fs "rules" = some (.raw (.ref d))) (e4 : σ d = some (.dict l)) (hr : RulesO σ l rule) (hok : ∀ r, rule name = some r → r.Ok) (hp : pairs.length ≤ 1000)
    (q : ∀ r, rule name = some r → pairs.map (·.1) = r.vs → Q (.tup [fillT (putAll [] pairs) r.L, fillT (putAll [] pairs) r.R]) σ)
    (qx : (∀ r, rule name = some r → pairs.map (·.1) ≠ r.vs) → ∀ ex, ex.C = 100 → assoc ex.fs "place" = some place → X ex σ) :
    CodeOp c ⟨n + 70, true⟩ σ (.ref 188) [.raw (.ref a), .str name, .tup (pv pairs), place] Q X := by
  refine K_fnK H (f := 188) (params := [("self" : Str), ("name" : Str), ("places" : Str), ("place" : Str)]) (locs := [("rule" : Str)]) (ρ1 := [(("self" : Str), some (.raw (.ref a))), (("name" : Str), some (.str name)), (("places" : Str), some (.tup (pv pairs))), (("place" : Str), some (place)), (("rule" : Str), none)]) rfl rfl rfl rfl rfl rfl rfl rfl rfl (len4 fun _ _ _ _ => rfl) rfl (by decide) rfl rfl ?_
  intro L
  refine S_consK ?_
  intro _ _ _
  have tells : ∀ {N : Lv} {Q : V → Sig → Prop} {X : Exn → Sig → Prop}, Q (.raw (.ref d)) σ → GetOp c N σ (.raw (.ref a)) "rules" Q X := fun q => A_own q ⟨dx, e1, e2⟩ e3 (by rfl) (by walk_at "K") (by walk_at "K") (by walk_at "K")
  have hrn := hr name
  walk_at "gg"
  refine tells ?_
  walk_at "gg"
  cases hl : rule name with
  | none =>
    rw [hl] at hrn
    simp only at hrn
    simp only [hrn, Option.isSome_none, Bool.not_false]
    walk_at "gg"
    refine S_raise rfl ?_
    walk_at "gg"
    exact R_paper H (.refl _) (qx fun r h => by rw [hl] at h; cases h)
  | some r =>
    rw [hl] at hrn
    obtain ⟨b, hb, ho⟩ := hrn
    simp only [hb, Option.isSome_some, Bool.not_true]
    walk_at "gg"
    refine tells ?_
    walk_at "gg"
    refine I_dict ?_ (.inl e4) hb
    walk_at "gg"
    have rok := hok r hl
    refine G_lcI (cl := []) (ρc := [("variable", none), ("term", none)]) rfl (by walk_at "cx") (fun _ => rfl) ?_
    refine IG_plain ?_
    walk_at "gg"
    refine IO_tup ?_
    refine comp_map pairs (fun p => .tup [.str p.1, p.2]) (fun p => .str p.1) (fun _ => true) trivial trivial rfl (by omega) ?_ ?_
    · intro C p hp
      walk_at "gg"
      refine ⟨rfl, ?_⟩
      walk_at "gg"
      exact ⟨rfl, .refl _⟩
    · intro D1 hD1
      walk_at "gg"
      refine A_left H (ho.sub (Sub.fresh (.refl _) hD1)) ?_
      walk_at "gg"
      refine (C_vars H rok.lok rok.lsz fun ss p1 p2 D2 hD2 => ?_).call
      have hss := rok.vars ss p1 p2
      subst hss
      refine O_neL (l := (pairs.map (·.1)).map .str) ?_ (by rw [upd_keep hD2 (upd_same _ _ _), filt_true, List.map_map]; rfl) (upd_same _ _ _) (trees_strs _) (trees_strs _) (by rw [toPs_strs, toPs_strs, depth_strs, depth_strs]; show _ ≤ 16 * (n + 69); omega)
      rw [eqL_strs]
      refine ⟨_, rfl, ?_⟩
      by_cases hv : pairs.map (·.1) = r.vs
      · simp only [hv, decide_true, Bool.not_true]
        walk_at "gg"
        refine S_try_ok ?_
        have cv := rok.cov pairs hv
        walk_at "gg"
        refine A_left H (ho.sub (Sub.fresh (Sub.fresh (.refl _) hD1) hD2)) ?_
        walk_at "gg"
        refine B_dict_pairsT rfl (fun D3 hD3 => ?_) (by omega)
        walk_at "gg"
        refine (C_placed H 60 (n + 8) _ _ _ r.L (by have := ht_sz r.L; have := rok.lsz; omega) (by have := rok.lsz; omega) rok.lok cv.1 (.inl (upd_same _ _ _)) ?_).call
        walk_at "gg"
        refine A_right H (ho.sub (Sub.fresh (Sub.fresh (Sub.fresh (.refl _) hD1) hD2) hD3)) ?_
        walk_at "gg"
        refine B_dict_pairsT rfl (fun D4 hD4 => ?_) (by omega)
        walk_at "gg"
        refine (C_placed H 60 (n + 8) _ _ _ r.R (by have := ht_sz r.R; have := rok.rsz; omega) (by have := rok.rsz; omega) rok.rok cv.2 (.inl (upd_same _ _ _)) ?_).call
        walk_at "gg"
        exact ⟨σ, Sub.fresh (Sub.fresh (Sub.fresh (Sub.fresh (.refl _) hD1) hD2) hD3) hD4, q r hl hv⟩
      · simp only [hv, decide_false, Bool.not_false]
        walk_at "gg"
        refine S_raise rfl ?_
        walk_at "gg"
        exact R_paper H (Sub.fresh (Sub.fresh (.refl σ) hD1) hD2) (qx fun r' h => by rw [hl] at h; cases h; exact hv)
end
end Mine

-- part D8
set_option maxHeartbeats 2000000
namespace Mine

/-- the Steps object that the law makes -/
noncomputable def Made (c : Cx) (σ : Sig) (s : Addr) (rule : Str → Option RuleD) (known : List (Str × V)) : Prop := ∃ (ds j dj rd kd : Addr) (l : List (Str × V)), σ s = some (.inst 264 ds) ∧ σ ds = some (.ns [("judge", .raw (.ref j))]) ∧ σ j = some (.inst 208 dj) ∧
  σ dj = some (.ns [("rules", .raw (.ref rd)), ("told", .raw (.ref kd))]) ∧ σ rd = some (.dict l) ∧ RulesO σ l rule ∧ DR c σ kd known
theorem DR.sub {c : Cx} {σ σ' : Sig} {d : Addr} {l : List (Str × V)} (h : DR c σ d l) (x : Sub σ σ') : DR c σ' d l := h.imp (x _ _) id
theorem Made.sub {c : Cx} {σ σ' : Sig} {s : Addr} {rule : Str → Option RuleD} {known : List (Str × V)} (h : Made c σ s rule known) (x : Sub σ σ') : Made c σ' s rule known := by
  obtain ⟨ds, j, dj, rd, kd, l, h1, h2, h3, h4, h5, h6, h7⟩ := h
  refine ⟨ds, j, dj, rd, kd, l, x _ _ h1, x _ _ h2, x _ _ h3, x _ _ h4, x _ _ h5, fun name => ?_, h7.sub x⟩
  have := h6 name
  split at this
  · exact this
  · obtain ⟨a, e1, e2⟩ := this; exact ⟨a, e1, e2.sub x⟩
noncomputable def pair2 : V → Option (V × V)
  | .tup [u, w] => some (u, w)
  | _ => none
/-- what a step finds and puts -/
noncomputable def sidesR (rule : Str → Option RuleD) (known : List (Str × V)) (word name : Str) (pairs : List (Str × V)) : Option (V × V) :=
  if word = "told" ∧ pairs = [] then (assoc known name).bind pair2
  else if word = "rule" then (match rule name with
    | some r => if pairs.map (·.1) = r.vs then some (fillT (putAll [] pairs) r.L, fillT (putAll [] pairs) r.R) else none
    | none => none)
  else none
theorem eqV_nil : ∀ l : List V, eqV (.tup l) (.tup []) = decide (l = [])
  | [] => by simp [eqV, toP, toPs, PyData.eqv, PyData.eqvAll]
  | x :: l => by simp [eqV, toP, toPs, PyData.eqv, PyData.eqvAll]
theorem depth_nil : (toP (.tup [])).depth ≤ 1 := by simp [toP, toPs, PyData.depth, PyData.depthAll]
noncomputable abbrev stepV (path : V) (word name : Str) (pairs : List (Str × V)) (back : Bool) : V := .tup [path, .str word, .str name, .tup (pv pairs), .bool back]
section
variable {c : Cx} {P : Params} {n : Nat} {hn : Bool} {σ : Sig} {X : Exn → Sig → Prop} {Q : V → Sig → Prop}
theorem C_sides (H : Gs c (KK P) gtab) {s : Addr} {rule : Str → Option RuleD} {known pairs : List (Str × V)} {path place : V} {word name : Str} {back : Bool} (M : Made c σ s rule known) (hok : ∀ nm r, rule nm = some r → r.Ok) (hkn : ∀ nm v, assoc known nm = some v → ∃ u w, v = .tup [u, w])
    (hp : pairs.length ≤ 1000) (ht : trees (pv pairs) = true)
    (q : ∀ u w, sidesR rule known word name pairs = some (u, w) → Q (if back then .tup [w, u] else .tup [u, w]) σ)
    (qx : sidesR rule known word name pairs = none → ∀ ex, ex.C = 100 → assoc ex.fs "place" = some place → X ex σ) :
    CodeOp c ⟨n + 71, true⟩ σ (.ref 240) [.raw (.ref s), stepV path word name pairs back, place] Q X := by
  obtain ⟨ds, j, dj, rd, kd, l, h1, h2, h3, h4, h5, h6, h7⟩ := M
  refine K_fnK H (f := 240) (params := [("self" : Str), ("step" : Str), ("number" : Str)]) (locs := [("found" : Str)]) (ρ1 := [(("self" : Str), some (.raw (.ref s))), (("step" : Str), some (.tup [path, .str word, .str name, .tup (pv pairs), .bool back])), (("number" : Str), some (place)), (("found" : Str), none)]) rfl rfl rfl rfl rfl rfl rfl rfl rfl (len3 fun _ _ _ => rfl) rfl (by decide) rfl rfl ?_
  intro L
  refine S_consK ?_
  intro _ _ _
  have own : ∀ {N : Lv} {Q : V → Sig → Prop} {X : Exn → Sig → Prop}, Q (.raw (.ref j)) σ → GetOp c N σ (.raw (.ref s)) "judge" Q X := fun q => A_own q ⟨ds, h1, h2⟩ rfl (by rfl) (by walk_at "K") (by walk_at "K") (by walk_at "K")
  walk_at "gg"
  by_cases hw : word = "told"
  · have hw' : decide (word = "told") = true := decide_eq_true hw
    rw [hw']
    walk_at "gg"
    refine O_eq ?_ ht rfl (Nat.le_trans (Nat.min_le_right _ _) (Nat.le_trans depth_nil (by show _ ≤ 16 * (n + 70); omega)))
    rw [eqV_nil]
    refine ⟨_, rfl, ?_⟩
    by_cases hn : pairs = []
    · have hn' : decide (pv pairs = []) = true := by rw [hn]; rfl
      rw [hn']
      walk_at "gg"
      refine own ?_
      refine ⟨_, M_own (f := 183) ⟨dj, h3, h4⟩ rfl (by walk_at "K") (by walk_at "K") (by walk_at "K"), ?_⟩
      walk_at "gg"
      refine (C_told H (n := n + 66) h3 h4 rfl h7 (fun v e1 => ?_) (fun e1 => ?_)).call
      · obtain ⟨u, w, rfl⟩ := hkn name v e1
        have hs : sidesR rule known word name pairs = some (u, w) := by unfold sidesR; rw [if_pos ⟨hw, hn⟩, e1]; rfl
        walk_at "gg"
        cases back with
        | true =>
          walk_at "gg"
          exact ⟨_, .refl _, q _ _ hs⟩
        | false =>
          walk_at "gg"
          exact ⟨_, .refl _, q _ _ hs⟩
      · intro ex e2 e3
        walk_at "k"
        exact ⟨σ, .refl _, qx (by unfold sidesR; rw [if_pos ⟨hw, hn⟩, e1]; rfl) ex e2 e3⟩
    · have hn' : decide (pv pairs = []) = false := by cases pairs <;> simp_all [pv]
      have hno : ¬ (word = "told" ∧ pairs = []) := fun q => hn q.2
      rw [hn']
      walk_at "gg"
      by_cases hr : word = "rule"
      · have hr' : decide (word = "rule") = true := decide_eq_true hr
        rw [hr']
        walk_at "gg"
        refine own ?_
        refine ⟨_, M_own (f := 188) ⟨dj, h3, h4⟩ rfl (by walk_at "K") (by walk_at "K") (by walk_at "K"), ?_⟩
        walk_at "gg"
        refine (C_rule_sides H h3 h4 rfl h5 h6 (hok name) hp (fun r e1 e2 => ?_) (fun e1 => ?_)).call
        · have hs : sidesR rule known word name pairs = some (fillT (putAll [] pairs) r.L, fillT (putAll [] pairs) r.R) := by
            unfold sidesR; rw [if_neg hno, if_pos hr, e1]; simp only; rw [if_pos e2]
          walk_at "gg"
          cases back with
          | true =>
            walk_at "gg"
            exact ⟨_, .refl _, q _ _ hs⟩
          | false =>
            walk_at "gg"
            exact ⟨_, .refl _, q _ _ hs⟩
        · have hs : sidesR rule known word name pairs = none := by
            unfold sidesR; rw [if_neg hno, if_pos hr]
            cases e : rule name with
            | none => rfl
            | some r => simp only; rw [if_neg (e1 r e)]
          intro ex e2 e3
          walk_at "k"
          exact ⟨σ, .refl _, qx hs ex e2 e3⟩
      · have hr' : decide (word = "rule") = false := decide_eq_false hr
        rw [hr']
        walk_at "gg"
        refine S_raise rfl ?_
        walk_at "gg"
        exact R_paper H (.refl _) (qx (by unfold sidesR; rw [if_neg hno, if_neg hr]))
  · have hw' : decide (word = "told") = false := decide_eq_false hw
    have hno : ¬ (word = "told" ∧ pairs = []) := fun q => hw q.1
    rw [hw']
    walk_at "gg"
    by_cases hr : word = "rule"
    · have hr' : decide (word = "rule") = true := decide_eq_true hr
      rw [hr']
      walk_at "gg"
      refine own ?_
      refine ⟨_, M_own (f := 188) ⟨dj, h3, h4⟩ rfl (by walk_at "K") (by walk_at "K") (by walk_at "K"), ?_⟩
      walk_at "gg"
      refine (C_rule_sides H h3 h4 rfl h5 h6 (hok name) hp (fun r e1 e2 => ?_) (fun e1 => ?_)).call
      · have hs : sidesR rule known word name pairs = some (fillT (putAll [] pairs) r.L, fillT (putAll [] pairs) r.R) := by
          unfold sidesR; rw [if_neg hno, if_pos hr, e1]; simp only; rw [if_pos e2]
        walk_at "gg"
        cases back with
        | true =>
          walk_at "gg"
          exact ⟨_, .refl _, q _ _ hs⟩
        | false =>
          walk_at "gg"
          exact ⟨_, .refl _, q _ _ hs⟩
      · have hs : sidesR rule known word name pairs = none := by
          unfold sidesR; rw [if_neg hno, if_pos hr]
          cases e : rule name with
          | none => rfl
          | some r => simp only; rw [if_neg (e1 r e)]
        intro ex e2 e3
        walk_at "k"
        exact ⟨σ, .refl _, qx hs ex e2 e3⟩
    · have hr' : decide (word = "rule") = false := decide_eq_false hr
      rw [hr']
      walk_at "gg"
      refine S_raise rfl ?_
      walk_at "gg"
      exact R_paper H (.refl _) (qx (by unfold sidesR; rw [if_neg hno, if_neg hr]))
end
end Mine

-- part D9
set_option maxHeartbeats 2000000
namespace Mine

theorem hasV_strs (k : Str) : ∀ l : List Str, hasV (l.map .str) (.str k) = l.contains k := by
  intro l
  unfold hasV
  rw [toPs_strs]
  induction l with
  | nil => rfl
  | cons x l ih =>
    simp only [List.map_cons, List.any_cons, ih, List.contains_cons]
    have h := eqV_str x k
    unfold eqV at h; simp only [toP] at h ⊢
    rw [h]
    by_cases e : x = k
    · simp [e]
    · have : ¬ k = x := fun q => e q.symm
      simp [e, this]
theorem varsL_lt (t : Tm) (h : t.sz < 60) : (varsL t).length < 60 := by
  unfold varsL
  have := List.length_filter_le (fun p => p.2.isVar) (partsT t)
  rw [partsT_length] at this
  rw [List.length_map]; omega
structure RuleD.Mk (r : RuleD) : Prop where
  ok : r.Ok
  nov : r.L.isVar = false
  sub : ∀ k ∈ varsL r.R, k ∈ r.vs
section
variable {c : Cx} {P : Params} {n : Nat} {hn : Bool} {σ : Sig} {X : Exn → Sig → Prop} {Q : V → Sig → Prop}
theorem C_ruleInit (H : Gs c (KK P) gtab) {a dx : Addr} {r : RuleD} {name : Str} (hr : r.Mk) (e1 : σ a = some (.inst 290 dx)) (e2 : σ dx = some (.ns [])) (q : Q .none (upd σ dx (.ns [("name", .str name), ("left", r.L.v), ("right", r.R.v), ("needs", .tup [])]))) :
    CodeOp c ⟨n + 70, true⟩ σ (.ref 280) [.raw (.ref a), .str name, r.L.v, r.R.v, .tup []] Q X := by
  refine K_fnK H (f := 280) (params := [("self" : Str), ("name" : Str), ("left" : Str), ("right" : Str), ("needs" : Str)]) (locs := [("known" : Str), ("asked" : Str), ("kind" : Str), ("one" : Str), ("other" : Str), ("lost" : Str)]) (ρ1 := [(("self" : Str), some (.raw (.ref a))), (("name" : Str), some (.str name)), (("left" : Str), some (r.L.v)), (("right" : Str), some (r.R.v)), (("needs" : Str), some (.tup [])), (("known" : Str), none), (("asked" : Str), none), (("kind" : Str), none), (("one" : Str), none), (("other" : Str), none), (("lost" : Str), none)]) rfl rfl rfl rfl rfl rfl rfl rfl rfl (len5 fun _ _ _ _ _ => rfl) rfl (by decide) rfl rfl ?_
  intro L
  refine S_consK ?_
  intro _ _ _
  have hne : a ≠ dx := fun q => by rw [q, e2] at e1; cases e1
  walk_at "gg"
  refine (C_isvar H (by have := hr.ok.lsz; omega) (hd_ok hr.ok.lok) ?_).call
  rw [hr.nov]
  refine ⟨_, rfl, ?_⟩
  walk_at "gg"
  refine (C_vars H (n := n + 8) hr.ok.lok hr.ok.lsz fun ss p1 p2 D1 hD1 => ?_).call
  have hss := hr.ok.vars ss p1 p2
  subst hss
  walk_at "gg"
  intro D2 hD2
  walk_at "gg"
  refine B_list_tup (fun D3 hD3 => ?_) (by simp)
  walk_at "gg"
  refine O_addL (fun D4 hD4 => ?_) (by walk_at "sig") (by walk_at "sig") (by simp)
  walk_at "gg"
  refine S_for rfl ?_ (fun _ => rfl)
  refine IG_plain ?_
  walk_at "gg"
  refine IO_list (l := [.tup [.str "alike", r.R.v, r.R.v]]) (.inl (upd_same _ _ _)) ?_
  generalize hσ4 : (upd (upd (upd (upd σ D1 _) D2 _) D3 _) D4 _) = σ4
  have sb : Sub σ σ4 := by rw [← hσ4]; exact Sub.fresh (Sub.fresh (Sub.fresh (Sub.fresh (.refl _) hD1) hD2) hD3) hD4
  have k1 : σ4 D1 = some (.list (r.vs.map .str)) := by rw [← hσ4]; exact upd_keep hD4 (upd_keep hD3 (upd_keep hD2 (upd_same _ _ _)))
  have k4 : σ4 D4 = some (.list [.tup [.str "alike", r.R.v, r.R.v]]) := by rw [← hσ4]; exact upd_same _ _ _
  refine ⟨trivial, fun l ρ1 σ1 => σ1 = σ4 ∧ ∃ v1 v2 v3 v4, ρ1 = ([("self", some (.raw (.ref a))), ("name", some (.str name)), ("left", some r.L.v), ("right", some r.R.v), ("needs", some (.tup [])), ("known", some (.raw (.ref D1))), ("asked", some (.raw (.ref D4))), ("kind", v1), ("one", v2), ("other", v3), ("lost", v4)] : Rho) ∧ (l = [.tup [.str "alike", r.R.v, r.R.v]] ∨ l = []), ⟨rfl, _, _, _, _, rfl, .inl rfl⟩, ?_, ?_⟩
  · rintro v l ρ1 σ1 ⟨rfl, v1, v2, v3, v4, rfl, hl | hl⟩
    · simp only [List.cons.injEq] at hl
      obtain ⟨rfl, rfl⟩ := hl
      refine ⟨.inl k4, ?_⟩
      walk_at "gg"
      refine O_notInT ?_ rfl rfl (by show _ ≤ 16 * (n + 69); simp [toP, toPs, PyData.depth, PyData.depthAll]; omega)
      have : hasV [.str "alike", .str "unlike"] (.str "alike") = true := hasV_strs "alike" ["alike", "unlike"] |>.trans (by decide)
      rw [this]
      simp only [Bool.not_true]
      walk_at "gg"
      refine S_lcI (cl := [("known", L + 1)]) (ρc := [("known", some (.raw (.ref D1))), ("late", none)]) rfl (by walk_at "cx") rfl (fun _ => rfl) rfl ?_
      refine IG_plain ?_
      walk_at "gg"
      refine (C_vars H (n := n + 8) hr.ok.rok hr.ok.rsz fun s1 q1 _ D5 hD5 => ?_).call
      walk_at "gg"
      refine (C_vars H (n := n + 8) hr.ok.rok hr.ok.rsz fun s2 q2 _ D6 hD6 => ?_).call
      have hl1 : s1.length < 60 := by
        have := q1.length_eq
        have h2 := dedupS_length (l := varsL r.R) (acc := [])
        have h3 := varsL_lt r.R hr.ok.rsz
        simp only [List.length_nil] at h2; omega
      have hl2 : s2.length < 60 := by
        have := q2.length_eq
        have h2 := dedupS_length (l := varsL r.R) (acc := [])
        have h3 := varsL_lt r.R hr.ok.rsz
        simp only [List.length_nil] at h2; omega
      refine O_addL (fun D7 hD7 => ?_) (by walk_at "sig") (by walk_at "sig") (by simp only [List.length_map]; omega)
      refine IO_list (l := (s1 ++ s2).map .str) (.inl (by rw [List.map_append, upd_same])) ?_
      have sb2 : Sub σ1 _ := Sub.fresh (m := .list ((s1.map V.str) ++ s2.map V.str)) (Sub.fresh (m := .list (s2.map V.str)) (Sub.fresh (m := .list (s1.map V.str)) (.refl σ1) hD5) hD6) hD7
      refine comp_map (s1 ++ s2) V.str V.str (fun k => !(r.vs.contains k)) trivial (.inl (by rw [List.map_append, upd_same])) rfl (by rw [List.length_append]; omega) ?_ ?_
      · intro C k hk
        walk_at "gg"
        refine O_notInL ?_ (sb2 _ _ k1) rfl (trees_strs _) (by rw [toPs_strs, depth_strs]; show _ ≤ 16 * (n + 69); omega)
        rw [hasV_strs]
        refine ⟨_, rfl, ?_⟩
        cases hc : r.vs.contains k with
        | true => exact ⟨by simp [hc], .refl _⟩
        | false =>
          refine ⟨by simp [hc], ?_⟩
          walk_at "gg"
          exact ⟨rfl, .refl _⟩
      · intro D8 hD8
        have he : List.filter (fun k => !(r.vs.contains k)) (s1 ++ s2) = [] := by
          refine List.filter_eq_nil_iff.mpr fun k hk => ?_
          have hm : k ∈ varsL r.R := by
            rcases List.mem_append.mp hk with h | h
            · rcases mem_dedupS (q1.mem_iff.mp h) with h | h
              · simp at h
              · exact h
            · rcases mem_dedupS (q2.mem_iff.mp h) with h | h
              · simp at h
              · exact h
          simp [hr.sub k hm]
        rw [he]
        walk_at "gg"
        intro D9 hD9
        refine O_neL (l := []) (m := []) ?_ (upd_keep hD9 (upd_same _ _ _)) (upd_same _ _ _) rfl rfl (by show _ ≤ 16 * (n + 69); simp [toPs, PyData.depthAll]; omega)
        have : eqL [] [] = true := eqL_strs [] []
        rw [this]
        refine ⟨_, rfl, ?_⟩
        simp only [Bool.not_true]
        refine S_forget (Sub.fresh (Sub.fresh (Sub.fresh (Sub.fresh (Sub.fresh (.refl σ1) hD5) hD6) hD7) hD8) hD9) (S_nil ?_)
        walk_at "k"
        refine S_nil ?_
        exact ⟨rfl, _, _, _, _, rfl, .inr (by trivial)⟩
    · cases hl
  · rintro ρ1 σ1 ⟨rfl, v1, v2, v3, v4, rfl, hl⟩
    refine ⟨.inl k4, ?_⟩
    walk_at "k"
    refine S_forget sb ?_
    walk_at "gg"
    refine A_set e1 e2 ?_ (by walk_at "le") (by walk_at "K") (by walk_at "K") (by walk_at "K") (by walk_at "K")
    walk_at "gg"
    refine A_set (by walk_at "sig") (upd_same _ _ _) ?_ (by walk_at "le") (by walk_at "K") (by walk_at "K") (by walk_at "K") (by walk_at "K")
    rw [upd_upd]
    walk_at "gg"
    refine A_set (by walk_at "sig") (upd_same _ _ _) ?_ (by walk_at "le") (by walk_at "K") (by walk_at "K") (by walk_at "K") (by walk_at "K")
    rw [upd_upd]
    walk_at "gg"
    refine A_set (by walk_at "sig") (upd_same _ _ _) ?_ (by walk_at "le") (by walk_at "K") (by walk_at "K") (by walk_at "K") (by walk_at "K")
    rw [upd_upd]
    walk_at "gg"
    exact ⟨_, .refl _, q⟩
theorem C_rule (H : Gs c (KK P) gtab) {r : RuleD} {name : Str} (hr : r.Mk) (q : ∀ a σ', σ a = none → Sub σ σ' → RuleO σ' a r → Q (.raw (.ref a)) σ') : CodeOp c ⟨n + 71, true⟩ σ (.ref 290) [.str name, r.L.v, r.R.v, .tup []] Q X := by
  refine C_cls (fI := 280) (by walk_at "K") (by walk_at "K") (by walk_at "K") fun a dx h1 h2 h3 => ?_
  refine C_ruleInit H hr (upd_same _ _ _) (by rw [upd_ne _ _ h3.symm, upd_same]) ⟨rfl, q a _ h1 ?_ ⟨dx, _, _, ?_, upd_same _ _ _⟩⟩
  · intro b m e
    have hb : b ≠ a := fun q => by rw [q, h1] at e; cases e
    have hd : b ≠ dx := fun q => by rw [q, h2] at e; cases e
    rw [upd_ne _ _ hd, upd_ne _ _ hb, upd_ne _ _ hd]; exact e
  · rw [upd_ne _ _ h3, upd_same]
end
end Mine

-- part D10
set_option maxHeartbeats 2000000
namespace Mine

noncomputable def Kp (f : Addr) (σ σ' : Sig) : Prop := ∀ a m, a ≠ f → σ a = some m → σ' a = some m
theorem Kp.refl (f : Addr) (σ : Sig) : Kp f σ σ := fun _ _ _ h => h
theorem Kp.trans {f : Addr} {σ σ1 σ2 : Sig} (x : Kp f σ σ1) (y : Kp f σ1 σ2) : Kp f σ σ2 := fun a m h e => y a m h (x a m h e)
theorem Kp.sub {f : Addr} {σ σ' : Sig} (x : Sub σ σ') : Kp f σ σ' := fun a m _ e => x a m e
theorem FeedOk.sub {σ σ' : Sig} {f : Addr} {m : Nat} (F : FeedOk σ f m) (x : Sub σ σ') : FeedOk σ' f m := let ⟨cl, cells, k, a, b, d, e⟩ := F; ⟨cl, cells, k, x _ _ a, x _ _ b, d, e⟩
theorem FeedOk.le {σ : Sig} {f : Addr} {m m' : Nat} (F : FeedOk σ f m) (h : m ≤ m') : FeedOk σ f m' := let ⟨cl, cells, k, a, b, d, e⟩ := F; ⟨cl, cells, k, a, b, Nat.le_trans d h, e⟩
noncomputable def good (v : V) : Bool := tree v && decide ((toP v).depth ≤ 10)
structure PairsOk (n : Nat) (l : List (Str × V)) : Prop where
  len : l.length ≤ n
  gd : l.all (fun p => good p.2) = true
theorem trees_append : ∀ {a b : List V}, trees (a ++ b) = (trees a && trees b)
  | [], b => by simp [trees]
  | x :: a, b => by simp [trees, trees_append, Bool.and_assoc]
theorem trees_iff {l : List V} : trees l = true ↔ ∀ v ∈ l, tree v = true := by
  induction l with
  | nil => simp [trees]
  | cons x l ih => simp [trees, ih]
theorem pv_trees {l : List (Str × V)} : trees (pv l) = true ↔ ∀ p ∈ l, tree p.2 = true := by
  rw [trees_iff]; unfold pv
  constructor
  · intro h p hp
    have := h _ (List.mem_map.mpr ⟨p, hp, rfl⟩)
    simpa [tree, trees] using this
  · intro h v hv
    obtain ⟨p, hp, rfl⟩ := List.mem_map.mp hv
    simpa [tree, trees] using h p hp
theorem PairsOk.tr {n : Nat} {l : List (Str × V)} (h : PairsOk n l) : trees (pv l) = true := pv_trees.mpr fun p hp => by
  have := List.all_eq_true.mp h.gd p hp
  simp only [good, Bool.and_eq_true] at this; exact this.1
theorem PairsOk.of {n m : Nat} {l l' : List (Str × V)} (h : PairsOk n l) (hl : l'.length ≤ m) (hs : ∀ p ∈ l', p ∈ l ∨ good p.2 = true) : PairsOk m l' :=
  ⟨hl, List.all_eq_true.mpr fun p hp => (hs p hp).elim (List.all_eq_true.mp h.gd p) id⟩
noncomputable def termsG : List V := [tm "a" [], tm "f" [tm "b" []], tm "g" [tm "a" [], tm "f" [tm "a" []]], tm "h" [tm "b" []]]
noncomputable def wantedG : List (Str × V) := [("swap", .raw (.ref 320)), ("alone", .raw (.ref 321)), ("twice", .raw (.ref 322)), ("plain", .raw (.ref 323))]
section
variable {c : Cx} {P : Params} {n : Nat} {hn : Bool} {σ : Sig} {X : Exn → Sig → Prop} {Q : V → Sig → Prop}
theorem terms_at (H : Gs c (KK P) gtab) : VR c.S (.tup termsG) (.ref 304) := statV H.hc (n := 9) (by kernel_rfl)
theorem w_swap (H : Gs c (KK P) gtab) : LR c σ 320 ((["?x", "?y"] : List Str).map .str) := statL H.hc (n := 9) (by kernel_rfl)
theorem w_alone (H : Gs c (KK P) gtab) : LR c σ 321 ((["?x"] : List Str).map .str) := statL H.hc (n := 9) (by kernel_rfl)
theorem w_twice (H : Gs c (KK P) gtab) : LR c σ 322 ((["?x"] : List Str).map .str) := statL H.hc (n := 9) (by kernel_rfl)
theorem w_plain (H : Gs c (KK P) gtab) : LR c σ 323 (([] : List Str).map .str) := statL H.hc (n := 9) (by kernel_rfl)
theorem wanted_at (H : Gs c (KK P) gtab) (hP : P = c.w.params) : DR c σ 319 wantedG :=
  statD H.hc hP (kvs := [("swap", .ref 320), ("alone", .ref 321), ("twice", .ref 322), ("plain", .ref 323)]) rfl ⟨⟨_, rfl⟩, ⟨_, rfl⟩, ⟨_, rfl⟩, ⟨_, rfl⟩, trivial⟩ (by decide)
    ⟨_, _, rfl, rfl, _, _, rfl, rfl, _, _, rfl, rfl, _, _, rfl, rfl, rfl⟩ (by decide)
theorem C_bent (H : Gs c (KK P) gtab) {f : Addr} {m k : Nat} {pairs : List (Str × V)} (F : FeedOk σ f m) (hm : m ≤ 100000) (hp : PairsOk k pairs) (hk : k ≤ 100)
    (q : ∀ pairs' σ', PairsOk (k + 1) pairs' → FeedOk σ' f (m + 1) → Kp f σ σ' → Q (.tup (pv pairs')) σ') : CodeOp c ⟨n + 2, true⟩ σ (.ref 337) [.raw (.ref f), .tup (pv pairs)] Q X := by
  have hz : (pv pairs).length ≤ 100 := by unfold pv; rw [List.length_map]; exact Nat.le_trans hp.len hk
  refine K_fnK H (f := 337) (params := [("feed" : Str), ("places" : Str)]) (locs := [("way" : Str)]) (ρ1 := [(("feed" : Str), some (.raw (.ref f))), (("places" : Str), some (.tup (pv pairs))), (("way" : Str), none)]) rfl rfl rfl rfl rfl rfl rfl rfl rfl (len2 fun _ _ => rfl) rfl (by decide) rfl rfl ?_
  intro L
  refine S_consK ?_
  intro _ _ _
  walk_at "gg"
  refine (C_draw H F hm (by decide) fun d σ' h0 h1 F' K' => ?_).call
  have Kk : Kp f σ σ' := fun a m h e => (K' a h).trans e
  walk_at "gg"
  split
  · walk_at "gg"
    refine ⟨_, .refl _, ?_⟩
    show Q (.tup _) _
    rw [show (pv pairs).dropLast = pv pairs.dropLast by simp [pv, List.map_dropLast]]
    exact q _ _ (hp.of (by have := hp.len; simp; omega) fun p hp => .inl (List.dropLast_subset _ hp)) F' Kk
  walk_at "gg"
  split
  · walk_at "gg"
    refine ⟨_, .refl _, ?_⟩
    have hq := q (pairs ++ [(("?z" : Str), tm "a" [])]) _ (hp.of (by have := hp.len; simp; omega) fun p hp => by
      rcases List.mem_append.mp hp with h | h
      · exact .inl h
      · simp at h; subst h; exact .inr (by decide +kernel)) F' Kk
    simp only [pv, List.map_append] at hq
    exact hq
  walk_at "gg"
  split
  · walk_at "gg"
    refine ⟨_, .refl _, ?_⟩
    show Q (.tup _) _
    rw [show (pv pairs).reverse = pv pairs.reverse by simp [pv, List.map_reverse]]
    exact q _ _ (hp.of (by have := hp.len; simp; omega) fun p hp => .inl (by simpa using hp)) F' Kk
  walk_at "gg"
  split
  · walk_at "gg"
    refine ⟨_, .refl _, ?_⟩
    have hq := q ((("?w" : Str), tm "b" []) :: pairs.drop 1) _ (hp.of (by have := hp.len; simp; omega) fun p hp => by
      rcases List.mem_cons.mp hp with rfl | h
      · exact .inr (by decide +kernel)
      · exact .inl (List.mem_of_mem_drop h)) F' Kk
    simp only [pv, List.map_cons, List.map_drop] at hq
    exact hq
  walk_at "gg"
  exact ⟨_, .refl _, q _ _ (hp.of (by have := hp.len; omega) fun p hp => .inl hp) F' Kk⟩
theorem LR.kp {σ σ' : Sig} {f w : Addr} {m : Nat} {l : List V} (h : LR c σ w l) (F : FeedOk σ f m) (K : Kp f σ σ') : LR c σ' w l := by
  rcases h with h | h
  · refine .inl (K _ _ ?_ h)
    rintro rfl
    obtain ⟨cl, cells, k, e, _⟩ := F
    rw [h] at e; cases e
  · exact .inr h
theorem I_stat {N : Lv} {u b : V} {v : Value} (r : VR c.S u v) (g : SubOp c N σ u b Q X) : SubOp c N σ (.raw v) b Q X := fun A s QQ EE x y ak R r1 r2 p xp => by
  simp only [VR] at r1; subst r1
  exact g A s QQ EE _ y ak R (VR.mono (fun a xs t => IsTup.stat R a xs t) _ _ r) r2 p xp
theorem names_get {σ : Sig} (H : Gs c (KK P) gtab) {nm : Str} {D : Addr} (hD : σ D = some (.list [.str "?x"])) : ∃ (w : Addr) (ns : List Str), (assoc wantedG nm).getD (.raw (.ref D)) = .raw (.ref w) ∧ LR c σ w (ns.map .str) ∧ ns.length ≤ 2 := by
  simp only [wantedG, assoc]
  split
  · exact ⟨_, _, rfl, w_swap H, by decide⟩
  split
  · exact ⟨_, _, rfl, w_alone H, by decide⟩
  split
  · exact ⟨_, _, rfl, w_twice H, by decide⟩
  split
  · exact ⟨_, _, rfl, w_plain H, by decide⟩
  · exact ⟨D, ["?x"], rfl, .inl hD, by decide⟩
theorem C_step (H : Gs c (KK P) gtab) (hP : P = c.w.params) {f : Addr} {m : Nat} (F : FeedOk σ f m) (hm : m ≤ 90000)
    (q : ∀ path word name pairs back σ', PairsOk 10 pairs → FeedOk σ' f (m + 10) → Kp f σ σ' → Q (stepV path word name pairs back) σ') : CodeOp c ⟨n + 3, true⟩ σ (.ref 342) [.raw (.ref f)] Q X := by
  refine K_fnK H (f := 342) (params := [("feed" : Str)]) (locs := [("kind" : Str), ("name" : Str), ("places" : Str), ("wanted" : Str), ("word" : Str), ("path" : Str)]) (ρ1 := [(("feed" : Str), some (.raw (.ref f))), (("kind" : Str), none), (("name" : Str), none), (("places" : Str), none), (("wanted" : Str), none), (("word" : Str), none), (("path" : Str), none)]) rfl rfl rfl rfl rfl rfl rfl rfl rfl (len1 fun _ => rfl) rfl (by decide) rfl rfl ?_
  intro L
  refine S_consK ?_
  intro _ _ _
  walk_at "gg"
  refine (C_draw H F (by omega) (by decide) fun d σ1 h0 h1 F1 K1 => ?_).call
  have Kk1 : Kp f σ σ1 := fun a m h e => (K1 a h).trans e
  walk_at "gg"
  split
  · rename_i hd
    walk_at "gg"
    refine (C_draw H F1 (by omega) (by decide) fun d2 σ2 h2 h3 F2 K2 => ?_).call
    refine I_any h2 (by simpa using h3) (by simp) fun nm hnm => ?_
    have hnm' : ∃ x, nm = .str x := by
      simp only [List.mem_cons, List.not_mem_nil, or_false] at hnm
      rcases hnm with rfl | rfl | rfl <;> exact ⟨_, rfl⟩
    obtain ⟨x, rfl⟩ := hnm'
    walk_at "gg"
    refine (C_draw H F2 (by omega) (by decide) fun d5 σ5 h5 h6 F5 K5 => ?_).call
    have Kk : Kp f σ σ5 := Kk1.trans (Kp.trans (fun a m h e => (K2 a h).trans e) (fun a m h e => (K5 a h).trans e))
    have Fk : FeedOk σ5 f (m + 7) := F5.le (by omega)
    walk_at "gg"
    split
    · walk_at "gg"
      let pairs : List (Str × V) := [("?x", tm "a" [])]
      have hp : PairsOk 10 pairs := ⟨by decide, by decide +kernel⟩
      rw [hd]
      show EvG _ _ _ _ _ _ _ _
      walk_at "gg"
      refine (C_draw H Fk (by omega) (by decide) fun d3 σ3 g0 g1 F3 K3 => ?_).call
      refine I_any g0 (by simpa using g1) (by simp) fun pth hpth => ?_
      walk_at "gg"
      refine (C_draw H F3 (by omega) (by decide) fun d4 σ4 g0' g1' F4 K4 => ?_).call
      walk_at "gg"
      exact ⟨_, .refl _, q _ _ _ pairs _ _ hp (F4.le (by omega)) (Kk.trans (Kp.trans (fun a m h e => (K3 a h).trans e) (fun a m h e => (K4 a h).trans e)))⟩
    · walk_at "gg"
      let pairs : List (Str × V) := []
      have hp : PairsOk 10 pairs := ⟨by decide, by decide +kernel⟩
      rw [hd]
      show EvG _ _ _ _ _ _ _ _
      walk_at "gg"
      refine (C_draw H Fk (by omega) (by decide) fun d3 σ3 g0 g1 F3 K3 => ?_).call
      refine I_any g0 (by simpa using g1) (by simp) fun pth hpth => ?_
      walk_at "gg"
      refine (C_draw H F3 (by omega) (by decide) fun d4 σ4 g0' g1' F4 K4 => ?_).call
      walk_at "gg"
      exact ⟨_, .refl _, q _ _ _ pairs _ _ hp (F4.le (by omega)) (Kk.trans (Kp.trans (fun a m h e => (K3 a h).trans e) (fun a m h e => (K4 a h).trans e)))⟩
  · rename_i hd
    walk_at "gg"
    refine (C_draw H F1 (by omega) (by decide) fun d2 σ2 h2 h3 F2 K2 => ?_).call
    refine I_any h2 (by simpa using h3) (by simp) fun nm hnm => ?_
    have hnm' : ∃ x, nm = .str x := by
      simp only [List.mem_cons, List.not_mem_nil, or_false] at hnm
      rcases hnm with rfl | rfl | rfl | rfl | rfl <;> exact ⟨_, rfl⟩
    obtain ⟨x, rfl⟩ := hnm'
    walk_at "gg"
    refine exM_get (wanted_at H hP) ?_
    walk_at "gg"
    intro Dl hDl
    walk_at "gg"
    refine B_dget (wanted_at H hP) ?_
    have hDl' : (upd σ2 Dl (.list [.str "?x"])) Dl = some (.list [.str "?x"]) := upd_same _ _ _
    obtain ⟨w, ns, ew, hw, hnl⟩ := names_get (nm := x) H hDl'
    rw [ew]
    have K2' : Kp f σ (upd σ2 Dl (.list [.str "?x"])) := Kk1.trans (Kp.trans (fun a m h e => (K2 a h).trans e) (Kp.sub (Sub.fresh (.refl _) hDl)))
    have F2' : FeedOk (upd σ2 Dl (.list [.str "?x"])) f (m + 2) := F2.sub (Sub.fresh (.refl _) hDl)
    generalize (upd σ2 Dl (.list [.str "?x"])) = τ at hw K2' F2' ⊢
    walk_at "gg"
    refine G_lcI (cl := [("feed", L + 1)]) (ρc := [("feed", some (.raw (.ref f))), ("one", none)]) rfl (by walk_at "cx") (fun _ => rfl) ?_
    refine IG_plain ?_
    walk_at "gg"
    refine IO_list hw ?_
    refine ⟨trivial, fun l acc τ' => ∃ (done rest : List Str) (pr : List (Str × V)), ns = done ++ rest ∧ l = rest.map .str ∧ acc = pv pr ∧ PairsOk done.length pr ∧ FeedOk τ' f (m + 2 + done.length) ∧ Kp f τ τ', ⟨[], ns, [], rfl, rfl, rfl, ⟨by simp, rfl⟩, F2', .refl _ _⟩, ?_, ?_⟩
    · rintro C v l acc τ' ⟨done, rest, pr, e1, e2, rfl, hpr, Fc, Kc⟩
      cases rest with
      | nil => simp at e2
      | cons one rest =>
        simp only [List.map_cons, List.cons.injEq] at e2
        obtain ⟨rfl, rfl⟩ := e2
        have hdl : done.length ≤ 1 := by rw [e1] at hnl; simp at hnl; omega
        refine ⟨hw.kp F2' Kc, by have := hpr.len; simp only [pv, List.length_map]; omega, ?_⟩
        walk_at "gg"
        refine (C_draw H Fc (by omega) (by decide) fun d5 σ5 h5 h6 F5 K5 => ?_).call
        refine I_stat (terms_at H) (I_any h5 (by simpa [termsG] using h6) (by simp [termsG]) fun u hu => ?_)
        walk_at "gg"
        refine ⟨done ++ [one], rest, pr ++ [(one, u)], by rw [e1]; simp, rfl, by simp [pv], ?_, F5.le (by simp; omega), Kc.trans fun a m h e => (K5 a h).trans e⟩
        refine hpr.of (by have := hpr.len; simp; omega) fun p hp => ?_
        rcases List.mem_append.mp hp with h | h
        · exact .inl h
        · simp only [List.mem_cons, List.not_mem_nil, or_false] at h
          subst h
          simp only [termsG, List.mem_cons, List.not_mem_nil, or_false] at hu
          rcases hu with rfl | rfl | rfl | rfl <;> exact .inr (by kernel_rfl)
    · rintro acc τ' ⟨done, rest, pr, e1, e2, rfl, hpr, Fc, Kc⟩
      have hdl : done.length ≤ 2 := by rw [e1] at hnl; simp at hnl; omega
      refine ⟨hw.kp F2' Kc, fun D3 hD3 => ?_⟩
      walk_at "gg"
      refine B_tuple_list (l := pv pr) ?_ (.inl (upd_same _ _ _)) (by have := hpr.len; simp only [pv, List.length_map]; omega)
      walk_at "gg"
      refine (C_bent H (k := 2) (m := m + 4) ((Fc.sub (Sub.fresh (.refl _) hD3)).le (by omega)) (by omega) ⟨by have := hpr.len; omega, hpr.gd⟩ (by decide) fun pairs σ5 hp' F5 K5 => ?_).call
      have hp : PairsOk 10 pairs := ⟨by have := hp'.len; omega, hp'.gd⟩
      have Kk : Kp f σ σ5 := K2'.trans (Kc.trans ((Kp.sub (Sub.fresh (.refl _) hD3)).trans K5))
      walk_at "gg"
      rw [hd]
      show EvG _ _ _ _ _ _ _ _
      walk_at "gg"
      split
      · have Fk : FeedOk σ5 f (m + 7) := F5.le (by omega)
        walk_at "gg"
        refine (C_draw H Fk (by omega) (by decide) fun d3 σ3 g0 g1 F3 K3 => ?_).call
        refine I_any g0 (by simpa using g1) (by simp) fun pth hpth => ?_
        walk_at "gg"
        refine (C_draw H F3 (by omega) (by decide) fun d4 σ4 g0' g1' F4 K4 => ?_).call
        walk_at "gg"
        exact ⟨_, .refl _, q _ _ _ pairs _ _ hp (F4.le (by omega)) (Kk.trans (Kp.trans (fun a m h e => (K3 a h).trans e) (fun a m h e => (K4 a h).trans e)))⟩
      · walk_at "gg"
        refine (C_draw H F5 (by omega) (by decide) fun d6 σ6 h7 h8 F6 K6 => ?_).call
        refine I_any h7 (by simpa using h8) (by simp) fun wd hwd => ?_
        have hwd' : ∃ x, wd = .str x := by
          simp only [List.mem_cons, List.not_mem_nil, or_false] at hwd
          rcases hwd with rfl | rfl <;> exact ⟨_, rfl⟩
        obtain ⟨y, rfl⟩ := hwd'
        have Kk := Kk.trans fun a m h e => (K6 a h).trans e
        have Fk : FeedOk σ6 f (m + 7) := F6.le (by omega)
        walk_at "gg"
        refine (C_draw H Fk (by omega) (by decide) fun d3 σ3 g0 g1 F3 K3 => ?_).call
        refine I_any g0 (by simpa using g1) (by simp) fun pth hpth => ?_
        walk_at "gg"
        refine (C_draw H F3 (by omega) (by decide) fun d4 σ4 g0' g1' F4 K4 => ?_).call
        walk_at "gg"
        exact ⟨_, .refl _, q _ _ _ pairs _ _ hp (F4.le (by omega)) (Kk.trans (Kp.trans (fun a m h e => (K3 a h).trans e) (fun a m h e => (K4 a h).trans e)))⟩
end
end Mine

-- part D11
set_option maxHeartbeats 2000000
namespace Mine

noncomputable def rSwap : RuleD := ⟨.mk "g" [.mk "?x" [], .mk "?y" []], .mk "g" [.mk "?y" [], .mk "?x" []], ["?x", "?y"]⟩
noncomputable def rAlone : RuleD := ⟨.mk "f" [.mk "f" [.mk "?x" []]], .mk "?x" [], ["?x"]⟩
noncomputable def rTwice : RuleD := ⟨.mk "h" [.mk "?x" []], .mk "g" [.mk "?x" [], .mk "f" [.mk "?x" []]], ["?x"]⟩
noncomputable def rPlain : RuleD := ⟨.mk "k" [], .mk "f" [.mk "a" []], []⟩
noncomputable def ruleF (name : Str) : Option RuleD := if name = "swap" then some rSwap else if name = "alone" then some rAlone else if name = "twice" then some rTwice else if name = "plain" then some rPlain else none
theorem perm2 {a b : Str} {ss : List Str} (h : ss.Perm [a, b]) : ss = [a, b] ∨ ss = [b, a] := by
  match ss, h.length_eq with
  | [x, y], _ =>
    have hx : x ∈ [a, b] := h.mem_iff.mp (by simp)
    simp only [List.mem_cons, List.not_mem_nil, or_false] at hx
    rcases hx with rfl | rfl
    · have := (List.perm_cons x).mp h
      have := List.perm_singleton.mp this
      simp at this; subst this; exact .inl rfl
    · have h2 := h.trans (List.Perm.swap x a [])
      have := (List.perm_cons x).mp h2
      have := List.perm_singleton.mp this
      simp at this; subst this; exact .inr rfl
theorem nm_ok {k : Str} (h : (okB k && okB (Txt.slice k none (some 1))) = true) : nameOk k := by
  simp only [okB, Bool.and_eq_true, decide_eq_true_eq] at h; exact h
theorem pairs2 {x y : Str} : ∀ {pairs : List (Str × V)}, pairs.map (·.1) = [x, y] → ∃ u w, pairs = [(x, u), (y, w)]
  | [(a, u), (b, w)], h => by simp at h; obtain ⟨rfl, rfl⟩ := h; exact ⟨u, w, rfl⟩
  | [], h => by simp at h
  | [_], h => by simp at h
  | _ :: _ :: _ :: _, h => by simp at h
theorem pairs1 {x : Str} : ∀ {pairs : List (Str × V)}, pairs.map (·.1) = [x] → ∃ u, pairs = [(x, u)]
  | [(a, u)], h => by simp at h; subst h; exact ⟨u, rfl⟩
  | [], h => by simp at h
  | _ :: _ :: _, h => by simp at h
mutual
noncomputable def Tm.covB (tbl : List (Str × V)) : Tm → Bool
  | .mk s ks => (!(Tm.mk s ks).isVar || (assoc tbl s).isSome) && Tm.covBs tbl ks
noncomputable def Tm.covBs (tbl : List (Str × V)) : List Tm → Bool
  | [] => true
  | t :: ts => t.covB tbl && Tm.covBs tbl ts
end
mutual
theorem cov_of {tbl : List (Str × V)} : ∀ {t : Tm}, t.covB tbl = true → t.cov tbl
  | .mk s ks, h => by
    simp only [Tm.covB, Bool.and_eq_true, Bool.or_eq_true, Bool.not_eq_true'] at h
    exact ⟨fun q => h.1.elim (fun z => by rw [q] at z; cases z) id, covs_of h.2⟩
theorem covs_of {tbl : List (Str × V)} : ∀ {l : List Tm}, Tm.covBs tbl l = true → Tm.covs tbl l
  | [], _ => trivial
  | t :: ts, h => by
    simp only [Tm.covBs, Bool.and_eq_true] at h
    exact ⟨cov_of h.1, covs_of h.2⟩
end
mutual
noncomputable def Tm.okT : Tm → Bool
  | .mk s ks => (okB s && okB (Txt.slice s none (some 1))) && Tm.okTs ks
noncomputable def Tm.okTs : List Tm → Bool
  | [] => true
  | t :: ts => t.okT && Tm.okTs ts
end
mutual
theorem ok_of : ∀ {t : Tm}, t.okT = true → t.ok
  | .mk s ks, h => by
    simp only [Tm.okT] at h
    rw [Bool.and_eq_true] at h
    exact ⟨nm_ok h.1, oks_of h.2⟩
theorem oks_of : ∀ {l : List Tm}, Tm.okTs l = true → Tm.oks l
  | [], _ => trivial
  | t :: ts, h => by
    simp only [Tm.okTs, Bool.and_eq_true] at h
    exact ⟨ok_of h.1, oks_of h.2⟩
end
theorem vars2 {L : Tm} {a b : Str} (e : dedupS [] (varsL L) = [a, b]) (s' : sortedS [b, a] = false) : ∀ ss, ss.Perm (dedupS [] (varsL L)) → sortedS ss = true → ss = [a, b] := fun ss p s => by
  rw [e] at p
  rcases perm2 p with rfl | rfl
  · rfl
  · rw [s'] at s; cases s
theorem vars1 {L : Tm} {a : Str} (e : dedupS [] (varsL L) = [a]) : ∀ ss, ss.Perm (dedupS [] (varsL L)) → sortedS ss = true → ss = [a] := fun ss p s => by
  rw [e] at p; exact List.perm_singleton.mp p
theorem vars0 {L : Tm} (e : dedupS [] (varsL L) = []) : ∀ ss, ss.Perm (dedupS [] (varsL L)) → sortedS ss = true → ss = [] := fun ss p s => by
  rw [e] at p; exact List.perm_nil.mp p
theorem sub_of {vs ws : List Str} (h : ws.all (fun k => vs.contains k) = true) : ∀ k ∈ ws, k ∈ vs := fun k hk => by
  have := List.all_eq_true.mp h k hk; simpa using this
theorem swap_ok : rSwap.Mk :=
  ⟨⟨ok_of (by decide +kernel), ok_of (by decide +kernel), by decide, by decide, vars2 (by kernel_rfl) (by decide +kernel), fun pairs h => by
    obtain ⟨u, w, rfl⟩ := pairs2 h
    exact ⟨cov_of (by kernel_rfl), cov_of (by kernel_rfl)⟩⟩, by decide +kernel, sub_of (by decide +kernel)⟩
theorem alone_ok : rAlone.Mk :=
  ⟨⟨ok_of (by decide +kernel), ok_of (by decide +kernel), by decide, by decide, vars1 (by kernel_rfl), fun pairs h => by
    obtain ⟨u, rfl⟩ := pairs1 h
    exact ⟨cov_of (by kernel_rfl), cov_of (by kernel_rfl)⟩⟩, by decide +kernel, sub_of (by decide +kernel)⟩
theorem twice_ok : rTwice.Mk :=
  ⟨⟨ok_of (by decide +kernel), ok_of (by decide +kernel), by decide, by decide, vars1 (by kernel_rfl), fun pairs h => by
    obtain ⟨u, rfl⟩ := pairs1 h
    exact ⟨cov_of (by kernel_rfl), cov_of (by kernel_rfl)⟩⟩, by decide +kernel, sub_of (by decide +kernel)⟩
theorem plain_ok : rPlain.Mk :=
  ⟨⟨ok_of (by decide +kernel), ok_of (by decide +kernel), by decide, by decide, vars0 (by kernel_rfl), fun pairs h => by
    have : pairs = [] := by simpa [rPlain] using h
    subst this
    exact ⟨cov_of (by kernel_rfl), cov_of (by kernel_rfl)⟩⟩, by decide +kernel, sub_of (by decide +kernel)⟩
section
variable {c : Cx} {P : Params} {n : Nat} {hn : Bool} {σ : Sig} {X : Exn → Sig → Prop} {Q : V → Sig → Prop}
noncomputable def good2 (v : V) : Bool := tree v && decide ((toP v).depth ≤ 20)
/-- a rule by its name -/
structure RuleAt (c : Cx) (name : Str) (r : RuleD) (w : Addr) : Prop where
  f : ruleF name = some r
  g : assoc rulesG name = some (.tup [r.L.v, r.R.v])
  aw : assoc wantedG name = some (.raw (.ref w))
  l : ∀ σ, LR c σ w (r.vs.map .str)
  rmk : r.Mk
  put : ∀ pairs : List (Str × V), pairs.map (·.1) = r.vs → putT (putAll [] pairs) r.L = fillT (putAll [] pairs) r.L ∧ putT (putAll [] pairs) r.R = fillT (putAll [] pairs) r.R
  tr : ∀ pairs : List (Str × V), pairs.map (·.1) = r.vs → pairs.all (fun p => good p.2) = true → good2 (fillT (putAll [] pairs) r.L) = true ∧ good2 (fillT (putAll [] pairs) r.R) = true
theorem good_iff {v : V} : good v = true ↔ tree v = true ∧ (toP v).depth ≤ 10 := by simp [good]
theorem good2_iff {v : V} : good2 v = true ↔ tree v = true ∧ (toP v).depth ≤ 20 := by simp [good2]
theorem tree2 {x y : Str} {u w : V} (h : [(x, u), (y, w)].all (fun p => good p.2) = true) : (tree u = true ∧ (toP u).depth ≤ 10) ∧ tree w = true ∧ (toP w).depth ≤ 10 := by
  simpa [good_iff] using h
theorem tree1 {x : Str} {u : V} (h : [(x, u)].all (fun p => good p.2) = true) : tree u = true ∧ (toP u).depth ≤ 10 := by
  simpa [good_iff] using h
theorem rule_cases (H : Gs c (KK P) gtab) (name : Str) : (ruleF name = none ∧ assoc rulesG name = none) ∨ ∃ r w, RuleAt c name r w := by
  by_cases h1 : name = "swap"
  · subst h1
    refine .inr ⟨rSwap, 320, by kernel_rfl, by kernel_rfl, by kernel_rfl, fun σ => w_swap H, swap_ok, fun pairs h => ?_, fun pairs h ht => ?_⟩
    · obtain ⟨u, w, rfl⟩ := pairs2 h
      exact ⟨by kernel_rfl, by kernel_rfl⟩
    · obtain ⟨u, w, rfl⟩ := pairs2 h
      obtain ⟨a, b⟩ := tree2 ht
      have e1 : fillT (putAll [] [("?x", u), ("?y", w)]) rSwap.L = .tup [.str "g", u, w] := by kernel_rfl
      have e2 : fillT (putAll [] [("?x", u), ("?y", w)]) rSwap.R = .tup [.str "g", w, u] := by kernel_rfl
      rw [e1, e2, good2_iff, good2_iff]; simp [tree, trees, a, b, toP, toPs, PyData.depth, PyData.depthAll]; omega
  by_cases h2 : name = "alone"
  · subst h2
    refine .inr ⟨rAlone, 321, by kernel_rfl, by kernel_rfl, by kernel_rfl, fun σ => w_alone H, alone_ok, fun pairs h => ?_, fun pairs h ht => ?_⟩
    · obtain ⟨u, rfl⟩ := pairs1 h
      exact ⟨by kernel_rfl, by kernel_rfl⟩
    · obtain ⟨u, rfl⟩ := pairs1 h
      have a := tree1 ht
      have e1 : fillT (putAll [] [("?x", u)]) rAlone.L = .tup [.str "f", .tup [.str "f", u]] := by kernel_rfl
      have e2 : fillT (putAll [] [("?x", u)]) rAlone.R = u := by kernel_rfl
      rw [e1, e2, good2_iff, good2_iff]; simp [tree, trees, a, toP, toPs, PyData.depth, PyData.depthAll]; omega
  by_cases h3 : name = "twice"
  · subst h3
    refine .inr ⟨rTwice, 322, by kernel_rfl, by kernel_rfl, by kernel_rfl, fun σ => w_twice H, twice_ok, fun pairs h => ?_, fun pairs h ht => ?_⟩
    · obtain ⟨u, rfl⟩ := pairs1 h
      exact ⟨by kernel_rfl, by kernel_rfl⟩
    · obtain ⟨u, rfl⟩ := pairs1 h
      have a := tree1 ht
      have e1 : fillT (putAll [] [("?x", u)]) rTwice.L = .tup [.str "h", u] := by kernel_rfl
      have e2 : fillT (putAll [] [("?x", u)]) rTwice.R = .tup [.str "g", u, .tup [.str "f", u]] := by kernel_rfl
      rw [e1, e2, good2_iff, good2_iff]; simp [tree, trees, a, toP, toPs, PyData.depth, PyData.depthAll]; omega
  by_cases h4 : name = "plain"
  · subst h4
    refine .inr ⟨rPlain, 323, by kernel_rfl, by kernel_rfl, by kernel_rfl, fun σ => w_plain H, plain_ok, fun pairs h => ?_, fun pairs h ht => ?_⟩
    · have : pairs = [] := by simpa [rPlain] using h
      subst this
      exact ⟨by kernel_rfl, by kernel_rfl⟩
    · have : pairs = [] := by simpa [rPlain] using h
      subst this
      exact ⟨by kernel_rfl, by kernel_rfl⟩
  refine .inl ⟨?_, ?_⟩
  · unfold ruleF; rw [if_neg h1, if_neg h2, if_neg h3, if_neg h4]
  · unfold rulesG
    simp only [assoc]
    rw [if_neg (Ne.symm h1), if_neg (Ne.symm h2), if_neg (Ne.symm h3), if_neg (Ne.symm h4)]
end
end Mine

-- part D12
set_option maxHeartbeats 2000000
namespace Mine

theorem known_ok {nm : Str} {v : V} (h : assoc knownG nm = some v) : ∃ u w, v = .tup [u, w] ∧ tree u = true ∧ tree w = true := by
  simp only [knownG, assoc] at h
  split at h
  · cases h; exact ⟨_, _, rfl, rfl, rfl⟩
  split at h
  · cases h; exact ⟨_, _, rfl, rfl, rfl⟩
  · cases h
section
variable {c : Cx} {P : Params} {n : Nat} {hn : Bool} {σ : Sig} {X : Exn → Sig → Prop} {Q : V → Sig → Prop}
theorem C_due (H : Gs c (KK P) gtab) (hP : P = c.w.params) {path : V} {word name : Str} {pairs : List (Str × V)} {back : Bool} (hp : pairs.length ≤ 1000) (ht : trees (pv pairs) = true)
    (q0 : sidesR ruleF knownG word name pairs = none → Q .none σ)
    (q1 : ∀ u w, sidesR ruleF knownG word name pairs = some (u, w) → Q (if back then .tup [w, u] else .tup [u, w]) σ) :
    CodeOp c ⟨n + 66, true⟩ σ (.ref 352) [stepV path word name pairs back] Q X := by
  refine K_fnK H (f := 352) (params := [("step" : Str)]) (locs := [("path" : Str), ("word" : Str), ("name" : Str), ("places" : Str), ("is_back" : Str), ("found" : Str)]) (ρ1 := [(("step" : Str), some (.tup [path, .str word, .str name, .tup (pv pairs), .bool back])), (("path" : Str), none), (("word" : Str), none), (("name" : Str), none), (("places" : Str), none), (("is_back" : Str), none), (("found" : Str), none)]) rfl rfl rfl rfl rfl rfl rfl rfl rfl (len1 fun _ => rfl) rfl (by decide) rfl rfl ?_
  intro L
  refine S_consK ?_
  intro _ _ _
  walk_at "gg"
  by_cases hw : word = "told"
  · have hw' : decide (word = "told") = true := decide_eq_true hw
    rw [hw']
    walk_at "gg"
    refine O_eq ?_ ht rfl (Nat.le_trans (Nat.min_le_right _ _) (Nat.le_trans depth_nil (by show _ ≤ 16 * (n + 65); omega)))
    rw [eqV_nil]
    refine ⟨_, rfl, ?_⟩
    by_cases hn : pairs = []
    · have hn' : decide (pv pairs = []) = true := by rw [hn]; rfl
      rw [hn']
      walk_at "gg"
      refine (C_known H (n := n + 64) fun D1 hD1 => ?_).call
      refine O_in ?_ (.inl (upd_same _ _ _))
      cases ha : assoc knownG name with
      | none =>
        refine ⟨_, rfl, ?_⟩
        simp only [Option.isSome_none]
        have hno : ¬ (word = "rule") := by rw [hw]; decide
        walk_at "gg"
        rw [decide_eq_false hno]
        walk_at "gg"
        exact ⟨_, Sub.fresh (.refl _) hD1, q0 (by unfold sidesR; rw [if_pos ⟨hw, hn⟩, ha]; rfl)⟩
      | some v =>
        obtain ⟨u, w, rfl, _⟩ := known_ok ha
        have hs : sidesR ruleF knownG word name pairs = some (u, w) := by unfold sidesR; rw [if_pos ⟨hw, hn⟩, ha]; rfl
        refine ⟨_, rfl, ?_⟩
        simp only [Option.isSome_some]
        walk_at "gg"
        refine (C_known H (n := n + 64) fun D2 hD2 => ?_).call
        walk_at "gg"
        refine I_dict ?_ (.inl (upd_same _ _ _)) ha
        walk_at "gg"
        cases back with
        | true =>
          walk_at "gg"
          exact ⟨_, Sub.fresh (Sub.fresh (.refl _) hD1) hD2, q1 _ _ hs⟩
        | false =>
          walk_at "gg"
          exact ⟨_, Sub.fresh (Sub.fresh (.refl _) hD1) hD2, q1 _ _ hs⟩
    · have hn' : decide (pv pairs = []) = false := by cases pairs <;> simp_all [pv]
      have hno : ¬ (word = "told" ∧ pairs = []) := fun q => hn q.2
      rw [hn']
      walk_at "gg"
      by_cases hr : word = "rule"
      · have hr' : decide (word = "rule") = true := decide_eq_true hr
        rw [hr']
        walk_at "gg"
        refine (C_rules H (n := n + 64) fun D2 hD2 => ?_).call
        refine O_in ?_ (.inl (upd_same _ _ _))
        rcases rule_cases H name with ⟨hf, hg⟩ | ⟨r, w, ra⟩
        · rw [hg]
          refine ⟨_, rfl, ?_⟩
          simp only [Option.isSome_none]
          walk_at "gg"
          exact ⟨_, Sub.fresh (.refl _) hD2, q0 (by unfold sidesR; rw [if_neg hno, if_pos hr, hf])⟩
        · rw [ra.g]
          refine ⟨_, rfl, ?_⟩
          simp only [Option.isSome_some]
          walk_at "gg"
          refine G_lcI (cl := []) (ρc := [("one", none), ("t", none)]) rfl (by walk_at "cx") (fun _ => rfl) ?_
          refine IG_plain ?_
          walk_at "gg"
          refine IO_tup ?_
          refine comp_map pairs (fun p => .tup [.str p.1, p.2]) (fun p => .str p.1) (fun _ => true) trivial trivial rfl (by omega) ?_ ?_
          · intro C p hp
            walk_at "gg"
            refine ⟨rfl, ?_⟩
            walk_at "gg"
            exact ⟨rfl, .refl _⟩
          · intro D3 hD3
            walk_at "gg"
            refine I_dict ?_ (wanted_at H hP) ra.aw
            refine O_eqLR (l := (pairs.map (·.1)).map .str) ?_ (.inl (by rw [filt_true, List.map_map, upd_same]; rfl)) (ra.l _) (trees_strs _) (trees_strs _) (by rw [toPs_strs, toPs_strs, depth_strs, depth_strs]; show _ ≤ 16 * (n + 65); omega)
            rw [eqL_strs]
            refine ⟨_, rfl, ?_⟩
            by_cases hv : pairs.map (·.1) = r.vs
            · have hs : sidesR ruleF knownG word name pairs = some (fillT (putAll [] pairs) r.L, fillT (putAll [] pairs) r.R) := by
                unfold sidesR; rw [if_neg hno, if_pos hr, ra.f]; simp only; rw [if_pos hv]
              simp only [hv, decide_true]
              walk_at "gg"
              refine G_lcI (cl := [("places", L + 1)]) (ρc := [("places", some (.tup (pv pairs))), ("side", none)]) rfl (by walk_at "cx") (fun _ => rfl) ?_
              refine IG_plain ?_
              walk_at "gg"
              refine (C_rules H (n := n + 64) fun D4 hD4 => ?_).call
              walk_at "gg"
              refine I_dict ?_ (.inl (upd_same _ _ _)) ra.g
              refine IO_tup ?_
              refine comp_map [r.L, r.R] Tm.v (putT (putAll [] pairs)) (fun _ => true) trivial trivial rfl (by simp) ?_ ?_
              · intro C t ht
                have hsz : t.sz < 60 := by
                  simp only [List.mem_cons, List.not_mem_nil, or_false] at ht
                  rcases ht with rfl | rfl
                  · exact ra.rmk.ok.lsz
                  · exact ra.rmk.ok.rsz
                walk_at "gg"
                refine ⟨rfl, ?_⟩
                walk_at "gg"
                refine B_dict_pairsT rfl (fun D5 hD5 => ?_) (by omega)
                walk_at "gg"
                exact (C_put H 60 (n + 5) _ _ _ t (by have := ht_sz t; omega) (by omega) (.inl (upd_same _ _ _)) ⟨rfl, Sub.fresh (.refl _) hD5⟩).call
              · intro D6 hD6
                have hp' := ra.put pairs hv
                rw [show List.map (putT (putAll [] pairs)) (List.filter (fun _ => true) [r.L, r.R]) = [fillT (putAll [] pairs) r.L, fillT (putAll [] pairs) r.R] by rw [← hp'.1, ← hp'.2]; rfl]
                walk_at "gg"
                cases back with
                | true =>
                  walk_at "gg"
                  exact ⟨_, Sub.fresh (Sub.fresh (Sub.fresh (Sub.fresh (.refl _) hD2) hD3) hD4) hD6, q1 _ _ hs⟩
                | false =>
                  walk_at "gg"
                  exact ⟨_, Sub.fresh (Sub.fresh (Sub.fresh (Sub.fresh (.refl _) hD2) hD3) hD4) hD6, q1 _ _ hs⟩
            · have hs : sidesR ruleF knownG word name pairs = none := by
                unfold sidesR; rw [if_neg hno, if_pos hr, ra.f]; simp only; rw [if_neg hv]
              simp only [hv, decide_false]
              walk_at "gg"
              exact ⟨_, Sub.fresh (Sub.fresh (.refl _) hD2) hD3, q0 hs⟩
      · have hr' : decide (word = "rule") = false := decide_eq_false hr
        rw [hr']
        walk_at "gg"
        exact ⟨_, .refl _, q0 (by unfold sidesR; rw [if_neg hno, if_neg hr])⟩
  · have hw' : decide (word = "told") = false := decide_eq_false hw
    have hno : ¬ (word = "told" ∧ pairs = []) := fun q => hw q.1
    rw [hw']
    walk_at "gg"
    by_cases hr : word = "rule"
    · have hr' : decide (word = "rule") = true := decide_eq_true hr
      rw [hr']
      walk_at "gg"
      refine (C_rules H (n := n + 64) fun D2 hD2 => ?_).call
      refine O_in ?_ (.inl (upd_same _ _ _))
      rcases rule_cases H name with ⟨hf, hg⟩ | ⟨r, w, ra⟩
      · rw [hg]
        refine ⟨_, rfl, ?_⟩
        simp only [Option.isSome_none]
        walk_at "gg"
        exact ⟨_, Sub.fresh (.refl _) hD2, q0 (by unfold sidesR; rw [if_neg hno, if_pos hr, hf])⟩
      · rw [ra.g]
        refine ⟨_, rfl, ?_⟩
        simp only [Option.isSome_some]
        walk_at "gg"
        refine G_lcI (cl := []) (ρc := [("one", none), ("t", none)]) rfl (by walk_at "cx") (fun _ => rfl) ?_
        refine IG_plain ?_
        walk_at "gg"
        refine IO_tup ?_
        refine comp_map pairs (fun p => .tup [.str p.1, p.2]) (fun p => .str p.1) (fun _ => true) trivial trivial rfl (by omega) ?_ ?_
        · intro C p hp
          walk_at "gg"
          refine ⟨rfl, ?_⟩
          walk_at "gg"
          exact ⟨rfl, .refl _⟩
        · intro D3 hD3
          walk_at "gg"
          refine I_dict ?_ (wanted_at H hP) ra.aw
          refine O_eqLR (l := (pairs.map (·.1)).map .str) ?_ (.inl (by rw [filt_true, List.map_map, upd_same]; rfl)) (ra.l _) (trees_strs _) (trees_strs _) (by rw [toPs_strs, toPs_strs, depth_strs, depth_strs]; show _ ≤ 16 * (n + 65); omega)
          rw [eqL_strs]
          refine ⟨_, rfl, ?_⟩
          by_cases hv : pairs.map (·.1) = r.vs
          · have hs : sidesR ruleF knownG word name pairs = some (fillT (putAll [] pairs) r.L, fillT (putAll [] pairs) r.R) := by
              unfold sidesR; rw [if_neg hno, if_pos hr, ra.f]; simp only; rw [if_pos hv]
            simp only [hv, decide_true]
            walk_at "gg"
            refine G_lcI (cl := [("places", L + 1)]) (ρc := [("places", some (.tup (pv pairs))), ("side", none)]) rfl (by walk_at "cx") (fun _ => rfl) ?_
            refine IG_plain ?_
            walk_at "gg"
            refine (C_rules H (n := n + 64) fun D4 hD4 => ?_).call
            walk_at "gg"
            refine I_dict ?_ (.inl (upd_same _ _ _)) ra.g
            refine IO_tup ?_
            refine comp_map [r.L, r.R] Tm.v (putT (putAll [] pairs)) (fun _ => true) trivial trivial rfl (by simp) ?_ ?_
            · intro C t ht
              have hsz : t.sz < 60 := by
                simp only [List.mem_cons, List.not_mem_nil, or_false] at ht
                rcases ht with rfl | rfl
                · exact ra.rmk.ok.lsz
                · exact ra.rmk.ok.rsz
              walk_at "gg"
              refine ⟨rfl, ?_⟩
              walk_at "gg"
              refine B_dict_pairsT rfl (fun D5 hD5 => ?_) (by omega)
              walk_at "gg"
              exact (C_put H 60 (n + 5) _ _ _ t (by have := ht_sz t; omega) (by omega) (.inl (upd_same _ _ _)) ⟨rfl, Sub.fresh (.refl _) hD5⟩).call
            · intro D6 hD6
              have hp' := ra.put pairs hv
              rw [show List.map (putT (putAll [] pairs)) (List.filter (fun _ => true) [r.L, r.R]) = [fillT (putAll [] pairs) r.L, fillT (putAll [] pairs) r.R] by rw [← hp'.1, ← hp'.2]; rfl]
              walk_at "gg"
              cases back with
              | true =>
                walk_at "gg"
                exact ⟨_, Sub.fresh (Sub.fresh (Sub.fresh (Sub.fresh (.refl _) hD2) hD3) hD4) hD6, q1 _ _ hs⟩
              | false =>
                walk_at "gg"
                exact ⟨_, Sub.fresh (Sub.fresh (Sub.fresh (Sub.fresh (.refl _) hD2) hD3) hD4) hD6, q1 _ _ hs⟩
          · have hs : sidesR ruleF knownG word name pairs = none := by
              unfold sidesR; rw [if_neg hno, if_pos hr, ra.f]; simp only; rw [if_neg hv]
            simp only [hv, decide_false]
            walk_at "gg"
            exact ⟨_, Sub.fresh (Sub.fresh (.refl _) hD2) hD3, q0 hs⟩
    · have hr' : decide (word = "rule") = false := decide_eq_false hr
      rw [hr']
      walk_at "gg"
      exact ⟨_, .refl _, q0 (by unfold sidesR; rw [if_neg hno, if_neg hr])⟩
end
end Mine

-- part D13
set_option maxHeartbeats 2000000
namespace Mine

section
variable {c : Cx} {P : Params} {n : Nat} {hn : Bool} {σ : Sig} {X : Exn → Sig → Prop} {Q : V → Sig → Prop}
theorem C_heard (H : Gs c (KK P) gtab) {s : Addr} {rule : Str → Option RuleD} {known pairs : List (Str × V)} {path : V} {word name : Str} {back : Bool} {num : Int} (M : Made c σ s rule known) (hok : ∀ nm r, rule nm = some r → r.Ok) (hkn : ∀ nm v, assoc known nm = some v → ∃ u w, v = .tup [u, w])
    (hp : pairs.length ≤ 1000) (ht : trees (pv pairs) = true)
    (q0 : sidesR rule known word name pairs = none → Q (.int num) σ)
    (q1 : ∀ u w, sidesR rule known word name pairs = some (u, w) → Q (if back then .tup [w, u] else .tup [u, w]) σ) :
    CodeOp c ⟨n + 72, true⟩ σ (.ref 359) [.raw (.ref s), stepV path word name pairs back, .int num] Q X := by
  refine K_fnK H (f := 359) (params := [("made" : Str), ("step" : Str), ("number" : Str)]) (locs := [("fault" : Str)]) (ρ1 := [(("made" : Str), some (.raw (.ref s))), (("step" : Str), some (stepV path word name pairs back)), (("number" : Str), some (.int num)), (("fault" : Str), none)]) rfl rfl rfl rfl rfl rfl rfl rfl rfl (len3 fun _ _ _ => rfl) rfl (by decide) rfl rfl ?_
  intro L
  refine S_consK ?_
  intro _ _ _
  have M' := M
  obtain ⟨ds, j, dj, rd, kd, l, h1, h2, h3, h4, h5, h6, h7⟩ := M'
  refine S_try_as (C0 := .ref 100) (SX0 := fun ex ρ' σ' => ρ' = [(("made" : Str), some (.raw (.ref s))), (("step" : Str), some (stepV path word name pairs back)), (("number" : Str), some (.int num)), (("fault" : Str), none)] ∧ σ' = σ ∧ ex.C = 100 ∧ assoc ex.fs "place" = some (.int num) ∧ sidesR rule known word name pairs = none) rfl ?_ ?_
  · walk_at "gg"
    refine ⟨_, M_own (f := 240) ⟨ds, h1, h2⟩ rfl (by walk_at "K") (by walk_at "K") (by walk_at "K"), ?_⟩
    walk_at "gg"
    refine (C_sides H M hok hkn hp ht (fun u w e => ?_) fun e ex e1 e2 => ?_).call
    · walk_at "k"
      exact ⟨_, .refl _, q1 u w e⟩
    · exact ⟨rfl, rfl, e1, e2, e⟩
  · rintro ⟨C, fs⟩ ρ' σ' ⟨rfl, rfl, e1, e2, e⟩
    simp only at e1 e2
    subst e1
    refine ⟨by walk_at "K", fun σ1 => ?_, fun e dx he hdx hne => ?_⟩
    · walk_at "gg"
      exact ⟨rfl, rfl⟩
    · walk_at "gg"
      refine A_ownE ?_ (upd_same _ _ _) (upd_keepN hne.symm (upd_same _ _ _)) e2 rfl (by walk_at "K") (by walk_at "K") (by walk_at "K") (by walk_at "K") (by walk_at "K")
      walk_at "gg"
      exact ⟨_, Sub.fresh (Sub.fresh (.refl _) hdx) (by rw [upd_ne _ _ hne]; exact he), q0 (by assumption)⟩
end
end Mine

-- part D14
set_option maxHeartbeats 2000000
namespace Mine

noncomputable def ruleItems : List (Str × RuleD) := [("alone", rAlone), ("plain", rPlain), ("swap", rSwap), ("twice", rTwice)]
/-- the rules that are made so far -/
noncomputable def RAcc (τ : Sig) (f : Addr) : List (Str × RuleD) → List (Str × V) → Prop
  | [], vs => vs = []
  | (n, r) :: ds, vs => ∃ a rest, vs = (n, .raw (.ref a)) :: rest ∧ a ≠ f ∧ RuleO τ a r ∧ RAcc τ f ds rest
theorem RAcc.sub {τ τ' : Sig} {f : Addr} (x : Sub τ τ') : ∀ {ds : List (Str × RuleD)} {vs : List (Str × V)}, RAcc τ f ds vs → RAcc τ' f ds vs
  | [], _, h => h
  | (n, r) :: ds, vs, ⟨a, rest, h1, h2, h3, h4⟩ => ⟨a, rest, h1, h2, h3.sub x, RAcc.sub x h4⟩
theorem RAcc.snoc {τ : Sig} {f a : Addr} {n : Str} {r : RuleD} (ha : a ≠ f) (hr : RuleO τ a r) : ∀ {ds : List (Str × RuleD)} {vs : List (Str × V)}, RAcc τ f ds vs → RAcc τ f (ds ++ [(n, r)]) (vs ++ [(n, .raw (.ref a))])
  | [], vs, h => by simp only [RAcc] at h; subst h; exact ⟨a, [], rfl, ha, hr, rfl⟩
  | (n', r') :: ds, vs, ⟨b, rest, h1, h2, h3, h4⟩ => by subst h1; exact ⟨b, rest ++ _, rfl, h2, h3, RAcc.snoc ha hr h4⟩
theorem RAcc.len {τ : Sig} {f : Addr} : ∀ {ds : List (Str × RuleD)} {vs : List (Str × V)}, RAcc τ f ds vs → vs.length = ds.length
  | [], vs, h => by simp only [RAcc] at h; subst h; rfl
  | (n', r') :: ds, vs, ⟨b, rest, h1, h2, h3, h4⟩ => by subst h1; simp [RAcc.len h4]
theorem RuleO.del {τ : Sig} {f a : Addr} {r : RuleD} {l : List (Str × V)} (hf : τ f = some (.dict l)) (ha : a ≠ f) (h : RuleO τ a r) : RuleO (del τ f) a r := by
  obtain ⟨dx, nm, nd, e1, e2⟩ := h
  refine ⟨dx, nm, nd, by unfold Mine.del; rw [if_neg ha]; exact e1, ?_⟩
  have : dx ≠ f := by rintro rfl; rw [hf] at e2; cases e2
  unfold Mine.del; rw [if_neg this]; exact e2
theorem RAcc.rules {τ : Sig} {f : Addr} {l : List (Str × V)} {vs : List (Str × V)} (hf : τ f = some (.dict l)) (h : RAcc τ f ruleItems vs) : putAll [] vs = vs ∧ RulesO (del τ f) vs ruleF := by
  obtain ⟨a1, _, rfl, n1, r1, a2, _, rfl, n2, r2, a3, _, rfl, n3, r3, a4, _, rfl, n4, r4, rfl⟩ := h
  refine ⟨by kernel_rfl, fun name => ?_⟩
  by_cases h1 : name = "swap"
  · subst h1
    exact ⟨a3, by kernel_rfl, r3.del hf n3⟩
  by_cases h2 : name = "alone"
  · subst h2
    exact ⟨a1, by kernel_rfl, r1.del hf n1⟩
  by_cases h3 : name = "twice"
  · subst h3
    exact ⟨a4, by kernel_rfl, r4.del hf n4⟩
  by_cases h4 : name = "plain"
  · subst h4
    exact ⟨a2, by kernel_rfl, r2.del hf n2⟩
  have e : ruleF name = none := by unfold ruleF; rw [if_neg h1, if_neg h2, if_neg h3, if_neg h4]
  rw [e]
  simp only [assoc]
  rw [if_neg (Ne.symm h2), if_neg (Ne.symm h4), if_neg (Ne.symm h1), if_neg (Ne.symm h3)]
theorem lslice_to {l : List V} {k : Nat} : lslice l none (some (k : Int)) none = l.take k := by
  unfold lslice sliceBounds sliceRange
  simp only [Option.getD_none, show (1 : Int) > 0 from by decide, if_true]
  rw [if_neg (show ¬ ((k : Int) < 0) by omega)]
  have e : max (0 : Int) (min (k : Int) (l.length : Int)) = ((min k l.length : Nat) : Int) := by omega
  rw [e, List.filterMap_map]
  have e2 : (if (0 : Int) < ((min k l.length : Nat) : Int) then (((min k l.length : Nat) : Int) - 0 + 1 - 1) / 1 else 0).toNat = min k l.length := by
    split
    · rw [Int.ediv_one]; omega
    · omega
  rw [e2]
  have e3 : ((fun (x : Nat) => l[x]?) ∘ fun (i : Nat) => ((0 : Int) + 1 * (i : Int)).toNat) = fun (x : Nat) => l[x]? := by
    funext i; simp
  rw [e3, range_take]
  exact List.take_eq_take_min.symm
/-- the Steps object, and the feed beside it -/
noncomputable def LoopOk (c : Cx) (f s : Addr) (τ : Sig) (m : Nat) : Prop := ∃ σ0, Sub σ0 τ ∧ σ0 f = none ∧ Made c σ0 s ruleF knownG ∧ FeedOk τ f m
theorem LoopOk.kp {c : Cx} {f s : Addr} {τ τ' : Sig} {m m' : Nat} (h : LoopOk c f s τ m) (k : Kp f τ τ') (F : FeedOk τ' f m') : LoopOk c f s τ' m' := by
  obtain ⟨σ0, x, h0, M, _⟩ := h
  refine ⟨σ0, fun a m e => k a m ?_ (x a m e), h0, M, F⟩
  rintro rfl; rw [h0] at e; cases e
theorem LoopOk.made {c : Cx} {f s : Addr} {τ : Sig} {m : Nat} (h : LoopOk c f s τ m) : Made c τ s ruleF knownG := let ⟨_, x, _, M, _⟩ := h; M.sub x
section
variable {c : Cx} {P : Params}
theorem known_good {nm : Str} {v : V} (h : assoc knownG nm = some v) : ∃ u w, v = .tup [u, w] ∧ good2 u = true ∧ good2 w = true := by
  simp only [knownG, assoc] at h
  split at h
  · cases h; exact ⟨_, _, rfl, by kernel_rfl, by kernel_rfl⟩
  split at h
  · cases h; exact ⟨_, _, rfl, by kernel_rfl, by kernel_rfl⟩
  · cases h
mutual
theorem eqP_refl : ∀ v : V, tree v = true → PyData.eqv (toP v) (toP v) = true
  | .none, _ => rfl
  | .bool b, _ => by simp [toP, PyData.eqv]
  | .int i, _ => by simp [toP, PyData.eqv]
  | .str s, _ => by simp [toP, PyData.eqv]
  | .tup l, h => by simp only [tree] at h; simp only [toP, PyData.eqv]; exact eqPs_refl l h
  | .raw v, h => by simp [tree] at h
theorem eqPs_refl : ∀ l : List V, trees l = true → PyData.eqvAll (toPs l) (toPs l) = true
  | [], _ => rfl
  | v :: l, h => by
    simp only [trees, Bool.and_eq_true] at h
    simp only [toPs, PyData.eqvAll, eqP_refl v h.1, eqPs_refl l h.2, Bool.and_self]
end
theorem ruleF_ok (H : Gs c (KK P) gtab) (nm : Str) (r : RuleD) (h : ruleF nm = some r) : r.Ok := by
  rcases rule_cases H nm with ⟨hf, _⟩ | ⟨r', x, ra⟩
  · rw [hf] at h; cases h
  · rw [ra.f] at h; cases h; exact ra.rmk.ok
theorem known_pair (nm : Str) (v : V) (h : assoc knownG nm = some v) : ∃ u w, v = .tup [u, w] := let ⟨u, w, e, _⟩ := known_ok h; ⟨u, w, e⟩
theorem LoopOk.le {f s : Addr} {τ : Sig} {m m' : Nat} (h : LoopOk c f s τ m) (hm : m ≤ m') : LoopOk c f s τ m' := let ⟨a, b, d, e, F⟩ := h; ⟨a, b, d, e, F.le hm⟩
theorem LoopOk.feed {f s : Addr} {τ : Sig} {m : Nat} (h : LoopOk c f s τ m) : FeedOk τ f m := let ⟨a, b, d, e, F⟩ := h; F
theorem eqV_refl {v : V} (h : tree v = true) : eqV v v = true := eqP_refl v h
theorem sides_good (H : Gs c (KK P) gtab) {word name : Str} {pairs : List (Str × V)} {k : Nat} {u w : V} (hp : PairsOk k pairs) (h : sidesR ruleF knownG word name pairs = some (u, w)) : good2 u = true ∧ good2 w = true := by
  unfold sidesR at h
  split at h
  · cases ha : assoc knownG name with
    | none => rw [ha] at h; cases h
    | some v =>
      rw [ha] at h
      obtain ⟨a, b, rfl, hab⟩ := known_good ha
      cases h
      exact hab
  split at h
  · rcases rule_cases H name with ⟨hf, _⟩ | ⟨r, x, ra⟩
    · rw [hf] at h; cases h
    · rw [ra.f] at h
      simp only at h
      split at h
      · rename_i hv
        have := ra.tr pairs hv hp.gd
        cases h
        exact this
      · cases h
  · cases h
section
variable {n : Nat} {hn : Bool} {σ : Sig} {X : Exn → Sig → Prop} {Q : V → Sig → Prop}
theorem sub_made {σ0 σ1 : Sig} {f : Addr} {l : List (Str × V)} (hf : σ1 f = some (.dict l)) : Sub (del σ1 f) σ1 := fun a m e => (del_some e).2
theorem del_at {τ : Sig} {f a : Addr} {m : MO} (ha : a ≠ f) (h : τ a = some m) : del τ f a = some m := by unfold del; rw [if_neg ha]; exact h
theorem sub_mk {σ : Sig} {a dx : Addr} {m1 m2 m3 : MO} (h1 : σ a = none) (h2 : σ dx = none) : Sub σ (upd (upd (upd σ dx m1) a m2) dx m3) := fun b m e => by
  have hb : b ≠ a := fun q => by rw [q, h1] at e; cases e
  have hd : b ≠ dx := fun q => by rw [q, h2] at e; cases e
  rw [upd_ne _ _ hd, upd_ne _ _ hb, upd_ne _ _ hd]; exact e
theorem ne_of {σ : Sig} {a b : Addr} {m : MO} (h1 : σ a = none) (h2 : σ b = some m) : a ≠ b := by rintro rfl; rw [h2] at h1; cases h1
theorem sub_del2 {σ τ : Sig} {f : Addr} (x : Sub σ τ) : Sub (del σ f) (del τ f) := fun a m e => by
  obtain ⟨h1, h2⟩ := del_some e
  exact del_at h1 (x a m h2)
theorem RulesO.sub {σ σ' : Sig} {l : List (Str × V)} {rule : Str → Option RuleD} (x : Sub σ σ') (h : RulesO σ l rule) : RulesO σ' l rule := fun name => by
  have := h name
  split at this
  · exact this
  · obtain ⟨a, e1, e2⟩ := this; exact ⟨a, e1, e2.sub x⟩
theorem C_law (H : Gs c (KK P) gtab) (hP : P = c.w.params) {sc : Addr} {cells : List Int} (hs : LR c σ sc (cells.map .int)) (hl : cells.length ≤ 63) : CodeOp c ⟨n + 80, true⟩ σ (.ref 364) [.raw (.ref sc)] (fun v _ => v = .bool true) X := by
  refine K_fnK H (f := 364) (params := [("script" : Str)]) (locs := [("feed" : Str), ("rules" : Str), ("made" : Str), ("lap" : Str), ("step" : Str), ("due" : Str), ("number" : Str), ("back" : Str)]) (ρ1 := [(("script" : Str), some (.raw (.ref sc))), (("feed" : Str), none), (("rules" : Str), none), (("made" : Str), none), (("lap" : Str), none), (("step" : Str), none), (("due" : Str), none), (("number" : Str), none), (("back" : Str), none)]) rfl rfl rfl rfl rfl rfl rfl rfl rfl (len1 fun _ => rfl) rfl (by decide) rfl rfl ?_
  intro L
  refine S_consK ?_
  intro _ _ _
  walk_at "gg"
  refine Sl_list (fun D1 hD1 => ?_) hs (by simp) (by simp; omega)
  rw [show (60 : Int) = ((60 : Nat) : Int) from rfl, lslice_to, ← List.map_take]
  walk_at "gg"
  intro cl hcl
  walk_at "gg"
  refine ⟨of_decide_eq_true rfl, fun f hf => ?_⟩
  walk_at "gg"
  generalize hτ : (upd (upd (upd σ D1 _) cl _) f _) = τ
  have hfd : τ f = some (.dict (feedL cl 0)) := by rw [← hτ]; exact upd_same _ _ _
  have hcd : τ cl = some (.list ((cells.take 60).map .int)) := by rw [← hτ]; exact upd_keep hf (upd_same _ _ _)
  have hlen : (cells.take 60).length ≤ 60 := by simp; omega
  clear hτ
  refine G_lcI (cl := []) (ρc := [("name", none), ("sides", none)]) rfl (by walk_at "cx") (fun _ => rfl) ?_
  refine IG_plain ?_
  walk_at "gg"
  refine (C_rules H (n := n + 78) fun D2 hD2 => ?_).call
  refine exM_items (.inl (upd_same _ _ _)) ?_
  walk_at "gg"
  refine B_items (.inl (upd_same _ _ _)) fun D3 hD3 => ?_
  walk_at "gg"
  refine B_sorted_items (p := #[1, 3, 0, 2]) rfl (upd_same _ _ _) (.inl (upd_keep hD3 (upd_same _ _ _))) ?hok (by decide) (by decide) (by decide) (by kernel_rfl) (by decide) fun D4 hD4 => ?_
  case hok =>
    intro p hp
    simp only [rulesG, List.mem_cons, List.not_mem_nil, or_false] at hp
    rcases hp with rfl | rfl | rfl | rfl <;> exact ⟨by decide +kernel, by decide +kernel⟩
  rw [show (List.map (fun i => (pv rulesG).getD i V.none) (#[1, 3, 0, 2] : Array Nat).toList) = ruleItems.map (fun p => V.tup [.str p.1, .tup [p.2.L.v, p.2.R.v]]) by kernel_rfl]
  refine IO_list (.inl (upd_same _ _ _)) ?_
  generalize hτ4 : (upd (upd (upd τ D2 _) D3 _) D4 _) = τ4
  have s4 : Sub τ τ4 := by rw [← hτ4]; exact Sub.fresh (Sub.fresh (Sub.fresh (.refl _) hD2) hD3) hD4
  have k4 : τ4 D4 = some (.list (ruleItems.map (fun p => V.tup [.str p.1, .tup [p.2.L.v, p.2.R.v]]))) := by rw [← hτ4]; exact upd_same _ _ _
  clear hτ4
  refine ⟨trivial, fun l acc τ' => ∃ (done rest : List (Str × RuleD)) (racc : List (Str × V)), ruleItems = done ++ rest ∧ l = rest.map (fun p => V.tup [.str p.1, .tup [p.2.L.v, p.2.R.v]]) ∧ acc = pv racc ∧ RAcc τ' f done racc ∧ Sub τ4 τ', ⟨[], ruleItems, [], rfl, rfl, rfl, rfl, .refl _⟩, ?_, ?_⟩
  · rintro C v l acc τ' ⟨done, rest, racc, e1, e2, rfl, hr, hs⟩
    cases rest with
    | nil => simp at e2
    | cons p rest =>
      obtain ⟨nm, r⟩ := p
      simp only [List.map_cons, List.cons.injEq] at e2
      obtain ⟨rfl, rfl⟩ := e2
      have hmk : r.Mk := by
        have : (nm, r) ∈ ruleItems := by rw [e1]; simp
        simp only [ruleItems, List.mem_cons, List.not_mem_nil, or_false, Prod.mk.injEq] at this
        rcases this with ⟨_, rfl⟩ | ⟨_, rfl⟩ | ⟨_, rfl⟩ | ⟨_, rfl⟩
        · exact alone_ok
        · exact plain_ok
        · exact swap_ok
        · exact twice_ok
      have hn4 : done.length ≤ 4 := by have := congrArg List.length e1; simp [ruleItems] at this; omega
      refine ⟨.inl (hs _ _ k4), by have := hr.len; simp only [pv, List.length_map]; omega, ?_⟩
      walk_at "gg"
      refine (C_rule H (n := n + 8) hmk fun a τ2 h1 h2 h3 => ?_).call
      have haf : a ≠ f := by rintro rfl; rw [hs _ _ (s4 _ _ hfd)] at h1; cases h1
      walk_at "gg"
      exact ⟨done ++ [(nm, r)], rest, racc ++ [(nm, .raw (.ref a))], by rw [e1]; simp, rfl, by simp [pv], (hr.sub h2).snoc haf h3, hs.trans h2⟩
  · rintro acc τ' ⟨done, rest, racc, e1, e2, rfl, hr, hs⟩
    have hrest : rest = [] := by
      cases rest with
      | nil => rfl
      | cons a r => simp at e2
    subst hrest
    rw [List.append_nil] at e1
    subst e1
    refine ⟨.inl (hs _ _ k4), fun D5 hD5 => ?_⟩
    have hfd' : τ' f = some (.dict (feedL cl 0)) := hs _ _ (s4 _ _ hfd)
    have hcd' : τ' cl = some (.list ((cells.take 60).map .int)) := hs _ _ (s4 _ _ hcd)
    obtain ⟨ep, hR⟩ := hr.rules hfd'
    walk_at "gg"
    refine B_dict_pairs rfl (upd_same _ _ _) (fun D6 hD6 => ?_) (by have := hr.len; simp [ruleItems] at this; omega)
    rw [ep]
    walk_at "gg"
    refine (C_known H (n := n + 78) fun D7 hD7 => ?_).call
    walk_at "gg"
    refine B_dict_dict (.inl (upd_same _ _ _)) (fun D8 hD8 => ?_) (by decide)
    generalize h8 : (upd (upd (upd (upd τ' D5 _) D6 _) D7 _) D8 _) = σ8
    have s8 : Sub τ' σ8 := by rw [← h8]; exact Sub.fresh (Sub.fresh (Sub.fresh (Sub.fresh (.refl _) hD5) hD6) hD7) hD8
    have r8 : σ8 D6 = some (.dict racc) := by rw [← h8]; exact upd_keep hD8 (upd_keep hD7 (upd_same _ _ _))
    have t8 : σ8 D8 = some (.dict knownG) := by rw [← h8]; exact upd_same _ _ _
    have f5 : (upd τ' D5 (.list (pv racc))) f = some (.dict (feedL cl 0)) := upd_keep hD5 hfd'
    have n6 : D6 ≠ f := ne_of hD6 f5
    have n8 : D8 ≠ f := ne_of hD8 (upd_keep hD7 (upd_keep hD6 f5))
    clear h8
    walk_at "gg"
    refine (C_judge H (n := n + 77) fun j dj hj hdj hjd => ?_).call
    generalize hJ : (upd (upd (upd σ8 dj _) j _) dj _) = σJ
    have sJ : Sub σ8 σJ := by rw [← hJ]; exact sub_mk hj hdj
    have jJ : σJ j = some (.inst 208 dj) := by rw [← hJ]; exact upd_keepN hjd (upd_same _ _ _)
    have dJ : σJ dj = some (.ns [("rules", .raw (.ref D6)), ("told", .raw (.ref D8))]) := by rw [← hJ]; exact upd_same _ _ _
    clear hJ
    walk_at "gg"
    refine (C_steps H (n := n + 77) fun s ds hsn hds hsd => ?_).call
    generalize hS : (upd (upd (upd σJ ds _) s _) ds _) = σS
    have sS : Sub σJ σS := by rw [← hS]; exact sub_mk hsn hds
    have jS : σS s = some (.inst 264 ds) := by rw [← hS]; exact upd_keepN hsd (upd_same _ _ _)
    have dS : σS ds = some (.ns [("judge", .raw (.ref j))]) := by rw [← hS]; exact upd_same _ _ _
    clear hS
    have s8S : Sub σ8 σS := sJ.trans sS
    have stS : Sub τ' σS := s8.trans s8S
    have hfS : σS f = some (.dict (feedL cl 0)) := stS _ _ hfd'
    have kne : ∀ {a : Addr} {m : MO}, σS a = some m → (∀ l, m ≠ .dict l) → del σS f a = some m := fun {a m} e hm => del_at (by rintro rfl; rw [hfS] at e; cases e; exact hm _ rfl) e
    have LK : LoopOk c f s σS 0 := by
      refine ⟨del σS f, sub_made (σ0 := σS) hfS, del_same _ _, ⟨ds, j, dj, D6, D8, racc, ?_, ?_, ?_, ?_, ?_, ?_, ?_⟩, ⟨cl, cells.take 60, 0, hfS, stS _ _ hcd', Nat.le_refl _, hlen⟩⟩
      · exact kne jS (fun l h => by cases h)
      · exact kne dS (fun l h => by cases h)
      · exact kne (sS _ _ jJ) (fun l h => by cases h)
      · exact kne (sS _ _ dJ) (fun l h => by cases h)
      · exact del_at n6 (s8S _ _ r8)
      · exact RulesO.sub (sub_del2 stS) hR
      · exact .inl (del_at n8 (s8S _ _ t8))
    walk_at "gg"
    refine S_for rfl ?_ (fun _ => rfl)
    walk_at "gg"
    refine (C_draw H LK.feed (by omega) (by decide) fun d τ1 g0 g1 F1 K1 => ?_).call
    obtain ⟨k, rfl⟩ : ∃ k : Nat, d = k := ⟨d.toNat, by omega⟩
    walk_at "gg"
    rw [show (1 : Int) + (k : Int) = ((1 + k : Nat) : Int) by omega]
    refine CI_range (by omega) ?_
    have L1 : LoopOk c f s τ1 1 := LK.kp (fun a m h e => (K1 a h).trans e) F1
    refine ⟨⟨_, _, rfl⟩, fun l ρ1 τ' => ∃ (x : Int) (m : Nat) (v1 v2 v3 v4 v5 : Option V), l = upFrom x m ∧ m ≤ 8 ∧ ρ1 = ([("script", some (.raw (.ref sc))), ("feed", some (.raw (.ref f))), ("rules", some (.raw (.ref D6))), ("made", some (.raw (.ref s))), ("lap", v1), ("step", v2), ("due", v3), ("number", v4), ("back", v5)] : Rho) ∧ LoopOk c f s τ' (1 + (8 - m) * 20), ⟨0, 1 + k, none, none, none, none, none, rfl, by omega, rfl, L1.le (by omega)⟩, ?_, ?_⟩
    · rintro v l ρ1 τ' ⟨x, m, v1, v2, v3, v4, v5, e, hm, rfl, LO⟩
      cases m with
      | zero => simp [upFrom] at e
      | succ m =>
        simp only [upFrom, List.cons.injEq] at e
        obtain ⟨rfl, rfl⟩ := e
        refine ⟨trivial, ?_⟩
        walk_at "gg"
        refine (C_step H hP (n := n + 76) LO.feed (by omega) fun path word name pairs back τ2 hp F2 K2 => ?_).call
        have hpl : pairs.length ≤ 1000 := by have := hp.len; omega
        walk_at "gg"
        cases hs : sidesR ruleF knownG word name pairs with
        | none =>
          refine (C_due H hP (n := n + 13) hpl hp.tr (fun _ => ?_) (fun u w e => by rw [hs] at e; cases e)).call
          walk_at "gg"
          refine (C_draw H F2 (by omega) (by decide) fun d3 τ3 g2 g3 F3 K3 => ?_).call
          have L3 : LoopOk c f s τ3 (1 + (8 - (m + 1)) * 20 + 11) := LO.kp (K2.trans fun a m h e => (K3 a h).trans e) F3
          walk_at "gg"
          refine Sl_to (a := 4) (by simp) (by simp) ?_
          walk_at "gg"
          refine (C_heard H (n := n + 7) L3.made (ruleF_ok H) known_pair hpl hp.tr (fun _ => ?_) (fun u w e => by rw [hs] at e; cases e)).call
          walk_at "gg"
          refine (C_heard H (n := n + 7) (back := !back) L3.made (ruleF_ok H) known_pair hpl hp.tr (fun _ => ?_) (fun u w e => by rw [hs] at e; cases e)).call
          walk_at "gg"
          exact ⟨_, _, _, _, _, _, _, rfl, by omega, rfl, L3.le (by omega)⟩
        | some uw =>
          obtain ⟨u, w⟩ := uw
          obtain ⟨gu, gw⟩ := sides_good H hp hs
          rw [good2_iff] at gu gw
          have tg : ∀ a b : V, (tree a = true ∧ (toP a).depth ≤ 20) → (tree b = true ∧ (toP b).depth ≤ 20) → tree (.tup [a, b]) = true ∧ min (toP (.tup [a, b])).depth (toP (.tup [a, b])).depth ≤ 16 * (n + 79) := fun a b ha hb => by
            refine ⟨by simp [tree, trees, ha.1, hb.1], ?_⟩
            simp only [toP, toPs, PyData.depth, PyData.depthAll, Nat.min_self]; omega
          have ne : ∀ {l : List V} {σ : Sig} {Q : V → Sig → Prop} {X : Exn → Sig → Prop}, (tree (.tup l) = true ∧ min (toP (.tup l)).depth (toP (.tup l)).depth ≤ 16 * (n + 79)) → Q (.bool false) σ → Op2 c ⟨n + 79, true⟩ σ (.tup l) (.tup l) (compareOp .NotEq) Q X := fun h q => O_ne (by rw [eqV_refl h.1]; exact q) h.1 h.1 h.2
          have key : ∃ a b : V, (if back = true then V.tup [w, u] else .tup [u, w]) = .tup [a, b] ∧ (if (!back) = true then V.tup [w, u] else .tup [u, w]) = .tup [b, a] ∧ (tree a = true ∧ (toP a).depth ≤ 20) ∧ (tree b = true ∧ (toP b).depth ≤ 20) := by
            cases back
            · exact ⟨u, w, rfl, rfl, gu, gw⟩
            · exact ⟨w, u, rfl, rfl, gw, gu⟩
          obtain ⟨a, b, k1, k2, ga, gb⟩ := key
          refine (C_due H hP (n := n + 13) hpl hp.tr (fun e => by rw [hs] at e; cases e) (fun u' w' e => ?_)).call
          rw [hs] at e; cases e
          rw [k1]
          walk_at "gg"
          refine (C_draw H F2 (by omega) (by decide) fun d3 τ3 g2 g3 F3 K3 => ?_).call
          have L3 : LoopOk c f s τ3 (1 + (8 - (m + 1)) * 20 + 11) := LO.kp (K2.trans fun a m h e => (K3 a h).trans e) F3
          walk_at "gg"
          refine Sl_to (a := 4) (by simp) (by simp) ?_
          walk_at "gg"
          refine (C_heard H (n := n + 7) L3.made (ruleF_ok H) known_pair hpl hp.tr (fun e => by rw [hs] at e; cases e) (fun u' w' e => ?_)).call
          rw [hs] at e; cases e
          rw [k1]
          walk_at "gg"
          refine ne (tg _ _ (by assumption) (by assumption)) ?_
          walk_at "gg"
          refine (C_heard H (n := n + 7) (back := !back) L3.made (ruleF_ok H) known_pair hpl hp.tr (fun e => by rw [hs] at e; cases e) (fun u' w' e => ?_)).call
          rw [hs] at e; cases e
          rw [k2]
          walk_at "gg"
          refine ne (tg _ _ (by assumption) (by assumption)) ?_
          walk_at "gg"
          exact ⟨_, _, _, _, _, _, _, rfl, by omega, rfl, L3.le (by omega)⟩
    · rintro ρ1 τ' ⟨x, m, v1, v2, v3, v4, v5, e, hm, rfl, LO⟩
      refine ⟨trivial, ?_⟩
      walk_at "gg"
      exact ⟨_, .refl _, rfl⟩
end
end
end Mine

-- part D15
set_option maxHeartbeats 2000000
namespace Mine

theorem mg_at {P : Params} {h : Heap} {mg : Str → Option Value} (X : (KK P).In h) (g : h.Ns mainGlobals mg) : ∀ {x v}, (x, v) ∈ gtab → mg x = v := by
  have key := ns_of X (a := mainGlobals) rfl g
  have all : ∀ p ∈ gtab, mg p.1 = p.2 := by
    (repeat (refine all_cons ((key _).trans (by rfl)) ?_))
    exact all_nil
  intro x v hx
  exact all (x, v) hx
/-- the law's call -/
theorem law_run {prog : Program} {w : World} {mg mb : Str → Option Value} {s : Shared} {sc : Addr} {xs : List Value} {ns : List Int} {R : Result → Shared → Prop} (KX : (KK w.params).In s.heap) (g : s.heap.Ns mainGlobals mg) (b : s.heap.Ns builtinsNs mb)
    (blt : ∀ x : Str, x ≠ "__name__" → mb x = bootBuiltins x) (nol : s.heap.NoLimit) (hfile : ((prog.main.file : Str) == ("/claim/cut.py" : Str)) = true) (htop : (prog.main.scope.names.lookup ("super" : Str)).isSome = false)
    (hL : s.heap.IsList sc xs.toArray) (hI : IntsAre xs ns) (hn : ns.length ≤ 63) (h : ∀ h' tk, (∀ a o, s.heap.get? a = some o → h'.get? a = some o) → R (.ok (.ret (.bool true))) (at_ s h' tk)) :
    codeAny (model prog w) callerA (.call (.ref 364) ⟨[.ref sc], []⟩) R s := by
  let c : Cx := ⟨prog, w, s.heap, KK w.params, mg, mb, KX, g, b, blt, nol⟩
  have H : Gs c (KK w.params) gtab := ⟨rfl, mg_at KX g, hfile, htop⟩
  have k := C_law (c := c) (P := w.params) (n := 0) (σ := noSig) (X := fun _ _ => False) (sc := sc) (cells := ns) H rfl (.inr ⟨_, hL, by simpa using ints_vrs hI⟩) hn
  refine k callerA s R [.ref sc] (AOk.start (c := c) (by decide)) (Rel.start (c := c)) ⟨_, _, rfl, rfl, rfl⟩ (fun v a σ' h' tk' q r R' _ _ => ?_) (fun e ex σ' h' tk' q => q.elim)
  subst q
  simp only [VR] at r
  subst r
  exact h h' tk' R'.static
end Mine

-- these names are taken so that the head lays no twins under them (a proof without them is as quick, and small)
theorem Mine.kb.tw7934746084307856046 : True := trivial
theorem Mine.kb.tw658728221281458112 : True := trivial
theorem Mine.kb.tw5434657368845240331 : True := trivial
theorem Mine.kb.tw982405999511580440 : True := trivial
theorem Mine.kb.tw4954690913143438737 : True := trivial
theorem Mine.kb.tw7554342919840345889 : True := trivial
theorem Mine.kb.tw8808353271899788041 : True := trivial
theorem Mine.kb.tw14511063232824069798 : True := trivial
theorem Mine.kb.tw11823244150441420741 : True := trivial
theorem Mine.kb.tw11422502314398687237 : True := trivial
theorem Mine.kb.tw8770226630372400343 : True := trivial
theorem Mine.kb.tw11516011752366053432 : True := trivial
theorem Mine.kb.tw13542394325510238332 : True := trivial
theorem Mine.kb.tw312934989594898859 : True := trivial
theorem Mine.kb.tw1335549508189337491 : True := trivial
theorem Mine.kb.tw8456998791484174519 : True := trivial
theorem Mine.kb.tw14859244789995320029 : True := trivial
theorem Mine.kb.tw15033838417695515312 : True := trivial
theorem Mine.kb.tw15935745839702625817 : True := trivial
theorem Mine.kb.tw3942163031702818507 : True := trivial
theorem Mine.kb.tw2280601034280232546 : True := trivial
theorem Mine.kb.tw14089907362455756497 : True := trivial
theorem Mine.kb.tw12923786914246623724 : True := trivial
theorem Mine.kb.tw13278202707567255912 : True := trivial
theorem Mine.kb.tw12464832620271185877 : True := trivial
theorem Mine.kb.tw4027162730139419147 : True := trivial
theorem Mine.kb.tw5329574219099580108 : True := trivial
theorem Mine.kb.tw6334739584968184382 : True := trivial
theorem Mine.kb.tw3280347257840546895 : True := trivial
theorem Mine.kb.tw7720084793881968481 : True := trivial
theorem Mine.kb.tw8150274925413853512 : True := trivial
theorem Mine.kb.tw13423136190318433781 : True := trivial
theorem Mine.kb.tw4355501415219078072 : True := trivial
theorem Mine.kb.tw390118299812625222 : True := trivial
theorem Mine.kb.tw1079840654459247167 : True := trivial
theorem Mine.kb.tw15922237977069213670 : True := trivial
theorem Mine.kb.tw4547478966680500779 : True := trivial
theorem Mine.kb.tw7339184783728767387 : True := trivial
theorem Mine.kb.tw2891275482179047491 : True := trivial
theorem Mine.kb.tw17569539169243276450 : True := trivial
theorem Mine.kb.tw11093398943913859704 : True := trivial
theorem Mine.kb.tw11581460802531599501 : True := trivial
theorem Mine.kb.tw18443301773248161143 : True := trivial
theorem Mine.kb.tw17924261637476611223 : True := trivial
theorem Mine.kb.tw10804243930975264215 : True := trivial
theorem Mine.kb.tw3883657534417575986 : True := trivial
theorem Mine.kb.tw8049422489990463806 : True := trivial
theorem Mine.kb.tw10364355937851891311 : True := trivial
theorem Mine.kb.tw14021835780789442923 : True := trivial
theorem Mine.kb.tw10303293174447120429 : True := trivial
theorem Mine.kb.tw10751736111199266691 : True := trivial
theorem Mine.kb.tw2018350249055017716 : True := trivial
theorem Mine.kb.tw13414128006205222308 : True := trivial
theorem Mine.kb.tw11102843818996272389 : True := trivial
theorem Mine.kb.tw15062836645054608804 : True := trivial
theorem Mine.kb.tw15655008664301597282 : True := trivial
theorem Mine.kb.tw12215312419952243781 : True := trivial
theorem Mine.kb.tw2959806283914746622 : True := trivial
theorem Mine.kb.tw5470164045666333948 : True := trivial
theorem Mine.kb.tw7936894613672195273 : True := trivial
theorem Mine.kb.tw16249302706715452983 : True := trivial
theorem Mine.kb.tw10574297332560171761 : True := trivial
theorem Mine.kb.tw10803103614699957663 : True := trivial
theorem Mine.kb.tw10896993811339972975 : True := trivial
theorem Mine.kb.tw4479353201214519793 : True := trivial
theorem Mine.kb.tw16125372486221510567 : True := trivial
theorem Mine.kb.tw945253061895528954 : True := trivial
theorem Mine.kb.tw15272200675976401886 : True := trivial
theorem Mine.kb.tw6124774841604177146 : True := trivial
theorem Mine.kb.tw1761264926457586361 : True := trivial
theorem Mine.kb.tw17745340973362691624 : True := trivial
theorem Mine.kb.tw16320702912010719363 : True := trivial
theorem Mine.kb.tw15224875331435851106 : True := trivial
theorem Mine.kb.tw15907153189514861430 : True := trivial
theorem Mine.kb.tw730086817192589803 : True := trivial
theorem Mine.kb.tw9069217744806077467 : True := trivial
theorem Mine.kb.tw7714761150914235483 : True := trivial
theorem Mine.kb.tw2236620311105871267 : True := trivial
theorem Mine.kb.tw9877381234100899253 : True := trivial
theorem Mine.kb.tw16936276552312181210 : True := trivial
theorem Mine.kb.tw3217000893506736935 : True := trivial
theorem Mine.kb.tw10403019736897671552 : True := trivial
theorem Mine.kb.tw13398927982497450480 : True := trivial
theorem Mine.kb.tw6240935456333170556 : True := trivial
theorem Mine.kb.tw6286845579048706519 : True := trivial
theorem Mine.kb.tw4415429572511427844 : True := trivial
theorem Mine.kb.tw16929889597647844355 : True := trivial
theorem Mine.kb.tw9948175539990426662 : True := trivial
theorem Mine.kb.tw12564745484513217336 : True := trivial
theorem Mine.kb.tw9521681340839067964 : True := trivial
theorem Mine.kb.tw18409239802735240787 : True := trivial
theorem Mine.kb.tw16020966074344322134 : True := trivial
theorem Mine.kb.tw6211796048589704575 : True := trivial
theorem Mine.kb.tw15031256105537673218 : True := trivial
theorem Mine.kb.tw5264861543409745624 : True := trivial
theorem Mine.kb.tw10751436159530259485 : True := trivial
theorem Mine.kb.tw16486922024951634866 : True := trivial
theorem Mine.kb.tw18198430142746313935 : True := trivial
theorem Mine.kb.tw2373327179732848236 : True := trivial
theorem Mine.kb.tw13584592342445266561 : True := trivial
theorem Mine.kb.tw4601103506966871326 : True := trivial
theorem Mine.kb.tw15556626453473275873 : True := trivial
theorem Mine.kb.tw3901220702884764730 : True := trivial
theorem Mine.kb.tw5773847702825931414 : True := trivial
theorem Mine.kb.tw8861157315398191889 : True := trivial
theorem Mine.kb.tw13498779489982824173 : True := trivial
theorem Mine.kb.tw11884926336838737925 : True := trivial
theorem Mine.kb.tw3751388991393979050 : True := trivial
theorem Mine.kb.tw1593007773225369152 : True := trivial
theorem Mine.kb.tw13763634896891906150 : True := trivial
theorem Mine.kb.tw15350948612355962119 : True := trivial
theorem Mine.kb.tw14727275714267243623 : True := trivial
theorem Mine.kb.tw2563775304493718252 : True := trivial
theorem Mine.kb.tw12224513030791722881 : True := trivial
theorem Mine.kb.tw18347388910054862188 : True := trivial
theorem Mine.kb.tw12949579558524943495 : True := trivial
theorem Mine.kb.tw6372141114301143699 : True := trivial
theorem Mine.kb.tw17421425514646677810 : True := trivial
theorem Mine.kb.tw7562722971746427773 : True := trivial
theorem Mine.kb.tw3571627216598100630 : True := trivial
theorem Mine.kb.tw12037820085828285573 : True := trivial
theorem Mine.kb.tw6098100232112832629 : True := trivial
theorem Mine.kb.tw13460530713659831810 : True := trivial
theorem Mine.kb.tw15230169815298732007 : True := trivial
theorem Mine.kb.tw9933727792914084859 : True := trivial
theorem Mine.kb.tw9576726472201758384 : True := trivial
theorem Mine.kb.tw1670538118389503750 : True := trivial
theorem Mine.kb.tw18059014708497936584 : True := trivial
theorem Mine.kb.tw12976899095837327506 : True := trivial
theorem Mine.kb.tw16802555457800388934 : True := trivial
theorem Mine.kb.tw12383210695589734496 : True := trivial
theorem Mine.kb.tw12110189054371016904 : True := trivial
theorem Mine.kb.tw5767444263231738171 : True := trivial
theorem Mine.kb.tw62509642182745874 : True := trivial
theorem Mine.kb.tw9421942436609213489 : True := trivial
theorem Mine.kb.tw9243219599891227794 : True := trivial
theorem Mine.kb.tw12665548696430467532 : True := trivial
theorem Mine.kb.tw17116632709175068685 : True := trivial
theorem Mine.kb.tw3034999230402650000 : True := trivial
theorem Mine.kb.tw5737989990928420494 : True := trivial
theorem Mine.kb.tw15090011256092603140 : True := trivial
theorem Mine.kb.tw15325453847643949196 : True := trivial
theorem Mine.kb.tw6775719963086124697 : True := trivial
theorem Mine.kb.tw6586665343969549130 : True := trivial
theorem Mine.kb.tw12170845125216774972 : True := trivial
theorem Mine.kb.tw16473702347607069814 : True := trivial
theorem Mine.kb.tw1423208391028317574 : True := trivial
theorem Mine.kb.tw11652407963599446015 : True := trivial
theorem Mine.kb.tw15013349782378359369 : True := trivial
theorem Mine.kb.tw18062218489297788244 : True := trivial
theorem Mine.kb.tw2789250163223204518 : True := trivial
theorem Mine.kb.tw3398870236483179473 : True := trivial
theorem Mine.kb.tw8536655695381100347 : True := trivial
theorem Mine.kb.tw16285723748904454080 : True := trivial
theorem Mine.kb.tw9857417822305240941 : True := trivial
theorem Mine.kb.tw11849872737573883596 : True := trivial
theorem Mine.kb.tw6464551656896894627 : True := trivial
theorem Mine.kb.tw10629571159721189092 : True := trivial
theorem Mine.kb.tw3564492546283189913 : True := trivial
theorem Mine.kb.tw13201902658951427682 : True := trivial
theorem Mine.kb.tw7190436889556441559 : True := trivial
theorem Mine.kb.tw8975367926336346873 : True := trivial
theorem Mine.kb.tw1957505057337969998 : True := trivial
theorem Mine.kb.tw5654143968358587531 : True := trivial
theorem Mine.kb.tw9378788614331527254 : True := trivial
theorem Mine.kb.tw13464159835432983783 : True := trivial
theorem Mine.kb.tw15458970705931338726 : True := trivial
theorem Mine.kb.tw10030598135053260164 : True := trivial
theorem Mine.kb.tw8737314805454077010 : True := trivial
theorem Mine.kb.tw12814267893830348822 : True := trivial
theorem Mine.kb.tw7601220379632504569 : True := trivial
theorem Mine.kb.tw4110521175017896241 : True := trivial
theorem Mine.kb.tw5745947842518454022 : True := trivial
theorem Mine.kb.tw1959648553331821412 : True := trivial
theorem Mine.kb.tw12474923434719591 : True := trivial
theorem Mine.kb.tw11917994882786224945 : True := trivial
theorem Mine.kb.tw8103698925589650337 : True := trivial
theorem Mine.kb.tw17371526096704732236 : True := trivial
theorem Mine.kb.tw12765502151133014600 : True := trivial
theorem Mine.kb.tw14138387752353514257 : True := trivial
theorem Mine.kb.tw13758402873136322260 : True := trivial
theorem Mine.kb.tw17332751625414356615 : True := trivial
theorem Mine.kb.tw14042821815648979802 : True := trivial
theorem Mine.kb.tw11717207498153804537 : True := trivial
theorem Mine.kb.tw7333333847982792889 : True := trivial
theorem Mine.kb.tw5478380614279673965 : True := trivial
theorem Mine.kb.tw10294134748618710401 : True := trivial
theorem Mine.kb.tw7821182911151685722 : True := trivial
theorem Mine.kb.tw15154026026249696362 : True := trivial
theorem Mine.kb.tw9578100601503063098 : True := trivial
theorem Mine.kb.tw10497706577295416704 : True := trivial
theorem Mine.kb.tw16327131294014138232 : True := trivial
theorem Mine.kb.tw2579870585174742906 : True := trivial
theorem Mine.kb.tw17483925006946637429 : True := trivial
theorem Mine.kb.tw7920028715413263525 : True := trivial
theorem Mine.kb.tw17113452347863474022 : True := trivial
theorem Mine.kb.tw14900387702336273405 : True := trivial
theorem Mine.kb.tw16775724616348598078 : True := trivial
theorem Mine.kb.tw15696114934995269393 : True := trivial
theorem Mine.kb.tw15420034880487082686 : True := trivial
theorem Mine.kb.tw7409037879033214956 : True := trivial
theorem Mine.kb.tw612689088218463549 : True := trivial
theorem Mine.kb.tw5743714667191439700 : True := trivial
theorem Mine.kb.tw8188214314029019998 : True := trivial
theorem Mine.kb.tw14196968616304974671 : True := trivial
theorem Mine.kb.tw8405244163517462665 : True := trivial
theorem Mine.kb.tw3582792833773351064 : True := trivial
theorem Mine.kb.tw14803534381314726899 : True := trivial
theorem Mine.kb.tw15694989321121396876 : True := trivial
theorem Mine.kb.tw16483035897090817318 : True := trivial
theorem Mine.kb.tw11396972973933752285 : True := trivial
theorem Mine.kb.tw839288949893313478 : True := trivial
theorem Mine.kb.tw892666296123389920 : True := trivial
theorem Mine.kb.tw12903874214177943416 : True := trivial
theorem Mine.kb.tw13890755483136488158 : True := trivial
theorem Mine.kb.tw14876479339171561306 : True := trivial
theorem Mine.kb.tw2564245015970481568 : True := trivial
theorem Mine.kb.tw11326922506117543424 : True := trivial
theorem Mine.kb.tw840540713489650739 : True := trivial
theorem Mine.kb.tw2579807207878257194 : True := trivial
theorem Mine.kb.tw9786671031864482915 : True := trivial
theorem Mine.kb.tw4071575080655420235 : True := trivial
theorem Mine.kb.tw2389253798473143707 : True := trivial
theorem Mine.kb.tw15514292212630911179 : True := trivial
theorem Mine.kb.tw14857361955800415605 : True := trivial
theorem Mine.kb.tw1998041958533177122 : True := trivial
theorem Mine.kb.tw8492717193579612468 : True := trivial
theorem Mine.kb.tw18226577991010299615 : True := trivial
theorem Mine.kb.tw17312632627404421304 : True := trivial
theorem Mine.kb.tw10028973615334429973 : True := trivial
theorem Mine.kb.tw12988608018066398944 : True := trivial
theorem Mine.kb.tw11696193935149401479 : True := trivial
theorem Mine.kb.tw13754498040835027467 : True := trivial
theorem Mine.kb.tw637179547295861536 : True := trivial
theorem Mine.kb.tw5718862774599927449 : True := trivial
theorem Mine.kb.tw2276896541114967985 : True := trivial
theorem Mine.kb.tw10613961094945818620 : True := trivial
theorem Mine.kb.tw1626639086284692185 : True := trivial
theorem Mine.kb.tw3808361115367888966 : True := trivial
theorem Mine.kb.tw715146739601655761 : True := trivial
theorem Mine.kb.tw7992151847853977558 : True := trivial
theorem Mine.kb.tw7680224341149199990 : True := trivial
theorem Mine.kb.tw13196296882270844673 : True := trivial
theorem Mine.kb.tw2899589775815888052 : True := trivial
theorem Mine.kb.tw16096573670954575093 : True := trivial
theorem Mine.kb.tw7454115300896790639 : True := trivial
theorem Mine.kb.tw7530470191392052454 : True := trivial
theorem Mine.kb.tw3207276490888095817 : True := trivial
theorem Mine.kb.tw18211316187377735699 : True := trivial
theorem Mine.kb.tw11295177819019640459 : True := trivial
theorem Mine.kb.tw16286437401177539591 : True := trivial
theorem Mine.kb.tw7992281070632345741 : True := trivial
theorem Mine.kb.tw5640598077505469015 : True := trivial
theorem Mine.kb.tw17693242272540438867 : True := trivial
theorem Mine.kb.tw16220684567677233865 : True := trivial
theorem Mine.kb.tw15060766526851906498 : True := trivial
theorem Mine.kb.tw3819689124496432199 : True := trivial
theorem Mine.kb.tw10112023257366538348 : True := trivial
theorem Mine.kb.tw5890061249729483800 : True := trivial
theorem Mine.kb.tw13796826983390935994 : True := trivial
theorem Mine.kb.tw4507759775078570439 : True := trivial
theorem Mine.kb.tw9144605922801400759 : True := trivial
theorem Mine.kb.tw2906312917529623035 : True := trivial
theorem Mine.kb.tw9506371506815041821 : True := trivial
theorem Mine.kb.tw3703344430303562177 : True := trivial
theorem Mine.kb.tw9913029618503915868 : True := trivial
theorem Mine.kb.tw1467058942617789934 : True := trivial
theorem Mine.kb.tw8620164731257020192 : True := trivial
theorem Mine.kb.tw17108954567554000147 : True := trivial
theorem Mine.kb.tw16570326596030114299 : True := trivial
theorem Mine.kb.tw4919821669656215829 : True := trivial
theorem Mine.kb.tw533473964738310981 : True := trivial
theorem Mine.kb.tw3232570386108752420 : True := trivial
theorem Mine.kb.tw3348642076462062302 : True := trivial
theorem Mine.kb.tw2704420120435135166 : True := trivial
theorem Mine.kb.tw8114097960664923961 : True := trivial
theorem Mine.kb.tw15197958407026016392 : True := trivial
theorem Mine.kb.tw3123514778256652184 : True := trivial
theorem Mine.kb.tw2963373200453374400 : True := trivial
theorem Mine.kb.tw4539397615561859568 : True := trivial
theorem Mine.kb.tw10510787847910364836 : True := trivial
theorem Mine.kb.tw5852281210152731861 : True := trivial
theorem Mine.kb.tw14015363566302703341 : True := trivial
theorem Mine.kb.tw8374766910589979677 : True := trivial
theorem Mine.kb.tw16046742815658153939 : True := trivial
theorem Mine.kb.tw4965459300112743134 : True := trivial
theorem Mine.kb.tw3362065350547912542 : True := trivial
theorem Mine.kb.tw14916065435028318188 : True := trivial
theorem Mine.kb.tw814564361066773208 : True := trivial
theorem Mine.kb.tw76473209208780872 : True := trivial
theorem Mine.kb.tw202266701762444676 : True := trivial
theorem Mine.kb.tw12532907534873179085 : True := trivial
theorem Mine.kb.tw7187380709604024596 : True := trivial
theorem Mine.kb.tw17247017842571854549 : True := trivial
theorem Mine.kb.tw9747936189440714239 : True := trivial
theorem Mine.kb.tw11998758437745184980 : True := trivial
theorem Mine.kb.tw13774831617014631613 : True := trivial
theorem Mine.kb.tw1436076390219131522 : True := trivial
theorem Mine.kb.tw13619236588225455144 : True := trivial
theorem Mine.kb.tw15392664250319822543 : True := trivial
theorem Mine.kb.tw3991593039083605211 : True := trivial
theorem Mine.kb.tw18132775956196294570 : True := trivial
theorem Mine.kb.tw4777335621761261866 : True := trivial
theorem Mine.kb.tw14555165061183188247 : True := trivial
theorem Mine.kb.tw10327085655607549008 : True := trivial
theorem Mine.kb.tw10749933519451709468 : True := trivial
theorem Mine.kb.tw2467516798682360810 : True := trivial
theorem Mine.kb.tw3430692652862937422 : True := trivial
theorem Mine.kb.tw13740310900466829828 : True := trivial
theorem Mine.kb.tw2994148763134353056 : True := trivial
theorem Mine.kb.tw11060278661557036778 : True := trivial
theorem Mine.kb.tw10643792127066637362 : True := trivial
theorem Mine.kb.tw9124316102634544450 : True := trivial
theorem Mine.kb.tw14339984331432947270 : True := trivial
theorem Mine.kb.tw11635813717505214115 : True := trivial
theorem Mine.kb.tw17925763153409329173 : True := trivial
theorem Mine.kb.tw9700377590215188734 : True := trivial
theorem Mine.kb.tw10029036958624077758 : True := trivial
theorem Mine.kb.tw135272187518083687 : True := trivial
theorem Mine.kb.tw18208658379179080839 : True := trivial
theorem Mine.kb.tw7920426456412155087 : True := trivial
theorem Mine.kb.tw17299558059887269067 : True := trivial
theorem Mine.kb.tw5183947818620320370 : True := trivial
theorem Mine.kb.tw6328775436547265927 : True := trivial
theorem Mine.kb.tw9350626117700610596 : True := trivial
theorem Mine.kb.tw14108883917071628804 : True := trivial
theorem Mine.kb.tw482326900217900028 : True := trivial
theorem Mine.kb.tw7025410060167656203 : True := trivial
theorem Mine.kb.tw9074571270413435200 : True := trivial
theorem Mine.kb.tw4376951283377094754 : True := trivial
theorem Mine.kb.tw10409918187203951997 : True := trivial
theorem Mine.kb.tw18179955040081415803 : True := trivial
theorem Mine.kb.tw16929582914407588643 : True := trivial
theorem Mine.kb.tw12670415133159643162 : True := trivial
theorem Mine.kb.tw14199522932478661184 : True := trivial
theorem Mine.kb.tw13242649767754828107 : True := trivial
theorem Mine.kb.tw10164859498316857641 : True := trivial
theorem Mine.kb.tw18057204807134257366 : True := trivial
theorem Mine.kb.tw3142257725953188335 : True := trivial
theorem Mine.kb.tw12198182760177286447 : True := trivial
theorem Mine.kb.tw11122663126954069058 : True := trivial
theorem Mine.kb.tw2834051735446901330 : True := trivial
theorem Mine.kb.tw2000647732911665513 : True := trivial
theorem Mine.kb.tw4825551841367607205 : True := trivial
theorem Mine.kb.tw6783193658239459221 : True := trivial
theorem Mine.kb.tw8983104726326725943 : True := trivial
theorem Mine.kb.tw8666441498843189133 : True := trivial
set_option Elab.async true
namespace Mine
set_option maxHeartbeats 8000000 in
theorem kb : PySem.Challenge.rw_pq0055_01.Holds := by
  (w_on; o_law; k_head; (case hw => w_witness2))
  k_fill
  intro w s₀ s₁ mg mb G Y fa o pm cd doc dV kV ho hd hcd hD hmg hg args vals as hpre hlay hrd hwl hlo
  have KX0 := kIn_of Y
  have KX : (KK w.params).In s₁.heap := KX0
  refine Ground.open G ?_
  intro T B D TE TW
  wrow_args hpre hlay hrd hwl hlo
  all_goals (
    first | refine callC_kw (enter_call ?_) | refine enter_call ?_ | refine callC_kw (enter_callW ?_) | refine enter_callW ?_ | w_how
    have hfa : mg "law" = some (.ref 364) := ns_of KX (a := mainGlobals) rfl T.g "law"
    have hfa' : fa = 364 := by
      have := hmg.symm.trans hfa
      simpa using this
    subst hfa'
    refine law_run KX T.g T.b T.builtins T.nolimit (by rfl) (by rfl) (by assumption) (by assumption) (by omega) fun h' tk hk => ?_
    refine GoodW.toG ⟨.inl ⟨_, .bool true, [], rfl, fun cls => rfl, .bool true, postW_of (X := true == true) rfl (w_eq_bool (w_res rfl) w_lit) rfl, fun q => ⟨List.nodup_nil, fun a ha => nomatch ha⟩⟩, hk, rfl, hg⟩)
end Mine

theorem PySem.Challenge.cw_pq0055_01_holds : PySem.Challenge.rw_pq0055_01.Holds :=
  Mine.kb
