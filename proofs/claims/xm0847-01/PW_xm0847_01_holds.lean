import PyProof.Rows.All
import Wide.All
import OpenK.AllK
import Wide.FinOn
import Lean
import PySem.Challenge.RW_xm0847_01
open PySem PySem.W PyProof.Rows PySem.Calls PySem.Spec
set_option Elab.async false
set_option maxRecDepth 100000
set_option autoImplicit false
set_option maxHeartbeats 8000000
set_option linter.all false
set_option linter.unusedVariables false
set_option linter.unusedSimpArgs false
namespace Mine

/-- the goal hidden while a tuple is taken apart -/
theorem cps {T : Prop} (h : ∀ {G : Prop}, (T → G) → G) : T := h id
/-! ### abstract values, stores, variables -/
inductive AV where
  | none
  | bool (b : Bool)
  | int (i : Int)
  | str (s : Str)
  | bytes (b : Array UInt8)
  | tup (l : List AV)
  | rng (lo hi : Int)
  | ref (a : Addr)
  | blt (id : String)
  | ty (n : String)

inductive Cell where
  | list (l : List AV)
  | dict (l : List (Int × AV))
  | inst (C d : Addr)
  | attrs (l : List (Str × AV))

abbrev Store := Addr → Option Cell
def upd (W : Store) (a : Addr) (c : Cell) : Store := fun b => if b = a then some c else W b
abbrev Vars := List (Str × Option AV)
def look (m : Vars) (x : Str) : Option AV := (m.lookup x).join
def setv : Vars → Str → AV → Vars
  | [], x, v => [(x, some v)]
  | (y, u) :: r, x, v => if x == y then (y, some v) :: r else (y, u) :: setv r x v

theorem look_setv : ∀ (m : Vars) (x y : Str) (v : AV), look (setv m x v) y = if y = x then some v else look m y
  | [], x, y, v => by
    simp only [setv, look, List.lookup_cons, List.lookup_nil]
    by_cases h : y = x
    · subst h; simp
    · simp [h, beq_eq_false_iff_ne.mpr h]
  | (z, u) :: r, x, y, v => by
    have ih := look_setv r x y v
    simp only [setv]
    by_cases hx : x = z
    · subst hx
      simp only [beq_self_eq_true, if_true, look, List.lookup_cons]
      by_cases h : y = x
      · subst h; simp
      · simp [h, beq_eq_false_iff_ne.mpr h]
    · rw [if_neg (by simpa using hx)]
      simp only [look, List.lookup_cons] at ih ⊢
      by_cases h : y = z
      · subst h; simp [Ne.symm hx]
      · rw [beq_eq_false_iff_ne.mpr h]; simpa using ih

/-! ### concrete side -/
mutual
inductive VR (h : Heap) : Value → AV → Prop
  | none : VR h .none .none
  | bool (b : Bool) : VR h (.bool b) (.bool b)
  | int (i : Int) (t : Tok) : VR h (.int i t) (.int i)
  | str (s : Str) (t : Tok) : VR h (.str s t) (.str s)
  | bytes (b : Array UInt8) (t : Tok) : VR h (.bytes b t) (.bytes b)
  | ref (a : Addr) : VR h (.ref a) (.ref a)
  | blt (id : String) (hd : (withoutEnding? id "#data").isNone = true) : VR h (.builtin id) (.blt id)
  | ty (n : String) : VR h (.type n) (.ty n)
  | tup {a : Addr} {vs : List Value} {l : List AV} : IsTup h a vs.toArray → VRs h vs l → VR h (.ref a) (.tup l)
  | rng {a : Addr} {lo hi : Int} {t u v : Tok} : IsRange h a lo hi 1 t u v → VR h (.ref a) (.rng lo hi)
inductive VRs (h : Heap) : List Value → List AV → Prop
  | nil : VRs h [] []
  | cons {v : Value} {vs : List Value} {d : AV} {ds : List AV} : VR h v d → VRs h vs ds → VRs h (v :: vs) (d :: ds)
end

@[elab_as_elim] theorem VR.intE {h : Heap} {M : Value → Prop} {v : Value} {i : Int} (x : VR h v (.int i)) (k : ∀ t, M (.int i t)) : M v := by cases x; exact k _
@[elab_as_elim] theorem VR.boolE {h : Heap} {M : Value → Prop} {v : Value} {i : Bool} (x : VR h v (.bool i)) (k : M (.bool i)) : M v := by cases x; exact k
@[elab_as_elim] theorem VR.noneE {h : Heap} {M : Value → Prop} {v : Value} (x : VR h v .none) (k : M .none) : M v := by cases x; exact k
@[elab_as_elim] theorem VR.refE {h : Heap} {M : Value → Prop} {v : Value} {a : Addr} (x : VR h v (.ref a)) (k : M (.ref a)) : M v := by cases x; exact k
@[elab_as_elim] theorem VR.tupE {h : Heap} {M : Value → Prop} {v : Value} {l : List AV} (x : VR h v (.tup l)) (k : ∀ a vs, IsTup h a (List.toArray vs) → VRs h vs l → M (.ref a)) : M v := by cases x; exact k _ _ ‹_› ‹_›
/-- the objects that never turn -/
def Im (o : Obj) : Prop := (o.cls = .type "tuple" ∧ ∃ xs n, o.data = .seq xs n) ∨ (o.cls = .type "range" ∧ ∃ vs, o.data = .fields vs)
def Imm (h h' : Heap) : Prop := ∀ a o, h.get? a = some o → Im o → h'.get? a = some o
theorem Imm.refl (h : Heap) : Imm h h := fun _ _ e _ => e
theorem Imm.trans {h₁ h₂ h₃ : Heap} (x : Imm h₁ h₂) (y : Imm h₂ h₃) : Imm h₁ h₃ := fun a o e i => y a o (x a o e i) i
theorem Imm.of_keeps {h h' : Heap} (k : ∀ b o, h.get? b = some o → h'.get? b = some o) : Imm h h' := fun a o e _ => k a o e
theorem IsTup.imm {h h' : Heap} (k : Imm h h') {a : Addr} {xs : Array Value} (x : IsTup h a xs) : IsTup h' a xs := by
  obtain ⟨o, ho, hc, n, hd⟩ := x
  exact ⟨o, k a o ho (.inl ⟨hc, xs, n, hd⟩), hc, n, hd⟩
theorem IsRange.imm {h h' : Heap} (k : Imm h h') {a : Addr} {lo hi st : Int} {t u v : Tok} (x : IsRange h a lo hi st t u v) : IsRange h' a lo hi st t u v :=
  k a _ x (.inr ⟨rfl, _, rfl⟩)
mutual
theorem VR.imm {h h' : Heap} (k : Imm h h') : ∀ {v : Value} {d : AV}, VR h v d → VR h' v d
  | _, _, .none => .none
  | _, _, .bool b => .bool b
  | _, _, .int i t => .int i t
  | _, _, .str s t => .str s t
  | _, _, .bytes b t => .bytes b t
  | _, _, .ref a => .ref a
  | _, _, .blt id hd => .blt id hd
  | _, _, .ty n => .ty n
  | _, _, .tup ht r => .tup (IsTup.imm k ht) (VRs.imm k r)
  | _, _, .rng hr => .rng (IsRange.imm k hr)
theorem VRs.imm {h h' : Heap} (k : Imm h h') : ∀ {vs : List Value} {ds : List AV}, VRs h vs ds → VRs h' vs ds
  | _, _, .nil => .nil
  | _, _, .cons a r => .cons (VR.imm k a) (VRs.imm k r)
end
theorem VRs.length {h : Heap} : ∀ {vs : List Value} {ds : List AV}, VRs h vs ds → vs.length = ds.length
  | _, _, .nil => rfl
  | _, _, .cons _ r => by simp [VRs.length r]
theorem VRs.append {h : Heap} : ∀ {vs ws : List Value} {ds es : List AV}, VRs h vs ds → VRs h ws es → VRs h (vs ++ ws) (ds ++ es)
  | _, _, _, _, .nil, k => k
  | _, _, _, _, .cons a r, k => .cons a (VRs.append r k)
theorem VRs.get {h : Heap} : ∀ {vs : List Value} {ds : List AV}, VRs h vs ds → ∀ {i : Nat} {d : AV}, ds[i]? = some d → ∃ v, vs[i]? = some v ∧ VR h v d
  | _, _, .nil, i, d, e => by simp at e
  | _, _, .cons a r, 0, d, e => by simp at e; subst e; exact ⟨_, rfl, a⟩
  | _, _, .cons a r, i + 1, d, e => by simpa using VRs.get r (by simpa using e)
theorem VRs.getV {h : Heap} : ∀ {vs : List Value} {ds : List AV}, VRs h vs ds → ∀ {i : Nat} {v : Value}, vs[i]? = some v → ∃ d, ds[i]? = some d ∧ VR h v d
  | _, _, .nil, i, v, e => by simp at e
  | _, _, .cons a r, 0, v, e => by simp at e; subst e; exact ⟨_, rfl, a⟩
  | _, _, .cons a r, i + 1, v, e => by simpa using VRs.getV r (by simpa using e)
theorem VRs.set {h : Heap} : ∀ {vs : List Value} {ds : List AV}, VRs h vs ds → ∀ (i : Nat) {v : Value} {d : AV}, VR h v d → VRs h (vs.set i v) (ds.set i d)
  | _, _, .nil, _, _, _, _ => by simpa using VRs.nil
  | _, _, .cons a r, 0, _, _, x => .cons x r
  | _, _, .cons a r, i + 1, _, _, x => .cons a (VRs.set r i x)
theorem VRs.reverse {h : Heap} {vs : List Value} {ds : List AV} (r : VRs h vs ds) : VRs h vs.reverse ds.reverse := by
  induction vs generalizing ds with
  | nil => cases r; exact .nil
  | cons v vs ih =>
    cases r with
    | cons a r => rw [List.reverse_cons, List.reverse_cons]; exact (ih r).append (.cons a .nil)
theorem VRs.take {h : Heap} : ∀ {vs : List Value} {ds : List AV}, VRs h vs ds → ∀ (i : Nat), VRs h (vs.take i) (ds.take i)
  | _, _, .nil, _ => by simpa using VRs.nil
  | _, _, .cons a r, 0 => by simpa using VRs.nil
  | _, _, .cons a r, i + 1 => by simpa using VRs.cons a (VRs.take r i)
theorem VR.handed {h : Heap} {v : Value} {d : AV} (x : VR h v d) : handedIn v = true := by
  cases x <;> first | rfl | assumption

/-- the same; a name space up to its slots -/
def Like (o o' : Obj) : Prop := o'.cls = o.cls ∧ o'.dict = o.dict ∧ o'.data = o.data ∧ (o' = o ∨ ∃ es ep, o.data = .dict es ep)
theorem Like.refl (o : Obj) : Like o o := ⟨rfl, rfl, rfl, .inl rfl⟩
theorem Like.trans {a b c : Obj} (x : Like a b) (y : Like b c) : Like a c :=
  ⟨y.1.trans x.1, y.2.1.trans x.2.1, y.2.2.1.trans x.2.2.1, by
    rcases x.2.2.2 with q | q
    · rcases y.2.2.2 with r | r
      · exact .inl (r.trans q)
      · exact .inr (by rw [← x.2.2.1]; exact r)
    · exact .inr q⟩
theorem Like.of_slots {o : Obj} {sl : Array (Option Value)} (h : ∃ es ep, o.data = .dict es ep) : Like o { o with slots := sl } :=
  ⟨rfl, rfl, rfl, .inr h⟩
theorem Like.same {o o' : Obj} (l : Like o o') (h : ∀ es ep, o.data ≠ .dict es ep) : o' = o := l.2.2.2.resolve_right fun ⟨es, ep, e⟩ => h es ep e

inductive ARel (p : Params) (h : Heap) : List DictEntry → List (Str × AV) → Prop
  | nil : ARel p h [] []
  | cons {x : Str} {t : Tok} {v : Value} {d : AV} {es : List DictEntry} {l : List (Str × AV)} : VR h v d → ARel p h es l → ARel p h (⟨PyData.keyHash p x, .str x t, v⟩ :: es) ((x, d) :: l)
theorem ARel.imm {p : Params} {h h' : Heap} (k : Imm h h') : ∀ {es : List DictEntry} {l : List (Str × AV)}, ARel p h es l → ARel p h' es l
  | _, _, .nil => .nil
  | _, _, .cons a r => .cons (a.imm k) (ARel.imm k r)

structure Px where
  prog : Program
  w : World
  K : Frag
  h₀ : Heap
  glob : Str → Option AV
  X : Addr

def CellOk (P : Px) (h : Heap) (a : Addr) : Cell → Prop
  | .list l => ∃ n vs, h.get? a = some (listOf (List.toArray vs) n) ∧ VRs h vs l
  | .dict l => ∃ kvs : List (Int × Value), h.DictAt (intKind P.prog P.w) a kvs l.length ∧ kvs.map (·.1) = l.map (·.1) ∧ VRs h (kvs.map (·.2)) (l.map (·.2))
  | .inst C d => h.get? a = some (instObj C d)
  | .attrs l => ∃ es n, h.get? a = some (dictOf es n) ∧ ARel P.w.params h es l ∧ es.length ≤ 900

theorem CellOk.there {P : Px} {h : Heap} {a : Addr} {c : Cell} (x : CellOk P h a c) : ∃ o, h.get? a = some o ∧ ¬ Im o ∧ ∀ vs, o.data ≠ .fields vs := by
  cases c with
  | list l => obtain ⟨n, vs, e, _⟩ := x; exact ⟨_, e, by simp [Im], by simp⟩
  | dict l => obtain ⟨kvs, ⟨o, es, e, hc, hd, _⟩, _⟩ := x; exact ⟨o, e, by simp [Im, hd], by simp [hd]⟩
  | inst C d => exact ⟨_, x, by simp [Im], by simp⟩
  | attrs l => obtain ⟨es, n, e, _⟩ := x; exact ⟨_, e, by simp [Im], by simp⟩
theorem CellOk.keep {P : Px} {h h' : Heap} {a : Addr} {c : Cell} (x : CellOk P h a c) (ha : ∀ o, h.get? a = some o → h'.get? a = some o) (k : Imm h h') : CellOk P h' a c := by
  cases c with
  | list l => obtain ⟨n, vs, e, r⟩ := x; exact ⟨n, vs, ha _ e, r.imm k⟩
  | dict l =>
    obtain ⟨kvs, ⟨o, es, e, r1⟩, r2, r3⟩ := x
    exact ⟨kvs, ⟨o, es, ha _ e, r1⟩, r2, r3.imm k⟩
  | inst C d => exact ha _ x
  | attrs l => obtain ⟨es, n, e, r, hz⟩ := x; exact ⟨es, n, ha _ e, r.imm k, hz⟩

abbrev Hid := Addr → Option Obj
theorem fresh_ge {h : Heap} {a : Addr} (ha : h.objs.size ≤ a) : h.get? a = none := by
  cases e : h.get? a with
  | none => rfl
  | some o => exact absurd (Heap.lt_size e) (Nat.not_lt.mpr ha)
structure St (P : Px) (H : Hid) (W : Store) (h : Heap) : Prop where
  size : P.h₀.objs.size ≤ h.objs.size
  keep : ∀ a o, P.h₀.get? a = some o → h.get? a = some o
  cell : ∀ a c, W a = some c → P.h₀.get? a = none ∧ CellOk P h a c
  hid : ∀ a o, H a = some o → P.h₀.get? a = none ∧ W a = none ∧ ∃ o', h.get? a = some o' ∧ Like o o'

section
variable {P : Px} {H : Hid} {W : Store} {h h' : Heap}
theorem St.noW (S : St P H W h) {a : Addr} (f : h.get? a = none) : W a = none := by
  cases e : W a with
  | none => rfl
  | some c => obtain ⟨o, ho, _⟩ := CellOk.there (S.cell a c e).2; rw [f] at ho; cases ho
theorem St.noH (S : St P H W h) {a : Addr} (f : h.get? a = none) : H a = none := by
  cases e : H a with
  | none => rfl
  | some c => obtain ⟨o, ho, _⟩ := (S.hid a c e).2.2; rw [f] at ho; cases ho
/-- a step that turns what lies in D alone -/
theorem St.step (S : St P H W h) (hsz : P.h₀.objs.size ≤ h'.objs.size) (D : Addr → Prop) (W' : Store)
    (hk : ∀ a o, h.get? a = some o → ¬ D a → h'.get? a = some o) (k : Imm h h')
    (hd : ∀ a, D a → P.h₀.get? a = none)
    (hh : ∀ a o o₁, H a = some o → D a → h.get? a = some o₁ → ∃ o', h'.get? a = some o' ∧ Like o₁ o')
    (hH : ∀ a o, H a = some o → W' a = none)
    (hc : ∀ a c, W' a = some c → (P.h₀.get? a = none ∧ CellOk P h' a c) ∨ (¬ D a ∧ W a = some c)) : St P H W' h' := by
  refine ⟨hsz, fun a o e => hk a o (S.keep a o e) (fun q => by rw [hd a q] at e; cases e), fun a c e => ?_, fun a o e => ?_⟩
  · rcases hc a c e with q | ⟨q, e'⟩
    · exact q
    · exact ⟨(S.cell a c e').1, CellOk.keep (S.cell a c e').2 (fun o ho => hk a o ho q) k⟩
  · obtain ⟨z0, zW, o', ho', hl⟩ := S.hid a o e
    by_cases q : D a
    · obtain ⟨o₂, e₂, l₂⟩ := hh a o o' e q ho'
      exact ⟨z0, hH a o e, o₂, e₂, hl.trans l₂⟩
    · exact ⟨z0, hH a o e, o', hk a o' ho' q, hl⟩
theorem St.more (S : St P H W h) (hsz : h.objs.size ≤ h'.objs.size) (hk : ∀ a o, h.get? a = some o → h'.get? a = some o) : St P H W h' :=
  S.step (Nat.le_trans S.size hsz) (fun _ => False) W (fun a o e _ => hk a o e) (Imm.of_keeps hk) (fun _ q => q.elim) (fun _ _ _ _ q => q.elim) (fun a o e => (S.hid a o e).2.1) (fun _ _ e => .inr ⟨id, e⟩)
theorem St.weaken (S : St P H W h) {W' : Store} (hs : ∀ a c, W' a = some c → W a = some c) : St P H W' h := by
  refine ⟨S.size, S.keep, fun a c e => S.cell a c (hs a c e), fun a o e => ⟨(S.hid a o e).1, ?_, (S.hid a o e).2.2⟩⟩
  cases q : W' a with
  | none => rfl
  | some c =>
    have z := hs a c q
    rw [(S.hid a o e).2.1] at z
    cases z
theorem St.lessH (S : St P H W h) {H' : Hid} (hs : ∀ a o, H' a = some o → ∃ o', H a = some o' ∧ Like o o') : St P H' W h :=
  ⟨S.size, S.keep, S.cell, fun a o e => by
    obtain ⟨o', e', l⟩ := hs a o e
    obtain ⟨z0, zW, o₂, e₂, l₂⟩ := S.hid a o' e'
    exact ⟨z0, zW, o₂, e₂, l.trans l₂⟩⟩
theorem St.add (S : St P H W h) {a : Addr} {c : Cell} (hH : H a = none) (h0 : P.h₀.get? a = none) (x : CellOk P h a c) : St P H (upd W a c) h := by
  refine ⟨S.size, S.keep, fun b c' e => ?_, fun b o e => ⟨(S.hid b o e).1, ?_, (S.hid b o e).2.2⟩⟩
  · by_cases hb : b = a
    · subst hb; simp only [upd, if_true, Option.some.injEq] at e; subst e; exact ⟨h0, x⟩
    · simp only [upd, hb, if_false] at e; exact S.cell b c' e
  · have hb : b ≠ a := fun q => by subst q; rw [hH] at e; cases e
    simp only [upd, hb, if_false]; exact (S.hid b o e).2.1
theorem St.alloc (S : St P H W h) {a : Addr} {c : Cell} (f : h.objs.size ≤ a) (hsz : h.objs.size ≤ h'.objs.size) (hk : ∀ b o, h.get? b = some o → h'.get? b = some o) (x : CellOk P h' a c) : St P H (upd W a c) h' :=
  (S.more hsz hk).add (S.noH (fresh_ge f)) (fresh_ge (Nat.le_trans S.size f)) x
theorem St.turn (S : St P H W h) (hsz : P.h₀.objs.size ≤ h'.objs.size) {a : Addr} {c₀ c : Cell} (ha : W a = some c₀) (hk : ∀ b o, b ≠ a → h.get? b = some o → h'.get? b = some o) (x : Imm h h' → CellOk P h' a c) : St P H (upd W a c) h' ∧ Imm h h' := by
  obtain ⟨z0, z⟩ := S.cell a c₀ ha
  obtain ⟨oa, hoa, him, _⟩ := CellOk.there z
  have im : Imm h h' := fun b o e i => by
    by_cases hb : b = a
    · subst hb; rw [hoa] at e; cases e; exact (him i).elim
    · exact hk b o hb e
  refine ⟨S.step hsz (· = a) (upd W a c) (fun b o e q => hk b o q e) im (fun b q => by rw [q]; exact z0) (fun b o o₁ e q => ?_) (fun b o e => ?_) (fun b c' e => ?_), im⟩
  · subst q; rw [(S.hid _ _ e).2.1] at ha; cases ha
  · have hb : b ≠ a := fun q => by subst q; rw [(S.hid _ _ e).2.1] at ha; cases ha
    simp only [upd, hb, if_false]; exact (S.hid b o e).2.1
  · by_cases hb : b = a
    · subst hb; simp only [upd, if_true, Option.some.injEq] at e; subst e; exact .inl ⟨z0, x im⟩
    · simp only [upd, hb, if_false] at e; exact .inr ⟨hb, e⟩
end

abbrev Names := List (Str × NameKind)
structure EnvOk (env : Env) (sc : Names) : Prop where
  kind : env.scope.kind = .function
  glb : env.globals = mainGlobals
  blt : env.builtins = builtinsNs
  loc : ∀ x, sc.lookup x = some .local → env.kindOf x = some .local
  cel : ∀ x, sc.lookup x = some .cell → env.kindOf x = some .cell
  fre : ∀ x, sc.lookup x = some .free → env.kindOf x = some .cell ∨ env.kindOf x = some .free
  gi : ∀ x, sc.lookup x = some .globalImplicit → env.kindOf x = some .globalImplicit

def Own (env : Env) (a : Addr) : Prop := a = env.locals ∨ ∃ x, (x, a) ∈ env.cells

structure Loc (P : Px) (env : Env) (sc : Names) (H : Hid) (W : Store) (h : Heap) (m : Vars) : Prop where
  own : ∀ a, Own env a → P.h₀.objs.size ≤ a ∧ H a = none ∧ W a = none
  ns : ∃ mm, h.Ns env.locals mm ∧ ∀ x av, look m x = some av → sc.lookup x = some .local → ∃ v, mm x = some v ∧ VR h v av
  cells : ∀ x, (sc.lookup x = some .cell ∨ sc.lookup x = some .free) → ∃ c vo, env.cells.lookup x = some c ∧ h.IsCell c vo ∧ ∀ av, look m x = some av → ∃ v, vo = some v ∧ VR h v av
  celli : ∀ x c, (x, c) ∈ env.cells → ∃ vo, h.IsCell c vo
  apart : env.cells.Pairwise fun x y => x.2 ≠ y.2

theorem lookup_mem {α : Type} : ∀ {l : List (Str × α)} {x : Str} {a : α}, l.lookup x = some a → (x, a) ∈ l
  | [], _, _, h => by simp at h
  | (y, b) :: r, x, a, h => by
    rw [List.lookup_cons] at h
    by_cases e : x = y
    · subst e; simp at h; subst h; exact .head _
    · rw [beq_eq_false_iff_ne.mpr e] at h; exact .tail _ (lookup_mem h)

theorem cells_ne : ∀ {l : List (Str × Addr)}, (l.Pairwise fun x y => x.2 ≠ y.2) → ∀ {x y : Str} {c d : Addr}, l.lookup x = some c → l.lookup y = some d → x ≠ y → c ≠ d
  | [], _, _, _, _, _, h, _, _ => by simp at h
  | (z, b) :: r, hp, x, y, c, d, h1, h2, hne => by
    rw [List.pairwise_cons] at hp
    rw [List.lookup_cons] at h1 h2
    by_cases e : x = z
    · subst e
      simp at h1; subst h1
      rw [beq_eq_false_iff_ne.mpr (Ne.symm hne)] at h2
      exact hp.1 _ (lookup_mem h2)
    · rw [beq_eq_false_iff_ne.mpr e] at h1
      by_cases e' : y = z
      · subst e'; simp at h2; subst h2
        exact Ne.symm (hp.1 _ (lookup_mem h1))
      · rw [beq_eq_false_iff_ne.mpr e'] at h2
        exact cells_ne hp.2 h1 h2 hne

theorem ns_like {h h' : Heap} {a : Addr} {m : Str → Option Value} (x : h.Ns a m) (k : ∀ o, h.get? a = some o → ∃ o', h'.get? a = some o' ∧ Like o o') : h'.Ns a m := by
  refine cps fun kk => ?_
  obtain ⟨o, es, ep, e, hd, r⟩ := x
  refine kk ?_
  clear kk
  refine cps fun kk => ?_
  obtain ⟨o', e', l⟩ := k o e
  refine kk ?_
  clear kk
  exact ⟨o', es, ep, e', l.2.2.1.trans hd, r⟩
theorem cell_like {h h' : Heap} {a : Addr} {v : Option Value} (x : h.IsCell a v) (k : ∀ o, h.get? a = some o → ∃ o', h'.get? a = some o' ∧ Like o o') : h'.IsCell a v := by
  refine cps fun kk => ?_
  obtain ⟨o, e, hd⟩ := x
  refine kk ?_
  clear kk
  refine cps fun kk => ?_
  obtain ⟨o', e', l⟩ := k o e
  refine kk ?_
  clear kk
  exact ⟨o', e', l.2.2.1.trans hd⟩

section
variable {P : Px} {env : Env} {sc : Names} {H H' : Hid} {W W' : Store} {h h' : Heap} {m : Vars}
theorem Loc.keep (L : Loc P env sc H W h m) (k : ∀ a o, Own env a → h.get? a = some o → ∃ o', h'.get? a = some o' ∧ Like o o') (i : Imm h h')
    (hn : ∀ a, Own env a → H' a = none ∧ W' a = none) : Loc P env sc H' W' h' m := by
  refine cps fun kk => ?_
  obtain ⟨mm, n, r⟩ := L.ns
  refine kk ?_
  clear kk
  refine ⟨fun a ha => ⟨(L.own a ha).1, hn a ha⟩, ⟨mm, ns_like n (k _ · (.inl rfl)), fun x av e q => ?_⟩, fun x q => ?_, fun x c hm => ?_, L.apart⟩
  · refine cps fun kk => ?_
    obtain ⟨v, e', z⟩ := r x av e q
    refine kk ?_
    clear kk
    exact ⟨v, e', z.imm i⟩
  · refine cps fun kk => ?_
    obtain ⟨c, vo, e, z, y⟩ := L.cells x q
    refine kk ?_
    clear kk
    exact ⟨c, vo, e, cell_like z (k _ · (.inr ⟨x, lookup_mem e⟩)), fun av ea => let ⟨v, ev, zz⟩ := y av ea; ⟨v, ev, zz.imm i⟩⟩
  · obtain ⟨vo, z⟩ := L.celli x c hm; exact ⟨vo, cell_like z (k _ · (.inr ⟨x, hm⟩))⟩
theorem Loc.there (L : Loc P env sc H W h m) {a : Addr} (ha : Own env a) : ∃ o, h.get? a = some o ∧ ¬ Im o ∧ ∀ vs, o.data ≠ .fields vs := by
  rcases ha with rfl | ⟨x, hm⟩
  · refine cps fun kk => ?_
    obtain ⟨mm, ⟨o, es, ep, e, hd, _⟩, _⟩ := L.ns
    refine kk ?_
    clear kk
    exact ⟨o, e, by simp [Im, hd], by simp [hd]⟩
  · refine cps fun kk => ?_
    obtain ⟨vo, o, e, hd⟩ := L.celli x a hm
    refine kk ?_
    clear kk
    exact ⟨o, e, by simp [Im, hd], by simp [hd]⟩
theorem Loc.nsThere (L : Loc P env sc H W h m) : ∃ o es ep, h.get? env.locals = some o ∧ o.data = .dict es ep := by
  refine cps fun kk => ?_
  obtain ⟨mm, ⟨o, es, ep, e, hd, _⟩, _⟩ := L.ns
  refine kk ?_
  clear kk
  exact ⟨o, es, ep, e, hd⟩
theorem Loc.more (L : Loc P env sc H W h m) (hk : ∀ b o, h.get? b = some o → h'.get? b = some o) : Loc P env sc H W h' m :=
  L.keep (fun a o _ e => ⟨o, hk a o e, .refl o⟩) (Imm.of_keeps hk) fun a ha => (L.own a ha).2
theorem Loc.alloc (L : Loc P env sc H W h m) {a : Addr} {c : Cell} (f : h.get? a = none) (hk : ∀ b o, h.get? b = some o → h'.get? b = some o) : Loc P env sc H (upd W a c) h' m :=
  L.keep (fun b o _ e => ⟨o, hk b o e, .refl o⟩) (Imm.of_keeps hk) fun b hb => ⟨(L.own b hb).2.1, by
    have : b ≠ a := fun q => by obtain ⟨o, e, _⟩ := L.there hb; rw [q, f] at e; cases e
    simp only [upd, this, if_false]; exact (L.own b hb).2.2⟩
theorem Loc.turn (L : Loc P env sc H W h m) {a : Addr} {c₀ c : Cell} (ha : W a = some c₀) (hk : ∀ b o, b ≠ a → h.get? b = some o → h'.get? b = some o) (i : Imm h h') : Loc P env sc H (upd W a c) h' m := by
  have ne : ∀ b, Own env b → b ≠ a := fun b hb q => by have := (L.own b hb).2.2; rw [q, ha] at this; cases this
  exact L.keep (fun b o hb e => ⟨o, hk b o (ne b hb) e, .refl o⟩) i fun b hb => ⟨(L.own b hb).2.1, by
    simp only [upd, ne b hb, if_false]; exact (L.own b hb).2.2⟩
theorem Loc.weaken (L : Loc P env sc H W h m) (hs : ∀ a c, W' a = some c → W a = some c) : Loc P env sc H W' h m :=
  L.keep (fun _ o _ e => ⟨o, e, .refl o⟩) (Imm.refl h) fun a ha => ⟨(L.own a ha).2.1, by
    cases q : W' a with
    | none => rfl
    | some c => have z := hs a c q; rw [(L.own a ha).2.2] at z; cases z⟩
end

/-! ### triples -/
structure Rdy (A : Around) (n : Nat) : Prop where
  hand : A.handled = none
  depth : A.depth + n < recursionLimit
  units : A.units + 24 * n < cLine
theorem Rdy.less {A : Around} {n k : Nat} (r : Rdy A n) (h : k ≤ n) : Rdy A k := ⟨r.hand, by have := r.depth; omega, by have := r.units; omega⟩
def FrIn (Fs : List Env) (env : Env) (H : Hid) : Prop := ∀ e ∈ Fs, e.scope.kind ≠ .module ∧ ∃ L, e.frame = some L ∧ (L = env.locals ∨ ∃ o, H L = some o ∧ ∃ es ep, o.data = .dict es ep)

def Free (P : Px) (H : Hid) (W : Store) (O : Addr → Prop) (a : Addr) : Prop := P.h₀.get? a = none ∧ H a = none ∧ W a = none ∧ ¬ O a
def Exc (P : Px) (H : Hid) (W : Store) (O : Addr → Prop) (h : Heap) (x : Addr) : Prop :=
  Free P H W O x ∧ ∃ oe vs, h.get? x = some oe ∧ oe.cls = .ref P.X ∧ oe.data = .fields vs ∧ 1 < vs.size ∧
    (vs[1]? = some .none ∨ ∃ T oT ts, vs[1]? = some (.ref T) ∧ Free P H W O T ∧ T ≠ x ∧ h.get? T = some oT ∧ oT.cls = .type "traceback" ∧ oT.data = .fields ts ∧ 3 < ts.size)

inductive EVp (P : Px) (env : Env) (sc : Names) (H : Hid) (m : Vars) (s : Shared) {α : Type} (R : Heap → α → Store → Prop) (a : α) (s' : Shared) : Prop
  | mk (W' : Store) (h' : Heap) (tk' : Nat) : s' = { s with heap := h', toks := tk' } → St P H W' h' → Loc P env sc H W' h' m → Imm s.heap h' → R h' a W' → EVp P env sc H m s R a s'
inductive XPp (P : Px) (env : Env) (sc : Names) (H : Hid) (s : Shared) (X : Vars → Store → Prop) (e : Value) (s' : Shared) : Prop
  | mk (x : Addr) (m' : Vars) (W' : Store) (h' : Heap) (tk' : Nat) : e = .ref x → s' = { s with heap := h', toks := tk' } → St P H W' h' → Loc P env sc H W' h' m' → Imm s.heap h' → Exc P H W' (Own env) h' x → X m' W' → XPp P env sc H s X e s'

/-- a tree that turns no name of the frame -/
def EV (P : Px) (n : Nat) (env : Env) (sc : Names) (m : Vars) (W : Store) {α : Type} (t : Sem α) (R : Heap → α → Store → Prop) (X : Store → Prop) (Pre : Heap → Prop := fun _ => True) : Prop :=
  ∀ (A : Around) (H : Hid) (s : Shared) (Fs : List Env), Rdy A n → A.frames = some Fs → FrIn Fs env H → EnvOk env sc → St P H W s.heap → Loc P env sc H W s.heap m → Pre s.heap →
    wpAny (model P.prog P.w) A t (EVp P env sc H m s R) (XPp P env sc H s fun m' W' => m' = m ∧ X W') s
def Val (Q : AV → Store → Prop) : Heap → Value → Store → Prop := fun h v W => ∃ d, VR h v d ∧ Q d W
def Tst (Q : Bool → Store → Prop) : Heap → Bool → Store → Prop := fun _ b W => Q b W

theorem XPp.from {P : Px} {env : Env} {sc : Names} {H : Hid} {s s₁ : Shared} {X : Vars → Store → Prop} {h₁ : Heap} {tk₁ : Nat} (e : s₁ = { s with heap := h₁, toks := tk₁ }) (i : Imm s.heap h₁) {v : Value} {s' : Shared} (x : XPp P env sc H s₁ X v s') : XPp P env sc H s X v s' := by
  subst e
  refine cps fun kk => ?_
  obtain ⟨x, m', W', h', tk', rfl, rfl, S, L, i', E, q⟩ := x
  refine kk ?_
  clear kk
  exact ⟨x, m', W', h', tk', rfl, rfl, S, L, i.trans i', E, q⟩
theorem EVp.from {P : Px} {env : Env} {sc : Names} {H : Hid} {m : Vars} {s s₁ : Shared} {α : Type} {R : Heap → α → Store → Prop} {h₁ : Heap} {tk₁ : Nat} (e : s₁ = { s with heap := h₁, toks := tk₁ }) (i : Imm s.heap h₁) {v : α} {s' : Shared} (x : EVp P env sc H m s₁ R v s') : EVp P env sc H m s R v s' := by
  subst e
  refine cps fun kk => ?_
  obtain ⟨W', h', tk', rfl, S, L, i', q⟩ := x
  refine kk ?_
  clear kk
  exact ⟨W', h', tk', rfl, S, L, i.trans i', q⟩

section
variable {P : Px} {n : Nat} {env : Env} {sc : Names} {m : Vars} {W : Store} {α β : Type} {t : Sem α} {R : Heap → α → Store → Prop} {X : Store → Prop} {Pre : Heap → Prop}
theorem EV.pre {t : Sem α} (h : EV P n env sc m W t R X) : EV P n env sc m W t R X Pre := fun A H s Fs a b c d e f _ => h A H s Fs a b c d e f trivial
theorem EV.less {k : Nat} {t : Sem α} (h : EV P k env sc m W t R X Pre) (hk : k ≤ n) : EV P n env sc m W t R X Pre := fun A H s Fs a => h A H s Fs (a.less hk)
/-- what one tree leaves, the next takes: at any tree that binds so -/
theorem EV.go {A : Around} {H : Hid} {s : Shared} {Fs : List Env} {Q : α → Shared → Prop} {E : Value → Shared → Prop} (h : EV P n env sc m W t R X Pre) (r : Rdy A n) (f : A.frames = some Fs) (fi : FrIn Fs env H) (eo : EnvOk env sc) (S : St P H W s.heap) (L : Loc P env sc H W s.heap m) (p : Pre s.heap)
    (hE : ∀ e s', XPp P env sc H s (fun m' W' => m' = m ∧ X W') e s' → E e s')
    (k : ∀ a W' h' tk', St P H W' h' → Loc P env sc H W' h' m → Imm s.heap h' → R h' a W' → Q a { s with heap := h', toks := tk' }) : wpAny (model P.prog P.w) A t Q E s :=
  wpAny_mono (h A H s Fs r f fi eo S L p) (fun a s' ⟨W', h', tk', e, S', L', i, q⟩ => e ▸ k a W' h' tk' S' L' i q) hE
end

def FrH (Fs : List Env) (H : Hid) : Prop := ∀ e ∈ Fs, e.scope.kind ≠ .module ∧ ∃ L o, e.frame = some L ∧ H L = some o ∧ ∃ es ep, o.data = .dict es ep

/-- what a call of an object of the text leaves -/
inductive CVp (P : Px) (H : Hid) (s : Shared) (Q : AV → Store → Prop) (v : Value) (s' : Shared) : Prop
  | mk (W' : Store) (h' : Heap) (tk' : Nat) : s' = { s with heap := h', toks := tk' } → St P H W' h' → Imm s.heap h' → (d : AV) → VR h' v d → Q d W' → CVp P H s Q v s'
inductive CXp (P : Px) (H : Hid) (s : Shared) (X : Store → Prop) (e : Value) (s' : Shared) : Prop
  | mk (x : Addr) (W' : Store) (h' : Heap) (tk' : Nat) : e = .ref x → s' = { s with heap := h', toks := tk' } → St P H W' h' → Imm s.heap h' → Exc P H W' (fun _ => False) h' x → X W' → CXp P H s X e s'
/-- a call of an object of the text -/
structure CallOk (P : Px) (n : Nat) (f : Addr) (args : List AV) (W : Store) (Q : AV → Store → Prop) (X : Store → Prop) : Prop where
  go : ∀ (A : Around) (H : Hid) (s : Shared) (Fs : List Env) (vs : List Value), Rdy A n → A.frames = some Fs → FrH Fs H → St P H W s.heap → VRs s.heap vs args →
    wpAny (model P.prog P.w) A (call (.ref f) vs)
      (CVp P H s Q) (CXp P H s X) s

/-! ### what the operations give -/
def small (i : Int) : Prop := -(2 ^ 62) < i ∧ i < 2 ^ 62
def new (W : Store) (c : Cell) (Q : AV → Store → Prop) : Prop := ∀ r, W r = none → Q (.ref r) (upd W r c)
def ivs (l : List Int) : List AV := l.map .int

def binOk (op : Operator) (a b : AV) (W : Store) (Q : AV → Store → Prop) : Prop :=
  match op with
  | .Add => match a, b with
    | .int x, .int y => Q (.int (x + y)) W
    | .tup x, .tup y => x.length + y.length ≤ 1000 ∧ Q (.tup (x ++ y)) W
    | .ref x, .ref y => ∃ lx ly, W x = some (.list lx) ∧ W y = some (.list ly) ∧ lx.length + ly.length ≤ 1000 ∧ new W (.list (lx ++ ly)) Q
    | _, _ => False
  | .Sub => match a, b with
    | .int x, .int y => Q (.int (x - y)) W
    | _, _ => False
  | .Mult => match a, b with
    | .int x, .int y => small x ∧ Q (.int (x * y)) W
    | _, _ => False
  | .FloorDiv => match a, b with
    | .int x, .int y => 0 < y ∧ y < 2 ^ 30 ∧ Q (.int (x / y)) W
    | _, _ => False
  | .Mod => match a, b with
    | .int x, .int y => 0 < y ∧ Q (.int (x % y)) W
    | _, _ => False
  | .Pow => match a, b with
    | .int x, .int y => 0 ≤ y ∧ y ≤ 64 ∧ 0 ≤ x ∧ x ≤ 64 ∧ Q (.int (x ^ y.toNat)) W
    | _, _ => False
  | _ => False

/-- data that == takes: ivs, bools, bytes, tuples of them -/
def eqOk : Nat → AV → Prop
  | _, .int _ => True
  | _, .bool _ => True
  | _, .bytes _ => True
  | n + 1, .tup l => ∀ x ∈ l, eqOk n x
  | _, _ => False

def cmpOk (op : CmpOp) (a b : AV) (W : Store) (Q : Bool → Store → Prop) : Prop :=
  match op with
  | .Eq => match a, b with
    | .int x, .int y => Q (decide (x = y)) W
    | .bool x, .bool y => Q (x == y) W
    | .tup x, .tup y => x = y ∧ eqOk 6 (.tup x) ∧ Q true W
    | .ref x, .ref y => (∃ l, W x = some (.list (ivs l)) ∧ W y = some (.list (ivs l)) ∧ Q true W) ∨
        (∃ l, W x = some (.dict l) ∧ W y = some (.dict l) ∧ (∀ p ∈ l, eqOk 1 p.2) ∧ (l.map (·.1)).Nodup ∧ Q true W)
    | _, _ => False
  | .NotEq => match a, b with
    | .int x, .int y => Q (decide (x ≠ y)) W
    | .bool x, .bool y => Q (x != y) W
    | .tup x, .tup y => x = y ∧ eqOk 6 (.tup x) ∧ Q false W
    | .ref x, .ref y => (∃ l, W x = some (.list (ivs l)) ∧ W y = some (.list (ivs l)) ∧ Q false W) ∨
        (∃ l, W x = some (.dict l) ∧ W y = some (.dict l) ∧ (∀ p ∈ l, eqOk 1 p.2) ∧ (l.map (·.1)).Nodup ∧ Q false W)
    | _, _ => False
  | .Lt => match a, b with
    | .int x, .int y => Q (decide (x < y)) W
    | _, _ => False
  | .LtE => match a, b with
    | .int x, .int y => Q (decide (x ≤ y)) W
    | _, _ => False
  | .Gt => match a, b with
    | .int x, .int y => Q (decide (y < x)) W
    | _, _ => False
  | .GtE => match a, b with
    | .int x, .int y => Q (decide (y ≤ x)) W
    | _, _ => False
  | .Is => match b with
    | .none => match a with
      | .none => Q true W
      | .ref _ => Q false W
      | .tup _ => Q false W
      | _ => False
    | _ => False
  | .IsNot => match b with
    | .none => match a with
      | .none => Q false W
      | .ref _ => Q true W
      | .tup _ => Q true W
      | _ => False
    | _ => False
  | .In => match a, b with
    | .int x, .tup l => ∃ ns, l = ivs ns ∧ Q (decide (x ∈ ns)) W
    | .int x, .ref y => (∃ ns, W y = some (.list (ivs ns)) ∧ Q (decide (x ∈ ns)) W) ∨ (∃ l, W y = some (.dict l) ∧ Q (decide (x ∈ l.map (·.1))) W)
    | _, _ => False
  | .NotIn => match a, b with
    | .int x, .tup l => ∃ ns, l = ivs ns ∧ Q (!decide (x ∈ ns)) W
    | .int x, .ref y => (∃ ns, W y = some (.list (ivs ns)) ∧ Q (!decide (x ∈ ns)) W) ∨ (∃ l, W y = some (.dict l) ∧ Q (!decide (x ∈ l.map (·.1))) W)
    | _, _ => False

def truOk (a : AV) (W : Store) (Q : Bool → Store → Prop) : Prop :=
  match a with
  | .bool b => Q b W
  | .none => Q false W
  | .ref x => ∃ l, W x = some (.list l) ∧ l.length ≤ 1000 ∧ Q (!l.isEmpty) W
  | _ => False

def subOk (a i : AV) (W : Store) (Q : AV → Store → Prop) : Prop :=
  match a, i with
  | .tup l, .int k => ∃ v, 0 ≤ k ∧ k < 2 ^ 62 ∧ l[k.toNat]? = some v ∧ Q v W
  | .ref x, .int k => (∃ l v, W x = some (.list l) ∧ ((0 ≤ k ∧ k < 2 ^ 62 ∧ l[k.toNat]? = some v) ∨ (k = -1 ∧ l.getLast? = some v)) ∧ l.length ≤ 1000 ∧ Q v W) ∨
      (∃ l v, W x = some (.dict l) ∧ l.lookup k = some v ∧ Q v W)
  | _, _ => False

/-- a slice that is written: [:k] or [::-1] -/
-- a list of the store, or one that stood before the call and is read alone
def ReadL (P : Px) (W : Store) (x : Addr) (l : List AV) : Prop :=
  W x = some (.list l) ∨ ∃ (vs : List Value) (ns : List Int), P.h₀.IsList x (List.toArray vs) ∧ l = ivs ns ∧ IntsAre vs ns
def sliceOk (P : Px) (a : AV) (hi : Option Nat) (W : Store) (Q : AV → Store → Prop) : Prop :=
  match a, hi with
  | .tup l, some k => l.length ≤ 1000 ∧ Q (.tup (l.take k)) W
  | .tup l, none => l.length ≤ 1000 ∧ Q (.tup l.reverse) W
  | .ref x, some k => ∃ l, ReadL P W x l ∧ l.length ≤ 1000 ∧ new W (.list (l.take k)) Q
  | _, _ => False

def bltOk (id : String) (args : List AV) (W : Store) (Q : AV → Store → Prop) : Prop :=
  if id = "len" then match args with
    | [.tup l] => l.length ≤ 1000 ∧ Q (.int l.length) W
    | [.ref x] => ∃ l, W x = some (.list l) ∧ l.length ≤ 1000 ∧ Q (.int l.length) W
    | _ => False
  else if id = "sorted" then match args with
    | [.ref x] => ∃ ns, W x = some (.list (ivs ns)) ∧ ns.length ≤ 60 ∧ ∀ ns', ns'.Perm ns → ns'.Pairwise (· ≤ ·) → new W (.list (ivs ns')) Q
    | _ => False
  else if id = "max" then match args with
    | [.ref x] => ∃ ns, W x = some (.list (ivs ns)) ∧ ns ≠ [] ∧ ns.length ≤ 60 ∧ ∀ k, k ∈ ns → (∀ y ∈ ns, y ≤ k) → Q (.int k) W
    | _ => False
  else if id = "min" then match args with
    | [.int x, .int y] => Q (.int (if y < x then y else x)) W
    | _ => False
  else False
def tyOk (id : String) (args : List AV) (W : Store) (Q : AV → Store → Prop) : Prop :=
  if id = "tuple" then match args with
    | [.ref x] => ∃ l, W x = some (.list l) ∧ l.length ≤ 1000 ∧ Q (.tup l) W
    | _ => False
  else if id = "range" then match args with
    | [.int b] => 0 ≤ b ∧ b ≤ 1000 ∧ Q (.rng 0 b) W
    | [.int a, .int b] => 0 ≤ a ∧ a ≤ b ∧ b ≤ 1000 ∧ Q (.rng a b) W
    | _ => False
  else False

def vcCall (P : Px) (n : Nat) (f : AV) (args : List AV) (W : Store) (Q : AV → Store → Prop) (X : Store → Prop) : Prop :=
  match f with
  | .ref a => keepIn P.K (.ref a) = true ∧ CallOk P n a args W Q X
  | .blt id => bltOk id args W Q
  | .ty id => tyOk id args W Q
  | _ => False

/-- what the walk asks of a class of the text -/
structure ClsOk (K : Frag) (C : Addr) : Prop where
  getattribute : findIn K (.ref C) "__getattribute__" = some (some (.builtin "object.__getattribute__"))
  getattr : findIn K (.ref C) "__getattr__" = some none
  setattr : findIn K (.ref C) "__setattr__" = some (some (.builtin "object.__setattr__"))
  plain : plainOver K C = true
  dict : hasDictIn K C = true
  makes : makesIn K C = true
def FieldOk (K : Frag) (C : Addr) (x : Str) : Prop := findIn K (.ref C) x = some none ∧ takerIn K C x = some none ∧ copiedNames.contains x = false
def MethOk (K : Frag) (C : Addr) (x : Str) (f : Addr) : Prop := findIn K (.ref C) x = some (some (.ref f)) ∧ fnIn K f = true ∧ isFn K (.ref f) = true

def putA : List (Str × AV) → Str → AV → List (Str × AV)
  | [], x, v => [(x, v)]
  | (y, u) :: r, x, v => if y == x then (y, v) :: r else (y, u) :: putA r x v

def attrOk (P : Px) (o : AV) (x : Str) (W : Store) (Q : AV → Store → Prop) : Prop :=
  match o with
  | .ref a => ∃ C d l v, W a = some (.inst C d) ∧ W d = some (.attrs l) ∧ ClsOk P.K C ∧ FieldOk P.K C x ∧ l.lookup x = some v ∧ Q v W
  | _ => False
def setAttrOk (P : Px) (o : AV) (x : Str) (v : AV) (W : Store) (Q : Store → Prop) : Prop :=
  match o with
  | .ref a => ∃ C d l, W a = some (.inst C d) ∧ W d = some (.attrs l) ∧ ClsOk P.K C ∧ FieldOk P.K C x ∧ l.length ≤ 20 ∧ Q (upd W d (.attrs (putA l x v)))
  | _ => False
def setItemOk (o i v : AV) (W : Store) (Q : Store → Prop) : Prop :=
  match o, i with
  | .ref a, .int k => (∃ l, W a = some (.list l) ∧ 0 ≤ k ∧ k.toNat < l.length ∧ l.length ≤ 1000 ∧ Q (upd W a (.list (l.set k.toNat v)))) ∨
      (∃ l, W a = some (.dict l) ∧ k ∉ l.map (·.1) ∧ l.length ≤ 1000 ∧ Q (upd W a (.dict (l ++ [(k, v)]))))
  | _, _ => False
def noCallE : PySem.Expr → Bool
  | .Call .. => false
  | _ => true
def appOk (a : Addr) (vs : List AV) (W : Store) (Q : AV → Store → Prop) : Prop := ∃ l v, vs = [v] ∧ W a = some (.list l) ∧ l.length ≤ 1000 ∧ Q .none (upd W a (.list (l ++ [v])))
def revOk (a : Addr) (vs : List AV) (W : Store) (Q : AV → Store → Prop) : Prop := ∃ l, vs = [] ∧ W a = some (.list l) ∧ l.length ≤ 1000 ∧ Q .none (upd W a (.list l.reverse))
def getOk (a : Addr) (vs : List AV) (W : Store) (Q : AV → Store → Prop) : Prop := ∃ l k v, vs = [.int k, v] ∧ W a = some (.dict l) ∧ Q ((l.lookup k).getD v) W
/-- a method's call: what is called hangs on the object as it is before the arguments -/
def methAt (P : Px) (n : Nat) (o : AV) (x : Str) (args : Store → (List AV → Store → Prop) → Prop) (W : Store) (Q : AV → Store → Prop) (X : Store → Prop) : Prop :=
  match o with
  | .ref a => (x = Str.ofString "append" ∧ (∃ l, W a = some (.list l)) ∧ args W fun vs W₂ => appOk a vs W₂ Q) ∨
      (x = Str.ofString "reverse" ∧ (∃ l, W a = some (.list l)) ∧ args W fun vs W₂ => revOk a vs W₂ Q) ∨
      (x = Str.ofString "get" ∧ (∃ l, W a = some (.dict l)) ∧ args W fun vs W₂ => getOk a vs W₂ Q) ∨
      (∃ C d l f, W a = some (.inst C d) ∧ W d = some (.attrs l) ∧ ClsOk P.K C ∧ MethOk P.K C x f ∧ l.lookup x = none ∧ args W fun vs W₂ => CallOk P n f (.ref a :: vs) W₂ Q X)
  | _ => False

/-! ### comprehensions and loops: where the items come from -/
inductive Src (W : Store) : AV → List AV → (Store → Prop) → Prop
  | tup (l : List AV) : l.length ≤ 1000 → Src W (.tup l) l (fun _ => True)
  | rng (lo : Int) (k : Nat) : 0 ≤ lo → k ≤ 1000 → lo ≤ 1000 → Src W (.rng lo (lo + k)) ((List.range k).map fun (i : Nat) => AV.int (lo + i)) (fun _ => True)
  | list (a : Addr) (l : List AV) : W a = some (.list l) → l.length ≤ 1000 → Src W (.ref a) l (fun W' => W' a = some (.list l))
  | dict (a : Addr) (l : List (Int × AV)) : W a = some (.dict l) → (l.map (·.1)).Nodup → l.length ≤ 1000 → Src W (.ref a) (ivs (l.map (·.1))) (fun W' => W' a = some (.dict l))

/-- a target's names take a value -/
def distinct : List Str → Bool
  | [] => true
  | x :: r => !r.contains x && distinct r
def bindT (t : PySem.Expr) (v : AV) (m : Vars) (k : Vars → Prop) : Prop :=
  match t with
  | .Name x _ => k (setv m x v)
  | .Tuple es _ _ => match es with
    | [a, b] => match a, b, v with
      | .Name x _, .Name y _, .tup [p, q] => k (setv (setv m x p) y q)
      | _, _, _ => False
    | [a, b, c] => match a, b, c, v with
      | .Name x _, .Name y _, .Name z _, .tup [p, q, r] => k (setv (setv (setv m x p) y q) z r)
      | _, _, _, _ => False
    | _ => False
  | _ => False
/-- a comprehension's own names -/
def bindC (t : PySem.Expr) (v : AV) (m : Vars) (k : Vars → Prop) : Prop :=
  match t with
  | .Name x _ => k ((x, some v) :: m)
  | .Tuple es _ _ => match es with
    | [a, b] => match a, b, v with
      | .Name x _, .Name y _, .tup [p, q] => k ((y, some q) :: (x, some p) :: m)
      | _, _, _ => False
    | _ => False
  | _ => False

def compL (bnd : AV → (Vars → Prop) → Prop) (tst : Vars → Store → (Bool → Store → Prop) → Prop) (elt : Vars → Store → (AV → Store → Prop) → Prop) (ok : Store → Prop) (Q : List AV → Store → Prop) : List AV → List AV → Store → Prop
  | [], ys, W => Q ys W
  | x :: xs, ys, W => bnd x fun m' => tst m' W fun b W₁ => match b with
    | true => elt m' W₁ fun y W₂ => ok W₂ ∧ compL bnd tst elt ok Q xs (ys ++ [y]) W₂
    | false => ok W₁ ∧ compL bnd tst elt ok Q xs ys W₁

def dictL (bnd : AV → (Vars → Prop) → Prop) (kV vV : Vars → Store → (AV → Store → Prop) → Prop) (ok : Store → Prop) (D : Addr) (Q : Store → Prop) : List AV → Store → Prop
  | [], W => Q W
  | x :: xs, W => bnd x fun m' => kV m' W fun k W₁ => vV m' W₁ fun v W₂ => ∃ i l, k = .int i ∧ W₂ D = some (.dict l) ∧ i ∉ l.map (·.1) ∧ l.length ≤ 1000 ∧
    ok (upd W₂ D (.dict (l ++ [(i, v)]))) ∧ dictL bnd kV vV ok D Q xs (upd W₂ D (.dict (l ++ [(i, v)])))

inductive AFlow where
  | next | brk | cont
  | ret (v : AV)
def forL (bnd : AV → Vars → (Vars → Prop) → Prop) (body : Vars → Store → (AFlow → Vars → Store → Prop) → Prop) (ok : Store → Prop) (Q : AFlow → Vars → Store → Prop) : List AV → Vars → Store → Prop
  | [], m, W => Q .next m W
  | x :: xs, m, W => bnd x m fun m₁ => body m₁ W fun f m₂ W₂ => match f with
    | .next => ok W₂ ∧ forL bnd body ok Q xs m₂ W₂
    | .cont => ok W₂ ∧ forL bnd body ok Q xs m₂ W₂
    | .brk => Q .next m₂ W₂
    | .ret v => Q (.ret v) m₂ W₂

def isSlice : PySem.Expr → Option (Option Nat)
  | .Slice none (some (.Constant (.int k) _ _)) none _ => if 0 ≤ k then some (some k.toNat) else none
  | .Slice none none (some (.UnaryOp .USub (.Constant (.int 1) _ _) _)) _ => some none
  | _ => none

def plainE : PySem.Expr → Bool
  | .Starred .. => false
  | _ => true

/-! ### what is looked at once, in the text alone -/
def notSet : PySem.Expr → Bool
  | .Set .. => false
  | _ => true
def plainKind (k : Option NameKind) : Bool := k == some .local || k == some .cell || k == some .free
def nameOk (sc : Names) (ns : List Str) (x : Str) : Bool := x != Str.ofString "__debug__" && x != Str.ofString "__classdict__" &&
  (if ns.contains x then plainKind (sc.lookup x) else sc.lookup x == some .globalImplicit)
def storeOk (sc : Names) (ns : List Str) (x : Str) : Bool := ns.contains x && (sc.lookup x == some .local || sc.lookup x == some .cell)
def targetOk (sc : Names) (ns : List Str) : PySem.Expr → Bool
  | .Name x _ => storeOk sc ns x
  | .Tuple es _ _ => match es with
    | [.Name x _, .Name y _] => storeOk sc ns x && storeOk sc ns y && x != y
    | [.Name x _, .Name y _, .Name z _] => storeOk sc ns x && storeOk sc ns y && storeOk sc ns z
    | _ => false
  | _ => false
/-- the names that a comprehension's target binds -/
def compNames : PySem.Expr → List Str
  | .Name x _ => [x]
  | .Tuple es _ _ => match es with
    | [.Name x _, .Name y _] => [y, x]
    | _ => []
  | _ => []
def isName : PySem.Expr → Bool
  | .Name .. => true
  | _ => false
def compOk (sc : Names) (ns : List Str) (scope : Scope) (it t : PySem.Expr) : Bool :=
  notSet it && scope.kind == .function &&
  scope.names.all (fun p => p.2 != .cell && (p.2 != .local || (scope.names.lookup p.1 == some .local && ((compNames t).contains p.1 || !ns.contains p.1))) && (p.2 != .free || (sc.lookup p.1 == some .cell || sc.lookup p.1 == some .free))) &&
  !(compNames t).isEmpty && (compNames t).all (fun x => scope.names.lookup x == some .local) && distinct (compNames t) && distinct (scope.names.map (·.1))

def isNone : PySem.Expr → Bool
  | .Constant .none _ _ => true
  | _ => false

structure PxOk (P : Px) : Prop where
  inK : P.K.In P.h₀
  glb : ∃ mg mb, P.h₀.Ns mainGlobals mg ∧ P.h₀.Ns builtinsNs mb ∧ ∀ x av, P.glob x = some av → ∃ v, (mg x = some v ∨ (mg x = none ∧ mb x = some v)) ∧ VR P.h₀ v av
  nolimit : P.h₀.NoLimit
  big : ∃ o, P.h₀.get? sysModules = some o
  exc : ∃ mg, OwnCls (Str.ofString "ConfRefused") P.X [.type "Exception", .type "BaseException", .type "object"] "Exception.__new__" mg P.h₀
  globX : P.glob (Str.ofString "ConfRefused") = some (.ref P.X)

/-! ### the ledger of everything, for the rules that ask for one -/
def noHeap : Heap := ⟨#[], {}⟩
theorem noHeap_get (a : Addr) : noHeap.get? a = none := fresh_ge (Nat.zero_le _)
def allN (h : Heap) (L : Addr) : List (Addr × Obj) := (List.range h.objs.size).filterMap fun a => if a = L then none else (h.get? a).map fun o => (a, o)
theorem mem_allN {h : Heap} {L a : Addr} {o : Obj} : (a, o) ∈ allN h L ↔ a ≠ L ∧ h.get? a = some o := by
  unfold allN
  rw [List.mem_filterMap]
  constructor
  · rintro ⟨b, _, e⟩
    split at e
    · cases e
    · rename_i hb
      cases q : h.get? b with
      | none => rw [q] at e; cases e
      | some o' => rw [q] at e; cases e; exact ⟨hb, q⟩
  · rintro ⟨hn, e⟩
    exact ⟨a, List.mem_range.mpr (Heap.lt_size e), by rw [if_neg hn, e]; rfl⟩

section
variable {P : Px} {env : Env} {sc : Names} {H : Hid} {W : Store} {h h' : Heap} {m : Vars}
theorem Loc.fr (L : Loc P env sc H W h m) : ∃ mm, (∀ x av, look m x = some av → sc.lookup x = some .local → ∃ v, mm x = some v ∧ VR h v av) ∧ Fr noHeap env.locals h mm ∧ News noHeap env.locals h (allN h env.locals) := by
  obtain ⟨mm, n, r⟩ := L.ns
  refine ⟨mm, r, ⟨n, fun b o e => (by rw [noHeap_get] at e; cases e), Nat.zero_le _⟩, fun p hp => ?_⟩
  obtain ⟨a, o⟩ := p
  obtain ⟨q, e⟩ := mem_allN.mp hp
  exact ⟨e, q, noHeap_get _⟩
theorem Loc.keepL (L : Loc P env sc H W h m) {mm : Str → Option Value} (r : ∀ x av, look m x = some av → sc.lookup x = some .local → ∃ v, mm x = some v ∧ VR h v av) (n : h'.Ns env.locals mm)
    (k : ∀ a o, a ≠ env.locals → h.get? a = some o → h'.get? a = some o) (i : Imm h h') : Loc P env sc H W h' m := by
  have cl : ∀ c vo, h.IsCell c vo → h'.IsCell c vo := fun c vo z => by
    obtain ⟨o, e, hd⟩ := z
    refine ⟨o, k c o (fun q => ?_) e, hd⟩
    obtain ⟨mm', ⟨o', es, ep, e', hd', _⟩, _⟩ := L.ns
    rw [q] at e; rw [e] at e'; cases e'; rw [hd] at hd'; cases hd'
  refine ⟨L.own, ⟨mm, n, fun x av e q => ?_⟩, fun x q => ?_, fun x c hm => ?_, L.apart⟩
  · obtain ⟨v, e', z⟩ := r x av e q; exact ⟨v, e', z.imm i⟩
  · obtain ⟨c, vo, e, z, y⟩ := L.cells x q
    exact ⟨c, vo, e, cl c vo z, fun av ea => let ⟨v, ev, zz⟩ := y av ea; ⟨v, ev, zz.imm i⟩⟩
  · obtain ⟨vo, z⟩ := L.celli x c hm; exact ⟨vo, cl c vo z⟩
theorem after (S : St P H W h) (L : Loc P env sc H W h m) {mm : Str → Option Value} (r : ∀ x av, look m x = some av → sc.lookup x = some .local → ∃ v, mm x = some v ∧ VR h v av) {xs : List (Addr × Obj)}
    (F' : Fr noHeap env.locals h' mm) (N' : News noHeap env.locals h' (xs ++ allN h env.locals)) :
    St P H W h' ∧ Loc P env sc H W h' m ∧ Imm h h' ∧ ∀ p ∈ xs, h'.get? p.1 = some p.2 := by
  have k : ∀ a o, a ≠ env.locals → h.get? a = some o → h'.get? a = some o := fun a o q e => (N' (a, o) (List.mem_append_right _ (mem_allN.mpr ⟨q, e⟩))).1
  have own := L.own env.locals (.inl rfl)
  obtain ⟨oL, eL, hI, _⟩ := L.there (.inl rfl : Own env env.locals)
  have i : Imm h h' := fun a o e z => k a o (fun q => by subst q; rw [eL] at e; cases e; exact hI z) e
  refine ⟨S.step (Nat.le_trans own.1 (Nat.le_of_lt F'.ns.lt)) (· = env.locals) W (fun a o e q => k a o q e) i (fun a q => by rw [q]; exact fresh_ge own.1) (fun a o o₁ e q => by rw [q, own.2.1] at e; cases e) (fun a o e => (S.hid a o e).2.1) (fun a c e => .inr ⟨fun q => (by rw [q, own.2.2] at e; cases e), e⟩),
    L.keepL r F'.ns k i, i, fun p hp => (N' p (List.mem_append_left _ hp)).1⟩
theorem Loc.add (L : Loc P env sc H W h m) {a : Addr} {c : Cell} (hO : ¬ Own env a) : Loc P env sc H (upd W a c) h m :=
  L.keep (fun _ o _ e => ⟨o, e, .refl o⟩) (Imm.refl h) fun b hb => ⟨(L.own b hb).2.1, by
    have : b ≠ a := fun q => hO (q ▸ hb)
    simp only [upd, this, if_false]; exact (L.own b hb).2.2⟩
theorem Loc.notOwn (L : Loc P env sc H W h m) {a : Addr} (f : h.get? a = none) : ¬ Own env a := fun q => by
  obtain ⟨o, e, _⟩ := L.there q; rw [f] at e; cases e
/-- a new cell behind a step -/
theorem added (S : St P H W h) (L : Loc P env sc H W h m) {h' : Heap} (S' : St P H W h') (L' : Loc P env sc H W h' m) {a : Addr} {c : Cell} (f : h.objs.size ≤ a) (x : CellOk P h' a c) : St P H (upd W a c) h' ∧ Loc P env sc H (upd W a c) h' m ∧ W a = none :=
  ⟨S'.add (S.noH (fresh_ge f)) (fresh_ge (Nat.le_trans S.size f)) x, L'.add (L.notOwn (fresh_ge f)), S.noW (fresh_ge f)⟩
end

theorem intsAre {h : Heap} : ∀ {vs : List Value} {ns : List Int}, VRs h vs (ivs ns) → IntsAre vs ns
  | _, [], .nil => .nil
  | _, n :: ns, .cons a r => by cases a; exact .cons _ _ (intsAre r)
theorem ofInts {h : Heap} : ∀ {vs : List Value} {ns : List Int}, IntsAre vs ns → VRs h vs (ivs ns)
  | _, _, .nil => .nil
  | _, _, .cons _ _ r => .cons (.int _ _) (ofInts r)

section
variable {P : Px} {n : Nat} {env : Env} {sc : Names} {m : Vars} {W : Store} {X : Store → Prop}

theorem mulOk {a b : Int} (ha : small a) : IntMulOk a b := by
  unfold small at ha
  exact .of_left (intBits_le_64 (by omega) (by omega))

theorem done {H : Hid} {s : Shared} {Q : AV → Store → Prop} {v : Value} {d : AV} {W' : Store} {h' : Heap} {tk' : Nat} (S : St P H W' h') (L : Loc P env sc H W' h' m) (i : Imm s.heap h') (x : VR h' v d) (q : Q d W') :
    EVp P env sc H m s (Val Q) v { s with heap := h', toks := tk' } := ⟨W', h', tk', rfl, S, L, i, d, x, q⟩
theorem done0 {H : Hid} {s : Shared} {Q : AV → Store → Prop} {v : Value} {d : AV} {W' : Store} {tk' : Nat} (S : St P H W' s.heap) (L : Loc P env sc H W' s.heap m) (x : VR s.heap v d) (q : Q d W') :
    EVp P env sc H m s (Val Q) v { s with toks := tk' } := ⟨W', s.heap, tk', rfl, S, L, .refl _, d, x, q⟩
theorem done1 {H : Hid} {s : Shared} {Q : AV → Store → Prop} {v : Value} {d : AV} {W' : Store} (S : St P H W' s.heap) (L : Loc P env sc H W' s.heap m) (x : VR s.heap v d) (q : Q d W') :
    EVp P env sc H m s (Val Q) v s := ⟨W', s.heap, s.toks, rfl, S, L, .refl _, d, x, q⟩

/-- what a binary operation may be asked of -/
theorem bin_elim {op : Operator} {a b : AV} {Q : AV → Store → Prop} {M : Operator → AV → AV → Prop} (h : binOk op a b W Q)
    (addI : ∀ x y : Int, Q (.int (x + y)) W → M .Add (.int x) (.int y))
    (addT : ∀ x y : List AV, x.length + y.length ≤ 1000 → Q (.tup (x ++ y)) W → M .Add (.tup x) (.tup y))
    (addL : ∀ (x y : Addr) (lx ly : List AV), W x = some (.list lx) → W y = some (.list ly) → lx.length + ly.length ≤ 1000 → new W (.list (lx ++ ly)) Q → M .Add (.ref x) (.ref y))
    (sub : ∀ x y : Int, Q (.int (x - y)) W → M .Sub (.int x) (.int y)) (mul : ∀ x y : Int, small x → Q (.int (x * y)) W → M .Mult (.int x) (.int y))
    (div : ∀ x y : Int, 0 < y → y < 2 ^ 30 → Q (.int (x / y)) W → M .FloorDiv (.int x) (.int y)) (mod : ∀ x y : Int, 0 < y → Q (.int (x % y)) W → M .Mod (.int x) (.int y))
    (pow : ∀ x y : Int, 0 ≤ y → y ≤ 64 → 0 ≤ x → x ≤ 64 → Q (.int (x ^ y.toNat)) W → M .Pow (.int x) (.int y)) : M op a b := by
  cases op with
  | Add =>
    cases a <;> first | exact h.elim | skip
    · cases b <;> first | exact h.elim | exact addI _ _ h
    · cases b <;> first | exact h.elim | exact addT _ _ h.1 h.2
    · cases b <;> first | exact h.elim | exact (h.elim fun lx h => h.elim fun ly h => addL _ _ lx ly h.1 h.2.1 h.2.2.1 h.2.2.2)
  | Sub =>
    cases a <;> first | exact h.elim | skip
    cases b <;> first | exact h.elim | exact sub _ _ h
  | Mult =>
    cases a <;> first | exact h.elim | skip
    cases b <;> first | exact h.elim | exact mul _ _ h.1 h.2
  | FloorDiv =>
    cases a <;> first | exact h.elim | skip
    cases b <;> first | exact h.elim | exact div _ _ h.1 h.2.1 h.2.2
  | Mod =>
    cases a <;> first | exact h.elim | skip
    cases b <;> first | exact h.elim | exact mod _ _ h.1 h.2
  | Pow =>
    cases a <;> first | exact h.elim | skip
    cases b <;> first | exact h.elim | exact pow _ _ h.1 h.2.1 h.2.2.1 h.2.2.2.1 h.2.2.2.2
  | _ => exact h.elim
theorem pow_small {x y : Int} (h0 : 0 ≤ y) (h1 : y ≤ 64) (h2 : 0 ≤ x) (h3 : x ≤ 64) : (Builtin.Int.intBits x : Int) * y ≤ 64 * 64 :=
  Int.mul_le_mul (Int.ofNat_le.mpr (intBits_le_64 (k := x) (Int.lt_of_lt_of_le (by decide) h2) (Int.lt_of_le_of_lt h3 (by decide)))) h1 h0 (by decide)
theorem binOk_sound (op : Operator) (a b : AV) {Q : AV → Store → Prop} (hq : binOk op a b W Q) (va vb : Value) :
    EV P n env sc m W (binaryOp op va vb) (Val Q) X fun h => VR h va a ∧ VR h vb b := by
  intro A H s Fs r f fi eo S L hx
  revert hx
  refine bin_elim (M := fun op a b => VR s.heap va a ∧ VR s.heap vb b → wpAny (model P.prog P.w) A (binaryOp op va vb) (EVp P env sc H m s (Val Q)) (XPp P env sc H s fun m' W' => m' = m ∧ X W') s) hq
    (fun x y hq hx => ?_) (fun x y hz hq hx => ?_) (fun x y lx ly hx hy hz hq hv => ?_) (fun x y hq hx => ?_) (fun x y h hq hx => ?_) (fun x y h0 h1 hq hx => ?_) (fun x y h0 hq hx => ?_) (fun x y h0 h1 h2 h3 hq hx => ?_)
  · exact hx.1.intE fun _ => hx.2.intE fun _ => PyProof.Rows.add_int (done0 S L (.int _ _) hq)
  · refine hx.1.tupE fun a vs ta ra => hx.2.tupE fun b ws tb rb => ?_
    obtain ⟨mm, rr, F, N⟩ := L.fr
    have l1 := ra.length
    have l2 := rb.length
    refine PyProof.Rows.add_tuples F N ta tb (fun e => ?_) (fun _ e => ?_) (fun _ _ h' F' N' => ?_) (by unfold sizeLine; omega)
    · subst e; cases ra; exact done1 S L (.tup tb rb) (by simpa using hq)
    · subst e; cases rb; exact done1 S L (.tup ta ra) (by simpa using hq)
    · have zz1 := after (xs := [_]) S L rr F' N'
      have S' := zz1.1
      have L' := zz1.2.1
      have i := zz1.2.2.1
      have hx := zz1.2.2.2
      exact ⟨W, h', s.toks, rfl, S', L', i, _, .tup ⟨_, hx _ (.head _), rfl, _, rfl⟩ ((ra.imm i).append (rb.imm i)), hq⟩
  · refine hv.1.refE (hv.2.refE ?_)
    obtain ⟨nx, vx, ex, rx⟩ := (S.cell _ _ hx).2
    obtain ⟨ny, vy, ey, ry⟩ := (S.cell _ _ hy).2
    obtain ⟨mm, rr, F, N⟩ := L.fr
    have l1 := rx.length
    have l2 := ry.length
    refine PyProof.Rows.add_arrays F N ⟨_, ex, rfl, _, rfl⟩ ⟨_, ey, rfl, _, rfl⟩ (fun h' F' N' => ?_) (by simp only [List.size_toArray]; unfold sizeLine; omega)
    have zz2 := after (xs := [_]) S L rr F' N'
    have S' := zz2.1
    have L' := zz2.2.1
    have i := zz2.2.2.1
    have hh := zz2.2.2.2
    have zz3 := added S L S' L' (c := .list (lx ++ ly)) (Nat.le_refl _) ⟨_, _, hh _ (.head _), (rx.imm i).append (ry.imm i)⟩
    have S2 := zz3.1
    have L2 := zz3.2.1
    have w0 := zz3.2.2
    exact ⟨_, h', s.toks, rfl, S2, L2, i, _, .ref _, hq _ w0⟩
  · exact hx.1.intE fun _ => hx.2.intE fun _ => PyProof.Rows.sub_int (done0 S L (.int _ _) hq)
  · exact hx.1.intE fun _ => hx.2.intE fun _ => PyProof.Rows.mul_int (done0 S L (.int _ _) hq) (mulOk h)
  · refine hx.1.intE fun _ => hx.2.intE fun _ => PyProof.Rows.floordiv_int (Int.ne_of_gt h0) (done0 S L (.int _ _) ?_) (Or.inl (PyProof.noPylong_small (by omega)))
    rw [Int.fdiv_eq_ediv_of_nonneg _ (Int.le_of_lt h0)]; exact hq
  · refine hx.1.intE fun _ => hx.2.intE fun _ => PyProof.Rows.mod_int (Int.ne_of_gt h0) (done0 S L (.int _ _) ?_)
    rw [Int.fmod_eq_emod_of_nonneg _ (Int.le_of_lt h0)]; exact hq
  · refine hx.1.intE fun _ => hx.2.intE fun _ => PyProof.Rows.pow_int h0 ?_ (done0 S L (.int _ _) hq)
    have := pow_small h0 h1 h2 h3
    omega
end

theorem VRs.same_len {h h' : Heap} {vs ws : List Value} {l : List AV} (a : VRs h vs l) (b : VRs h' ws l) : vs.length = ws.length := a.length.trans b.length.symm

theorem allT (k : Nat) : (List.range k).all (fun _ => true) = true := by rw [List.all_eq_true]; intros; rfl
theorem sameEq : ∀ (k : Nat) {A : Around} {s : Shared} {v v' : Value} {d : AV}, VR s.heap v d → VR s.heap v' d → eqOk k d → A.units + k < cLine → SeqAt.EqAt A s v v' true
  | k, A, s, v, v', .int i, xa, xb, _, hu => by
    cases xa; cases xb
    rename_i t u
    have := SeqAt.EqAt.int_int (A := A) (s := s) i t i u
    simpa using this
  | k, A, s, v, v', .bool b, xa, xb, _, hu => by
    cases xa; cases xb
    have := SeqAt.EqAt.bool_bool (A := A) (s := s) b b
    simpa using this
  | k, A, s, v, v', .bytes b, xa, xb, _, hu => by
    cases xa; cases xb
    intro prog w E Q h
    exact eqBool_bytes (by simpa using h)
  | k + 1, A, s, v, v', .tup l, xa, xb, hk, hu => by
    cases xa with | tup ta ra => ?_
    cases xb with | tup tb rb => ?_
    rename_i a vs b ws
    by_cases hab : a = b
    · subst hab; exact SeqAt.EqAt.same _
    · refine SeqAt.EqAt.of_refs hab ?_
      have q := SeqAt.RcAt.tuples (A := A) (s := s) (e := fun _ => true) ta tb (by omega) fun j h1 h2 => by
        have e1 : vs[j]? = some vs[j] := List.getElem?_eq_getElem (by simpa using h1)
        have e2 : ws[j]? = some ws[j] := List.getElem?_eq_getElem (by simpa using h2)
        obtain ⟨d, ed, xd⟩ := ra.getV e1
        obtain ⟨d', ed', xd'⟩ := rb.getV e2
        rw [ed] at ed'; cases ed'
        simpa using sameEq k xd xd' (hk d (List.mem_of_getElem? ed)) (show A.units + 1 + k < cLine by omega)
      have hl := ra.same_len rb
      simpa [hl, allT] using q
  | 0, _, _, _, _, .tup _, _, _, hk, _ => hk.elim
  | _, _, _, _, _, .none, _, _, hk, _ => by unfold eqOk at hk; exact hk.elim
  | _, _, _, _, _, .str _, _, _, hk, _ => by unfold eqOk at hk; exact hk.elim
  | _, _, _, _, _, .rng _ _, _, _, hk, _ => by unfold eqOk at hk; exact hk.elim
  | _, _, _, _, _, .ref _, _, _, hk, _ => by unfold eqOk at hk; exact hk.elim
  | _, _, _, _, _, .blt _, _, _, hk, _ => by unfold eqOk at hk; exact hk.elim
  | _, _, _, _, _, .ty _, _, _, hk, _ => by unfold eqOk at hk; exact hk.elim

theorem sameRc {k : Nat} {A : Around} {s : Shared} {a b : Addr} {l : List AV} (xa : VR s.heap (.ref a) (.tup l)) (xb : VR s.heap (.ref b) (.tup l)) (hk : eqOk (k + 1) (.tup l)) (hu : A.units + (k + 1) < cLine) : SeqAt.RcAt A s (.ref a) (.ref b) true ∧ SeqAt.RcNeAt A s (.ref a) (.ref b) false := by
  cases xa with | tup ta ra => ?_
  cases xb with | tup tb rb => ?_
  rename_i vs ws
  have he : ∀ j (h1 : j < vs.toArray.size) (h2 : j < ws.toArray.size), SeqAt.EqAt A.in1 s vs.toArray[j] ws.toArray[j] true := fun j h1 h2 => by
    have e1 : vs[j]? = some vs[j] := List.getElem?_eq_getElem (by simpa using h1)
    have e2 : ws[j]? = some ws[j] := List.getElem?_eq_getElem (by simpa using h2)
    obtain ⟨d, ed, xd⟩ := ra.getV e1
    obtain ⟨d', ed', xd'⟩ := rb.getV e2
    rw [ed] at ed'; cases ed'
    simpa using sameEq k xd xd' (hk d (List.mem_of_getElem? ed)) (show A.units + 1 + k < cLine by omega)
  have hl := ra.same_len rb
  constructor
  · have q := SeqAt.RcAt.tuples (A := A) (s := s) (e := fun _ => true) ta tb (by omega) he
    simpa [hl, allT] using q
  · have q := SeqAt.RcNeAt.tuples (A := A) (s := s) (e := fun _ => true) ta tb (by omega) he
    simpa [hl, allT] using q


theorem hitsSame {A : Around} {s : Shared} {l : List (Int × AV)} (hu : A.units + 1 < cLine) (hl : ∀ p ∈ l, eqOk 1 p.2) {kb : List (Int × Value)} (hn : (l.map (·.1)).Nodup) (kb1 : kb.map (·.1) = l.map (·.1)) (kb2 : VRs s.heap (kb.map (·.2)) (l.map (·.2))) :
    ∀ (ka : List (Int × Value)) (pre : Nat), ka.map (·.1) = (l.drop pre).map (·.1) → VRs s.heap (ka.map (·.2)) ((l.drop pre).map (·.2)) → KeqHits A s kb ka true
  | [], pre, _, _ => .nil
  | (k, v) :: ka, pre, h1, h2 => by
    cases hd : l.drop pre with
    | nil => rw [hd] at h1; cases h1
    | cons p r =>
      have hr : l.drop (pre + 1) = r := by rw [← List.drop_drop, hd]; rfl
      rw [hd] at h1 h2
      simp only [List.map_cons, List.cons.injEq] at h1
      simp only [List.map_cons] at h2
      cases h2 with | cons x2 r2 => ?_
      have hp : l[pre]? = some p := by rw [← List.head?_drop, hd]; rfl
      have hk : (kb.map (·.1))[pre]? = some p.1 := by rw [kb1, List.getElem?_map, hp]; rfl
      rw [List.getElem?_map] at hk
      cases hq : kb[pre]? with
      | none => rw [hq] at hk; cases hk
      | some q =>
        rw [hq] at hk; simp only [Option.map_some, Option.some.injEq] at hk
        obtain ⟨w, ew, xw⟩ := kb2.getV (i := pre) (v := q.2) (by rw [List.getElem?_map, hq]; rfl)
        rw [List.getElem?_map, hp] at ew
        simp only [Option.map_some, Option.some.injEq] at ew
        subst ew
        have hv : valueAt kb k = some q.2 := by
          unfold valueAt
          have hnk : (kb.map (·.1)).Nodup := kb1 ▸ hn
          have : kb.find? (fun kv => decide (kv.1 = k)) = some q := by
            rw [List.find?_eq_some_iff_getElem]
            refine ⟨by rw [decide_eq_true_eq, hk, h1.1], pre, (List.getElem?_eq_some_iff.mp hq).1, (List.getElem?_eq_some_iff.mp hq).2, fun j hj => ?_⟩
            have hjl : j < kb.length := Nat.lt_trans hj (List.getElem?_eq_some_iff.mp hq).1
            simp only [Bool.not_eq_true', decide_eq_false_iff_not]
            intro e
            have e1 : (kb.map (·.1))[j]'(by simpa using hjl) = (kb.map (·.1))[pre]'(by simpa using (List.getElem?_eq_some_iff.mp hq).1) := by
              simp only [List.getElem_map]
              rw [(List.getElem?_eq_some_iff.mp hq).2, e, hk, h1.1]
            exact List.pairwise_iff_getElem.mp hnk j pre (by simpa using hjl) (by simpa using (List.getElem?_eq_some_iff.mp hq).1) hj e1
          rw [this]; rfl
        have z := sameEq (A := A) 1 x2 xw (hl p (List.mem_of_getElem? hp)) (by omega)
        have := KeqHits.hit (A := A) (s := s) hv z (hitsSame hu hl hn kb1 kb2 ka (pre + 1) (by rw [hr]; exact h1.2) (by rw [hr]; exact r2))
        simpa using this
section
variable {P : Px} {n : Nat} {env : Env} {sc : Names} {m : Vars} {W : Store} {X : Store → Prop}

theorem any_mem (ns : List Int) (k : Int) : ns.any (· == k) = decide (k ∈ ns) := by
  rw [Bool.eq_iff_iff, List.any_eq_true, decide_eq_true_eq]
  constructor
  · rintro ⟨x, hx, e⟩; rw [← eq_of_beq e]; exact hx
  · intro h; exact ⟨k, h, by simp⟩
theorem valueAt_isSome {kvs : List (Int × Value)} {k : Int} : (valueAt kvs k).isSome = decide (k ∈ kvs.map (·.1)) := by
  rw [Bool.eq_iff_iff, decide_eq_true_eq]
  unfold valueAt
  rw [Option.isSome_map, List.find?_isSome, List.mem_map]
  constructor
  · rintro ⟨p, hp, e⟩; exact ⟨p, hp, of_decide_eq_true e⟩
  · rintro ⟨p, hp, e⟩; exact ⟨p, hp, decide_eq_true e⟩
theorem notSys {H : Hid} {s : Shared} (ok : PxOk P) (S : St P H W s.heap) {a : Addr} {c : Cell} (h : W a = some c) : (a == sysModules) = false := by
  have h1 := (S.cell a c h).1
  obtain ⟨o, h2⟩ := ok.big
  refine beq_eq_false_iff_ne.mpr fun e => ?_
  rw [e, h2] at h1
  cases h1

def BoolR (Q : Bool → Store → Prop) : Heap → Value → Store → Prop := fun _ v W => ∃ t, v = .bool t ∧ Q t W
theorem bdone {H : Hid} {s : Shared} {Q : Bool → Store → Prop} {t : Bool} {tk' : Nat} (S : St P H W s.heap) (L : Loc P env sc H W s.heap m) (q : Q t W) :
    EVp P env sc H m s (BoolR Q) (.bool t) { s with toks := tk' } := ⟨W, s.heap, tk', rfl, S, L, .refl _, t, rfl, q⟩
theorem bdone1 {H : Hid} {s : Shared} {Q : Bool → Store → Prop} {t : Bool} (S : St P H W s.heap) (L : Loc P env sc H W s.heap m) (q : Q t W) :
    EVp P env sc H m s (BoolR Q) (.bool t) s := ⟨W, s.heap, s.toks, rfl, S, L, .refl _, t, rfl, q⟩

theorem beq_dec (x y : Int) : (x == y) = decide (x = y) := by rw [Bool.eq_iff_iff]; simp
theorem bne_decI (x y : Int) : (x != y) = decide (x ≠ y) := by rw [Bool.eq_iff_iff]; simp
theorem ref_none (x : Addr) : (Value.ref x == Value.none) = false := beq_eq_false_iff_ne.mpr nofun
theorem len_of {k1 k2 : List (Int × Value)} {l : List (Int × AV)} (e1 : k1.map (·.1) = l.map (·.1)) (e2 : k2.map (·.1) = l.map (·.1)) : k1.length = k2.length := by
  have := congrArg List.length (e1.trans e2.symm)
  rwa [List.length_map, List.length_map] at this
/-- what a comparison may be asked of -/
theorem cmp_elim {op : CmpOp} {a b : AV} {Q : Bool → Store → Prop} {M : CmpOp → AV → AV → Prop} (h : cmpOk op a b W Q)
    (eqI : ∀ x y : Int, Q (decide (x = y)) W → M .Eq (.int x) (.int y))
    (eqB : ∀ x y : Bool, Q (x == y) W → M .Eq (.bool x) (.bool y))
    (eqT : ∀ x : List AV, eqOk 6 (.tup x) → Q true W → M .Eq (.tup x) (.tup x))
    (eqL : ∀ (x y : Addr) (l : List Int), W x = some (.list (ivs l)) → W y = some (.list (ivs l)) → Q true W → M .Eq (.ref x) (.ref y))
    (eqD : ∀ (x y : Addr) (l : List (Int × AV)), W x = some (.dict l) → W y = some (.dict l) → (∀ p ∈ l, eqOk 1 p.2) → (l.map (·.1)).Nodup → Q true W → M .Eq (.ref x) (.ref y))
    (neI : ∀ x y : Int, Q (decide (x ≠ y)) W → M .NotEq (.int x) (.int y))
    (neB : ∀ x y : Bool, Q (x != y) W → M .NotEq (.bool x) (.bool y))
    (neT : ∀ x : List AV, eqOk 6 (.tup x) → Q false W → M .NotEq (.tup x) (.tup x))
    (neL : ∀ (x y : Addr) (l : List Int), W x = some (.list (ivs l)) → W y = some (.list (ivs l)) → Q false W → M .NotEq (.ref x) (.ref y))
    (neD : ∀ (x y : Addr) (l : List (Int × AV)), W x = some (.dict l) → W y = some (.dict l) → (∀ p ∈ l, eqOk 1 p.2) → (l.map (·.1)).Nodup → Q false W → M .NotEq (.ref x) (.ref y))
    (lt : ∀ x y : Int, Q (decide (x < y)) W → M .Lt (.int x) (.int y))
    (le : ∀ x y : Int, Q (decide (x ≤ y)) W → M .LtE (.int x) (.int y))
    (gt : ∀ x y : Int, Q (decide (y < x)) W → M .Gt (.int x) (.int y))
    (ge : ∀ x y : Int, Q (decide (y ≤ x)) W → M .GtE (.int x) (.int y))
    (isN : Q true W → M .Is .none .none)
    (isR : ∀ x : Addr, Q false W → M .Is (.ref x) .none)
    (isT : ∀ x : List AV, Q false W → M .Is (.tup x) .none)
    (noN : Q false W → M .IsNot .none .none)
    (noR : ∀ x : Addr, Q true W → M .IsNot (.ref x) .none)
    (noT : ∀ x : List AV, Q true W → M .IsNot (.tup x) .none)
    (inT : ∀ (x : Int) (ns : List Int), Q (decide (x ∈ ns)) W → M .In (.int x) (.tup (ivs ns)))
    (inL : ∀ (x : Int) (y : Addr) (ns : List Int), W y = some (.list (ivs ns)) → Q (decide (x ∈ ns)) W → M .In (.int x) (.ref y))
    (inD : ∀ (x : Int) (y : Addr) (l : List (Int × AV)), W y = some (.dict l) → Q (decide (x ∈ l.map (·.1))) W → M .In (.int x) (.ref y))
    (niT : ∀ (x : Int) (ns : List Int), Q (!decide (x ∈ ns)) W → M .NotIn (.int x) (.tup (ivs ns)))
    (niL : ∀ (x : Int) (y : Addr) (ns : List Int), W y = some (.list (ivs ns)) → Q (!decide (x ∈ ns)) W → M .NotIn (.int x) (.ref y))
    (niD : ∀ (x : Int) (y : Addr) (l : List (Int × AV)), W y = some (.dict l) → Q (!decide (x ∈ l.map (·.1))) W → M .NotIn (.int x) (.ref y)) : M op a b := by
  cases op with
  | Eq =>
    cases a <;> first | exact h.elim | skip
    · cases b <;> first | exact h.elim | exact eqB _ _ h
    · cases b <;> first | exact h.elim | exact eqI _ _ h
    · cases b <;> first | exact h.elim | exact (h.1 ▸ eqT _ h.2.1 h.2.2)
    · cases b <;> first | exact h.elim | exact h.elim (fun h => h.elim fun l h => eqL _ _ l h.1 h.2.1 h.2.2) fun h => h.elim fun l h => eqD _ _ l h.1 h.2.1 h.2.2.1 h.2.2.2.1 h.2.2.2.2
  | NotEq =>
    cases a <;> first | exact h.elim | skip
    · cases b <;> first | exact h.elim | exact neB _ _ h
    · cases b <;> first | exact h.elim | exact neI _ _ h
    · cases b <;> first | exact h.elim | exact (h.1 ▸ neT _ h.2.1 h.2.2)
    · cases b <;> first | exact h.elim | exact h.elim (fun h => h.elim fun l h => neL _ _ l h.1 h.2.1 h.2.2) fun h => h.elim fun l h => neD _ _ l h.1 h.2.1 h.2.2.1 h.2.2.2.1 h.2.2.2.2
  | Lt =>
    cases a <;> first | exact h.elim | skip
    cases b <;> first | exact h.elim | exact lt _ _ h
  | LtE =>
    cases a <;> first | exact h.elim | skip
    cases b <;> first | exact h.elim | exact le _ _ h
  | Gt =>
    cases a <;> first | exact h.elim | skip
    cases b <;> first | exact h.elim | exact gt _ _ h
  | GtE =>
    cases a <;> first | exact h.elim | skip
    cases b <;> first | exact h.elim | exact ge _ _ h
  | Is =>
    cases b <;> first | exact h.elim | skip
    cases a <;> first | exact h.elim | exact isN h | exact isR _ h | exact isT _ h
  | IsNot =>
    cases b <;> first | exact h.elim | skip
    cases a <;> first | exact h.elim | exact noN h | exact noR _ h | exact noT _ h
  | In =>
    cases a <;> first | exact h.elim | skip
    cases b <;> first | exact h.elim | skip
    · exact h.elim fun ns h => h.1 ▸ inT _ ns h.2
    · exact h.elim (fun h => h.elim fun ns h => inL _ _ ns h.1 h.2) fun h => h.elim fun l h => inD _ _ l h.1 h.2
  | NotIn =>
    cases a <;> first | exact h.elim | skip
    cases b <;> first | exact h.elim | skip
    · exact h.elim fun ns h => h.1 ▸ niT _ ns h.2
    · exact h.elim (fun h => h.elim fun ns h => niL _ _ ns h.1 h.2) fun h => h.elim fun l h => niD _ _ l h.1 h.2
theorem cmpOk_sound (ok : PxOk P) (op : CmpOp) (a b : AV) {Q : Bool → Store → Prop} (hq : cmpOk op a b W Q) (va vb : Value) (hn : 4 ≤ n) :
    EV P n env sc m W (compareOp op va vb) (BoolR Q) X fun h => VR h va a ∧ VR h vb b := by
  intro A H s Fs r f fi eo S L hv
  have hu : A.units + 64 < cLine := by have := r.units; omega
  have inL : ∀ {y : Addr} {ns : List Int}, W y = some (.list (ivs ns)) → ∃ vs : List Value, s.heap.IsList y vs.toArray ∧ IntsAre vs ns := fun hy =>
    let ⟨nn, vs, e, rr⟩ := (S.cell _ _ hy).2; ⟨vs, ⟨_, e, rfl, _, rfl⟩, intsAre rr⟩
  have inD : ∀ {y : Addr} {l : List (Int × AV)}, W y = some (.dict l) → ∃ kvs : List (Int × Value), s.heap.DictOf (intKind P.prog P.w) y kvs ∧ kvs.map (·.1) = l.map (·.1) ∧ VRs s.heap (kvs.map (·.2)) (l.map (·.2)) := fun hy => let ⟨kvs, d, r⟩ := (S.cell _ _ hy).2; ⟨kvs, d.dictOf, r⟩
  revert hv
  refine cmp_elim (M := fun op a b => VR s.heap va a ∧ VR s.heap vb b → wpAny (model P.prog P.w) A (compareOp op va vb) (EVp P env sc H m s (BoolR Q)) (XPp P env sc H s fun m' W' => m' = m ∧ X W') s) hq
    (fun x y h0 hv => ?_) (fun x y h0 hv => ?_) (fun x h0 h1 hv => ?_) (fun x y l h0 h1 h2 hv => ?_) (fun x y l h0 h1 h2 h3 h4 hv => ?_) (fun x y h0 hv => ?_) (fun x y h0 hv => ?_) (fun x h0 h1 hv => ?_) (fun x y l h0 h1 h2 hv => ?_) (fun x y l h0 h1 h2 h3 h4 hv => ?_) (fun x y h0 hv => ?_) (fun x y h0 hv => ?_) (fun x y h0 hv => ?_) (fun x y h0 hv => ?_) (fun h0 hv => ?_) (fun x h0 hv => ?_) (fun x h0 hv => ?_) (fun h0 hv => ?_) (fun x h0 hv => ?_) (fun x h0 hv => ?_) (fun x ns h0 hv => ?_) (fun x y ns h0 h1 hv => ?_) (fun x y l h0 h1 hv => ?_) (fun x ns h0 hv => ?_) (fun x y ns h0 h1 hv => ?_) (fun x y l h0 h1 hv => ?_)
  · refine hv.1.intE fun _ => hv.2.intE fun _ => PyProof.Rows.eq_int ?_
    rw [beq_dec]; exact bdone1 S L h0
  · exact hv.1.boolE (hv.2.boolE (PyProof.Rows.eq_bool (bdone1 S L h0)))
  · exact hv.1.tupE fun a vs ta ra => hv.2.tupE fun b ws tb rb => (sameRc (A := A) (k := 5) (.tup ta ra) (.tup tb rb) h0 (by omega)).1 _ _ _ _ (bdone1 S L h1)
  · refine hv.1.refE (hv.2.refE ?_)
    obtain ⟨v1, l1, i1⟩ := inL h0
    obtain ⟨v2, l2, i2⟩ := inL h1
    refine ke_eq_ints l1 l2 i1 i2 hu ?_
    exact bdone1 S L (by rw [decide_eq_true rfl]; exact h2)
  · refine hv.1.refE (hv.2.refE ?_)
    obtain ⟨k1, d1, e1, r1⟩ := inD h0
    obtain ⟨k2, d2, e2, r2⟩ := inD h1
    refine keq_eq (notSys ok S h0) (notSys ok S h1) d1 d2 (by omega) (r := true) (fun _ => hitsSame (by rw [Around.in1_units]; omega) h2 h3 e2 r2 k1 0 e1 r1) ?_
    exact bdone1 S L (by rw [len_of e1 e2, beq_self_eq_true]; exact h4)
  · refine hv.1.intE fun _ => hv.2.intE fun _ => PyProof.Rows.ne_int ?_
    rw [bne_decI]; exact bdone1 S L h0
  · exact hv.1.boolE (hv.2.boolE (PyProof.Rows.ne_bool (bdone1 S L h0)))
  · exact hv.1.tupE fun a vs ta ra => hv.2.tupE fun b ws tb rb => (sameRc (A := A) (k := 5) (.tup ta ra) (.tup tb rb) h0 (by omega)).2 _ _ _ _ (bdone1 S L h1)
  · refine hv.1.refE (hv.2.refE ?_)
    obtain ⟨v1, l1, i1⟩ := inL h0
    obtain ⟨v2, l2, i2⟩ := inL h1
    refine ke_ne_ints l1 l2 i1 i2 hu ?_
    exact bdone1 S L (by rw [decide_eq_true rfl]; exact h2)
  · refine hv.1.refE (hv.2.refE ?_)
    obtain ⟨k1, d1, e1, r1⟩ := inD h0
    obtain ⟨k2, d2, e2, r2⟩ := inD h1
    refine keq_ne (notSys ok S h0) (notSys ok S h1) d1 d2 (by omega) (r := true) (fun _ => hitsSame (by rw [Around.in1_units]; omega) h2 h3 e2 r2 k1 0 e1 r1) ?_
    exact bdone1 S L (by rw [len_of e1 e2, beq_self_eq_true]; exact h4)
  · exact hv.1.intE fun _ => hv.2.intE fun _ => PyProof.Rows.lt_int (bdone1 S L h0)
  · exact hv.1.intE fun _ => hv.2.intE fun _ => PyProof.Rows.le_int (bdone1 S L h0)
  · exact hv.1.intE fun _ => hv.2.intE fun _ => PyProof.Rows.gt_int (bdone1 S L h0)
  · exact hv.1.intE fun _ => hv.2.intE fun _ => PyProof.Rows.ge_int (bdone1 S L h0)
  · refine hv.1.noneE (hv.2.noneE (is_none ?_))
    rw [beq_self_eq_true]; exact bdone1 S L h0
  · refine hv.1.refE (hv.2.noneE (is_none ?_))
    rw [ref_none]; exact bdone1 S L h0
  · refine hv.1.tupE fun a vs ta ra => hv.2.noneE (is_none ?_)
    rw [ref_none]; exact bdone1 S L h0
  · refine hv.1.noneE (hv.2.noneE (isNot_none ?_))
    rw [beq_self_eq_true]; exact bdone1 S L h0
  · refine hv.1.refE (hv.2.noneE (isNot_none ?_))
    rw [ref_none]; exact bdone1 S L h0
  · refine hv.1.tupE fun a vs ta ra => hv.2.noneE (isNot_none ?_)
    rw [ref_none]; exact bdone1 S L h0
  · refine hv.1.intE fun _ => hv.2.tupE fun b ws tb rb => PyProof.Rows.in_tuple_ints tb (by simpa using intsAre rb) ?_
    rw [any_mem]; exact bdone1 S L h0
  · refine hv.1.intE fun _ => hv.2.refE ?_
    obtain ⟨v1, l1, i1⟩ := inL h0
    refine PyProof.Rows.in_list_ints l1 i1 ?_
    rw [any_mem]; exact bdone1 S L h1
  · refine hv.1.intE fun _ => hv.2.refE ?_
    obtain ⟨k1, d1, e1, r1⟩ := inD h0
    refine wpAny_in_of (intKind_is P.prog P.w _ _) (notSys ok S h0) d1.mapOf ?_
    rw [valueAt_isSome, e1]; exact bdone S L h1
  · refine hv.1.intE fun _ => hv.2.tupE fun b ws tb rb => PyProof.Rows.notin_tuple_ints tb (by simpa using intsAre rb) ?_
    rw [any_mem]; exact bdone1 S L h0
  · refine hv.1.intE fun _ => hv.2.refE ?_
    obtain ⟨v1, l1, i1⟩ := inL h0
    refine PyProof.Rows.notin_list_ints l1 i1 ?_
    rw [any_mem]; exact bdone1 S L h1
  · refine hv.1.intE fun _ => hv.2.refE ?_
    obtain ⟨k1, d1, e1, r1⟩ := inD h0
    refine wpAny_notIn_of (intKind_is P.prog P.w _ _) (notSys ok S h0) d1.mapOf ?_
    rw [valueAt_isSome, e1]; exact bdone S L h1
theorem truthy_none {A : Around} {E : Value → Shared → Prop} {s : Shared} {Q : Bool → Shared → Prop} (h : Q false s) : wpAny (model P.prog P.w) A (truthy .none) Q E s := wpAny_pure h
theorem tru_elim {a : AV} {Q : Bool → Store → Prop} {M : AV → Prop} (h : truOk a W Q) (bool : ∀ b, Q b W → M (.bool b)) (none : Q false W → M .none) (list : ∀ x l, W x = some (.list l) → l.length ≤ 1000 → Q (!l.isEmpty) W → M (.ref x)) : M a := by
  cases a <;> first | exact h.elim | exact none h | exact bool _ h | exact h.elim fun l h => list _ l h.1 h.2.1 h.2.2
theorem truOk_sound (a : AV) {Q : Bool → Store → Prop} (hq : truOk a W Q) (va : Value) : EV P n env sc m W (truthy va) (Tst Q) X fun h => VR h va a := by
  intro A H s Fs r f fi eo S L xa
  revert xa
  refine tru_elim (M := fun a => VR s.heap va a → wpAny (model P.prog P.w) A (truthy va) (EVp P env sc H m s (Tst Q)) (XPp P env sc H s fun m' W' => m' = m ∧ X W') s) hq (fun b h xa => ?_) (fun h xa => ?_) fun x l h1 h2 hq xa => ?_
  · exact xa.boolE (wpAny_truthy_bool ⟨W, s.heap, s.toks, rfl, S, L, .refl _, h⟩)
  · exact xa.noneE (truthy_none ⟨W, s.heap, s.toks, rfl, S, L, .refl _, h⟩)
  · refine xa.refE ?_
    obtain ⟨nn, vs, e, rr⟩ := (S.cell _ _ h1).2
    have hl := rr.length
    refine wpAny_truthy_list ⟨_, e, rfl, _, rfl⟩ (by simp only [List.size_toArray]; omega) ⟨W, s.heap, _, rfl, S, L, .refl _, ?_⟩
    have : vs.toArray.isEmpty = l.isEmpty := by cases rr <;> rfl
    rw [this]; exact hq
end
section
variable {prog : Program} {w : World} {A : Around} {E : Value → Shared → Prop} {s : Shared}

theorem sub_ops (slice : PySem.Expr) (o i : Value) : ∃ ops, subscripted slice false o i = operate ops (getItem o i) := by
  unfold subscripted
  split
  · exact ⟨_, rfl⟩
  · exact absurd ‹_› (by simp)
  · exact ⟨_, rfl⟩

theorem tail_at {value slice : PySem.Expr} {o i : Value} {T id : String} {Q : Value → Shared → Prop} (hT : s.TypeIs o T)
    (hl : typeLookup (.type T) "__getitem__" = pure (some (.builtin id))) (hg : wpAny (model prog w) A (getItem o i) Q E s) : wpAny (model prog w) A (subscriptTail value slice o i) Q E s := by
  obtain ⟨ops, e⟩ := sub_ops slice o i
  exact tail_any hT hl hg e

theorem adjust_to (k n : Nat) : Builtin.Slice.sliceAdjust none (some (k : Int)) 1 (n : Int) = (0, ((min k n : Nat) : Int)) := by
  unfold Builtin.Slice.sliceAdjust
  have h1 : ¬ ((1 : Int) < 0) := by omega
  have h2 : ¬ ((k : Int) < 0) := by omega
  simp only [h1, h2, if_false]
  congr 1
  omega
theorem places_to (k : Nat) : Builtin.Slice.slicePlaces 0 (k : Int) 1 = k := by
  unfold Builtin.Slice.slicePlaces
  have h1 : (1 : Int) > 0 := by omega
  simp only [h1, if_true, Int.ediv_one]
  split <;> omega
theorem adjust_rev (n : Nat) : Builtin.Slice.sliceAdjust none none (-1) (n : Int) = ((n : Int) - 1, -1) := by
  unfold Builtin.Slice.sliceAdjust
  have h1 : ((-1 : Int) < 0) := by omega
  simp only [h1, if_true]
theorem places_rev (n : Nat) : Builtin.Slice.slicePlaces ((n : Int) - 1) (-1) (-1) = n := by
  unfold Builtin.Slice.slicePlaces
  have h1 : ¬ ((-1 : Int) > 0) := by omega
  simp only [h1, if_false]
  split
  · rw [show (- -1 : Int) = 1 by decide, Int.ediv_one]; omega
  · omega

theorem applied_to {sl : Addr} {k n : Nat} {u : Tok} {Q : Int × Int × Nat → Shared → Prop} (hs : s.heap.IsSliceOf sl .none (.int k u) .none) (h : Q (0, 1, min k n) s) :
    wpAny (model prog w) A (Builtin.Slice.sliceApplied (.ref sl) (pure (n : Int))) Q E s := by
  refine cps fun kk => ?_
  obtain ⟨os, hos, hcs, hds⟩ := id hs
  refine kk ?_
  clear kk
  unfold Builtin.Slice.sliceApplied Builtin.Slice.sliceFields
  refine wpAny_bind (wpAny_bind (wpAny_field hos hds (x := .none) rfl (wpAny_bind (wpAny_field hos hds (x := .int k u) rfl (wpAny_bind (wpAny_field hos hds (x := .none) rfl (wpAny_pure ?_)))))))
  refine wpAny_bind (slicePart_none ?_)
  show wpAny _ _ (if ((1 : Int) == 0) = true then _ else _) _ _ s
  rw [if_neg (by decide)]
  refine wpAny_bind (slicePart_none (wpAny_bind (slicePart_int (wpAny_bind (wpAny_pure ?_)))))
  show wpAny _ _ (match Builtin.Slice.sliceAdjust none (some (k : Int)) 1 (n : Int) with | (lo, hi) => pure (lo, (1 : Int), Builtin.Slice.slicePlaces lo hi 1)) _ _ s
  rw [adjust_to k n]
  show wpAny _ _ (pure ((0 : Int), (1 : Int), Builtin.Slice.slicePlaces 0 ((min k n : Nat) : Int) 1)) _ _ s
  rw [places_to]
  exact wpAny_pure h
theorem applied_rev {sl : Addr} {n : Nat} {u : Tok} {Q : Int × Int × Nat → Shared → Prop} (hs : s.heap.IsSliceOf sl .none .none (.int (-1) u)) (h : Q ((n : Int) - 1, -1, n) s) :
    wpAny (model prog w) A (Builtin.Slice.sliceApplied (.ref sl) (pure (n : Int))) Q E s := by
  refine cps fun kk => ?_
  obtain ⟨os, hos, hcs, hds⟩ := id hs
  refine kk ?_
  clear kk
  unfold Builtin.Slice.sliceApplied Builtin.Slice.sliceFields
  refine wpAny_bind (wpAny_bind (wpAny_field hos hds (x := .none) rfl (wpAny_bind (wpAny_field hos hds (x := .none) rfl (wpAny_bind (wpAny_field hos hds (x := .int (-1) u) rfl (wpAny_pure ?_)))))))
  refine wpAny_bind (slicePart_int ?_)
  show wpAny _ _ (if ((-1 : Int) == 0) = true then _ else _) _ _ s
  rw [if_neg (by decide)]
  refine wpAny_bind (slicePart_none (wpAny_bind (slicePart_none (wpAny_bind (wpAny_pure ?_)))))
  show wpAny _ _ (match Builtin.Slice.sliceAdjust none none (-1) (n : Int) with | (lo, hi) => pure (lo, (-1 : Int), Builtin.Slice.slicePlaces lo hi (-1))) _ _ s
  rw [adjust_rev n]
  show wpAny _ _ (pure ((n : Int) - 1, (-1 : Int), Builtin.Slice.slicePlaces ((n : Int) - 1) (-1) (-1))) _ _ s
  rw [places_rev]
  exact wpAny_pure h

theorem pick_to (xs : Array Value) (k : Nat) : ((List.range (min k xs.size)).filterMap fun (j : Nat) => xs[((0 : Int) + (j : Int) * 1).toNat]?) = xs.toList.take k := by
  have e : (fun (j : Nat) => xs[((0 : Int) + (j : Int) * 1).toNat]?) = fun j => xs[0 + j]? := by
    funext j
    have : ((0 : Int) + (j : Int) * 1).toNat = 0 + j := by omega
    rw [this]
  rw [e]
  have := pick_run xs 0 (min k xs.size)
  rw [List.filterMap_map] at this
  rw [show (fun j => xs[0 + j]?) = ((fun x => xs[x]?) ∘ fun x => 0 + x) from rfl, this, List.drop_zero]
  have := List.take_eq_take_iff (l := xs.toList) (i := min k xs.size) (j := k)
  rw [this, Array.length_toList]
  omega
theorem fm_congr {α β : Type} {f g : α → Option β} : ∀ {l : List α}, (∀ x ∈ l, f x = g x) → l.filterMap f = l.filterMap g
  | [], _ => rfl
  | a :: l, h => by rw [List.filterMap_cons, List.filterMap_cons, h a (.head _), fm_congr fun x hx => h x (.tail _ hx)]
theorem pick_rev (xs : Array Value) : ((List.range xs.size).filterMap fun (j : Nat) => xs[(((xs.size : Nat) : Int) - 1 + (j : Int) * (-1)).toNat]?) = xs.toList.reverse := by
  have e : ((List.range xs.size).filterMap fun (j : Nat) => xs[(((xs.size : Nat) : Int) - 1 + (j : Int) * (-1)).toNat]?) = ((List.range xs.size).map fun k => xs.size - 1 - k).filterMap (xs[·]?) := by
    rw [List.filterMap_map]
    refine fm_congr fun j hj => ?_
    have := List.mem_range.mp hj
    have e : (((xs.size : Nat) : Int) - 1 + (j : Int) * (-1)).toNat = xs.size - 1 - j := by omega
    simp only [Function.comp, e]
  rw [e, krv_range, List.filterMap_reverse, krv_all]

theorem getItem_tup {t sl : Addr} {items : Array Value} {Q : Value → Shared → Prop} {lo st : Int} {c : Nat} (ht : IsTup s.heap t items) (hTs : s.TypeIs (.ref sl) "slice")
    (happ : ∀ (Q' : Int × Int × Nat → Shared → Prop), Q' (lo, st, c) s → wpAny (model prog w) A.in1 (Builtin.Slice.sliceApplied (.ref sl) (pure (items.size : Int))) Q' E s)
    (hsame : (lo == 0 && st == 1 && c == items.size) = true → Q (.ref t) s)
    (h : Q (.ref s.heap.objs.size) { s with heap := s.heap.push { cls := .type "tuple", data := .seq (((List.range c).filterMap fun (k : Nat) => items[(lo + (k : Int) * st).toNat]?)).toArray } })
    (hsz : ((List.range c).filterMap fun (k : Nat) => items[(lo + (k : Int) * st).toNat]?).length ≤ sizeLine) : wpAny (model prog w) A (getItem (.ref t) (.ref sl)) Q E s := by
  have hdrop : sizeOk (.seq (((List.range c).filterMap fun (k : Nat) => items[(lo + (k : Int) * st).toNat]?)).toArray) := by
    show _ ≤ sizeLine
    rw [List.size_toArray]; exact hsz
  unfold getItem
  try with_reducible refine wpAny_holding ?_
  first | refine wpAny_bind (wpAny_pure ?_) | skip
  refine wpAny_bind (wpAny_sequenceKey ht.typeIs (by decide) ?_)
  refine wpAny_bind (wpAny_callSpecial?_slot (name := Str.ofString "__getitem__") ht.typeIs slot_tuple_getitem
    (wpAny_call_entry slot_tuple_getitem ht.typeIs entry_tuple_getitem ?_ (args_tuple_getitem _ _)))
  show wpAny _ _ (Builtin.Tuple.tupleItemsOf (.ref t) >>= _) _ _ s
  refine wpAny_bind (tupleItemsOf_ ht ?_)
  refine wpAny_bind (wpAny_typeOf hTs ?_)
  rw [if_pos (by decide)]
  refine wpAny_bind (happ _ ?_)
  show wpAny _ _ (if (lo == 0 && st == 1 && c == items.size) = true then _ else _) _ _ s
  by_cases hb : (lo == 0 && st == 1 && c == items.size) = true
  · rw [if_pos hb]
    refine wpAny_bind ?_
    unfold Builtin.Tuple.tupleIsExact
    refine wpAny_bind (wpAny_typeOf ht.typeIs ?_)
    refine wpAny_pure ?_
    rw [if_pos (by decide)]
    exact wpAny_bind (wpAny_rule (wpAny_pure ⟨_, rfl, wpAny_pure (hsame hb)⟩))
  · rw [if_neg hb]
    first
      | exact wpAny_bind (m := Builtin.Tuple.tupleExact _) (wpAny_newObj_type (wpAny_pure ⟨_, rfl, wpAny_pure h⟩) hdrop)
      | exact wpAny_bind (m := Builtin.Tuple.tupleExact _) (wpAny_newObj_type (wpAny_bind (wpAny_pure (wpAny_pure ⟨_, rfl, wpAny_pure h⟩))) hdrop)
      | exact wpAny_bind (wpAny_bind (m := Builtin.Tuple.tupleExact _) (wpAny_newObj_type (wpAny_pure (wpAny_pure ⟨_, rfl, wpAny_pure h⟩)) hdrop))
      | exact wpAny_bind (wpAny_bind (m := Builtin.Tuple.tupleExact _) (wpAny_newObj_type (wpAny_pure ⟨_, rfl, wpAny_pure h⟩) hdrop))
end
section
variable {P : Px} {n : Nat} {env : Env} {sc : Names} {m : Vars} {W : Store} {X : Store → Prop}

theorem getLast_at {α : Type} {l : List α} {v : α} (h : l.getLast? = some v) : l[l.length - 1]? = some v := by rw [← List.getLast?_eq_getElem?]; exact h

theorem valueAt_lookup : ∀ {kvs : List (Int × Value)} {l : List (Int × AV)} {h : Heap}, kvs.map (·.1) = l.map (·.1) → VRs h (kvs.map (·.2)) (l.map (·.2)) → ∀ (k : Int),
    (∀ v, l.lookup k = some v → ∃ x, valueAt kvs k = some x ∧ VR h x v) ∧ (l.lookup k = none → valueAt kvs k = none)
  | [], [], _, _, _, k => ⟨fun v e => by simp at e, fun _ => rfl⟩
  | [], _ :: _, _, h1, _, _ => by simp at h1
  | _ :: _, [], _, h1, _, _ => by simp at h1
  | (a, x) :: kvs, (b, d) :: l, h, h1, h2, k => by
    simp only [List.map_cons, List.cons.injEq] at h1
    simp only [List.map_cons] at h2
    cases h2 with | cons x2 r2 => ?_
    obtain ⟨rfl, h1⟩ := h1
    have ih := valueAt_lookup h1 r2 k
    simp only [List.lookup_cons, valueAt, List.find?_cons] at ih ⊢
    by_cases e : k = a
    · subst e
      simp only [beq_self_eq_true, decide_true]
      exact ⟨fun v ev => ⟨x, rfl, by cases ev; exact x2⟩, fun e => by cases e⟩
    · have e1 : (k == a) = false := beq_eq_false_iff_ne.mpr e
      have e2 : decide (a = k) = false := decide_eq_false (Ne.symm e)
      simp only [e1, e2]
      exact ih

theorem subOk_sound (a b : AV) {Q : AV → Store → Prop} (hq : subOk a b W Q) (va vb : Value) (value slice : PySem.Expr) :
    EV P n env sc m W (subscriptTail value slice va vb) (Val Q) X fun h => VR h va a ∧ VR h vb b := by
  intro A H s Fs r f fi eo S L ⟨xa, xb⟩
  cases a <;> first | exact hq.elim | skip
  · cases b <;> first | exact hq.elim | skip
    obtain ⟨v, h0, h1, h2, hq⟩ := hq
    cases xb
    cases xa with | tup ta ra => ?_
    obtain ⟨x, e, xv⟩ := ra.get h2
    have hl := (List.getElem?_eq_some_iff.mp e).1
    refine tail_at ta.typeIs slot_tuple_getitem.lookup (getItem_tuple ta (by omega) (by omega) (seqIndex_of h0 ?_) (by simpa using e) (done1 S L xv hq))
    simp only [List.size_toArray]; omega
  · cases b <;> first | exact hq.elim | skip
    cases xa; cases xb
    rcases hq with ⟨l, v, h1, h2, h3, hq⟩ | ⟨l, v, h1, h2, hq⟩
    · obtain ⟨nn, vs, e, rr⟩ := (S.cell _ _ h1).2
      have hL : s.heap.IsList _ vs.toArray := ⟨_, e, rfl, _, rfl⟩
      rcases h2 with ⟨h0, h1, h2⟩ | ⟨rfl, h2⟩
      · obtain ⟨x, ex, xv⟩ := rr.get h2
        exact tail_at hL.typeIs slot_list_getitem.lookup (wpAny_getItem_list hL h0 (by omega) (by simpa using ex) (done1 S L xv hq))
      · have h2 := getLast_at h2
        obtain ⟨x, ex, xv⟩ := rr.get h2
        have hl := rr.length
        have hp := (List.getElem?_eq_some_iff.mp h2).1
        refine tail_at hL.typeIs slot_list_getitem.lookup (wpAny_getItem_list_neg hL (by decide) (by simp only [List.size_toArray]; omega) (by decide) (x := x) ?_ (done1 S L xv hq))
        have : ((-1 : Int) + (vs.toArray.size : Nat)).toNat = l.length - 1 := by simp only [List.size_toArray]; omega
        rw [this]; simpa using ex
    · obtain ⟨kvs, d', e1, e2⟩ := (S.cell _ _ h1).2
      have d := d'.dictOf
      obtain ⟨x, ex, xv⟩ := (valueAt_lookup e1 e2 _).1 _ h2
      exact tail_at d.typeIs slot_dict_getitem.lookup (wpAny_getItem_of (intKind_is P.prog P.w _ _) d.mapOf ex (done0 S L xv hq))

section
variable {A : Around} {E : Value → Shared → Prop} {s : Shared} {Q : Value → Shared → Prop} {M : Model} {prog : Program} {w : World}
theorem slice_to {k : Int} {a : Nat} {b p : Pos} (h : Q (.ref s.heap.objs.size) { s with heap := s.heap.push { cls := .type "slice", data := .fields #[.none, .int k s.toks, .none] }, toks := s.toks + 1 }) :
    wpAny M A (eval (.Slice none (some (.Constant (.int k) a b)) none p) env) Q E s :=
  wpAny_Slice (evalPart_none_step (evalPart_some_step (wpAny_Constant_int (evalPart_none_step h))))
theorem slice_rev {a : Nat} {b c p : Pos} (h : ∀ t tk, Q (.ref s.heap.objs.size) { s with heap := s.heap.push { cls := .type "slice", data := .fields #[.none, .none, .int (-1) t] }, toks := tk }) :
    wpAny (model prog w) A (eval (.Slice none none (some (.UnaryOp .USub (.Constant (.int 1) a b) c)) p) env) Q E s :=
  wpAny_Slice (evalPart_none_step (evalPart_none_step (evalPart_some_step (wpAny_UnaryOp (wpAny_Constant_int (PyProof.Rows.neg_int (h _ _)))))))
end

theorem vrsInts {h : Heap} : ∀ {vs : List Value} {ns : List Int}, IntsAre vs ns → VRs h vs (ivs ns)
  | _, _, .nil => .nil
  | _, _, .cons i t r => .cons (.int i t) (vrsInts r)
theorem readL {H : Hid} {h : Heap} (S : St P H W h) {x : Addr} {l : List AV} (r : ReadL P W x l) : ∃ vs, h.IsList x (List.toArray vs) ∧ VRs h vs l := by
  rcases r with r | ⟨vs, ns, ⟨o, e, hc, hd⟩, rfl, i⟩
  · obtain ⟨n, vs, e, r⟩ := (S.cell _ _ r).2
    exact ⟨vs, ⟨_, e, rfl, _, rfl⟩, r⟩
  · exact ⟨vs, ⟨o, S.keep _ _ e, hc, hd⟩, vrsInts i⟩
theorem none_some {α : Type} {a : α} {q : Prop} (h : (none : Option α) = some a) : q := nomatch h
theorem isSlice_elim {i : PySem.Expr} {hi : Option Nat} {M : PySem.Expr → Option Nat → Prop} (h : isSlice i = some hi)
    (to : ∀ (k : Nat) a b p, M (.Slice none (some (.Constant (.int k) a b)) none p) (some k)) (but : ∀ a b c p, M (.Slice none none (some (.UnaryOp .USub (.Constant (.int 1) a b) c)) p) none) : M i hi := by
  cases i <;> first | exact none_some h | skip
  rename_i lo up st p
  cases lo with
  | some _ => exact none_some h
  | none =>
    cases up with
    | none =>
      cases st with
      | none => exact none_some h
      | some e =>
        cases e <;> first | exact none_some h | skip
        rename_i op e c
        cases op <;> first | exact none_some h | skip
        cases e <;> first | exact none_some h | skip
        rename_i q a b
        cases q <;> first | exact none_some h | skip
        rename_i z
        cases z with
        | negSucc _ => exact none_some h
        | ofNat n => match n, h with
          | 0, h => exact none_some h
          | 1, h => cases h; exact but a b c p
          | _ + 2, h => exact none_some h
    | some e =>
      cases e <;> first | exact none_some h | skip
      rename_i q a b
      cases q <;> first | exact none_some h | skip
      rename_i z
      cases st with
      | some _ => exact none_some h
      | none =>
        cases z with
        | negSucc n => have h : (if (0 : Int) ≤ Int.negSucc n then some (some (Int.negSucc n).toNat) else none) = some hi := h; rw [if_neg (Int.not_le.mpr (Int.negSucc_lt_zero n))] at h; exact none_some h
        | ofNat n => have h : (if (0 : Int) ≤ Int.ofNat n then some (some (Int.ofNat n).toNat) else none) = some hi := h; rw [if_pos (show 0 ≤ Int.ofNat n from Int.natCast_nonneg n)] at h; cases h; exact to n a b p
theorem slice_sound (a : AV) (i : PySem.Expr) (hi : Option Nat) (hs : isSlice i = some hi) {Q : AV → Store → Prop} (hq : sliceOk P a hi W Q) (va : Value) (value : PySem.Expr)
    {A : Around} {H : Hid} {s : Shared} {E : Value → Shared → Prop} (S : St P H W s.heap) (L : Loc P env sc H W s.heap m) (xa : VR s.heap va a) :
    wpAny (model P.prog P.w) A (eval i env) (fun iv s₂ => wpAny (model P.prog P.w) A (subscriptTail value i va iv) (EVp P env sc H m s (Val Q)) E s₂) E s := by
  have up : ∀ (o : Obj) b o', s.heap.get? b = some o' → (s.heap.push o).get? b = some o' := fun o b o' e => Heap.get?_push_of_some _ e
  revert hq
  refine isSlice_elim (M := fun i hi => sliceOk P a hi W Q → wpAny (model P.prog P.w) A (eval i env) (fun iv s₂ => wpAny (model P.prog P.w) A (subscriptTail value i va iv) (EVp P env sc H m s (Val Q)) E s₂) E s) hs (fun k a' b' p hq => ?_) (fun a' b' c' p hq => ?_)
  · refine slice_to ?_
    have hTs : ({ s with heap := s.heap.push { cls := .type "slice", data := .fields #[.none, .int k s.toks, .none] }, toks := s.toks + 1 } : Shared).TypeIs (.ref s.heap.objs.size) "slice" := ⟨_, Heap.get?_push_size _ rfl, rfl⟩
    cases a <;> first | exact hq.elim | skip
    · obtain ⟨hz, hq⟩ := hq
      cases xa with | tup ta ra => ?_
      rename_i t vs
      have hl := ra.length
      have ta' := IsTup.keeps ta (up { cls := .type "slice", data := .fields #[.none, .int k s.toks, .none] })
      refine tail_at ta'.typeIs slot_tuple_getitem.lookup (getItem_tup (lo := 0) (st := 1) (c := min k vs.toArray.size) ta' hTs (fun Q' h' => applied_to (Heap.IsSliceOf.new ..) h') (fun hb => ?_) ?_ ?_)
      · simp only [Bool.and_eq_true, beq_iff_eq, List.size_toArray] at hb
        refine ⟨W, _, _, rfl, S.more (by simp) (up _), L.more (up _), Imm.of_keeps (up _), _, .tup ta' (ra.imm (Imm.of_keeps (up _))), ?_⟩
        rw [List.take_of_length_le (by omega)] at hq; exact hq
      · rw [pick_to]
        have up2 : ∀ b o', s.heap.get? b = some o' → ((s.heap.push { cls := .type "slice", data := .fields #[.none, .int k s.toks, .none] }).push { cls := .type "tuple", data := .seq (vs.toArray.toList.take k).toArray }).get? b = some o' := fun b o' e => Heap.get?_push_of_some _ (up _ b o' e)
        exact ⟨W, _, _, rfl, S.more (by simp only [Heap.size_push]; omega) up2, L.more up2, Imm.of_keeps up2, _, .tup (l := _) ⟨_, Heap.get?_push_size _ rfl, rfl, _, rfl⟩ ((ra.imm (Imm.of_keeps up2)).take k), hq⟩
      · rw [pick_to]; simp only [List.length_take]; unfold sizeLine; omega
    · obtain ⟨l, h1, hz, hq⟩ := hq
      cases xa
      obtain ⟨vs, hL, rr⟩ := readL S h1
      have hl := rr.length
      obtain ⟨mm, r0, F, N⟩ := L.fr
      have hL' := hL.push { cls := .type "slice", data := .fields #[.none, .int k s.toks, .none] }
      refine tail_at (Heap.IsList.typeIs (s := { s with heap := s.heap.push { cls := .type "slice", data := .fields #[.none, .int k s.toks, .none] }, toks := s.toks + 1 }) hL') slot_list_getitem.lookup (wpAny_getItem_list_slice hL' (Heap.IsSliceOf.new ..) .none (.int _ _) .none (by simp) ?_ (by simp only [List.size_toArray]; unfold sizeLine; omega))
      have hp : slicePick vs.toArray none (some (k : Int)) none = (vs.take k).toArray := by
        rw [kmk_pick_nat (a := 0) (b := min k vs.length) vs.toArray (by simp [sliceBounds]; omega)]
        simp only [List.drop_zero, Nat.sub_zero, kmk_take_min]
      rw [hp]
      have up2 : ∀ b o', s.heap.get? b = some o' → ((s.heap.push { cls := .type "slice", data := .fields #[.none, .int k s.toks, .none] }).push { cls := .type "list", data := .seq (vs.take k).toArray }).get? b = some o' := fun b o' e => Heap.get?_push_of_some _ (up _ b o' e)
      have hD : (s.heap.push { cls := .type "slice", data := .fields #[.none, .int k s.toks, .none] }).objs.size = s.heap.objs.size + 1 := by simp
      have zz1 := added S L (S.more (by simp only [Heap.size_push]; omega) up2) (L.more up2) (a := (s.heap.push { cls := .type "slice", data := .fields #[.none, .int k s.toks, .none] }).objs.size) (c := .list (l.take k)) (by rw [hD]; omega) ⟨_, _, Heap.get?_push_size _ rfl, (rr.imm (Imm.of_keeps up2)).take k⟩
      have S2 := zz1.1
      have L2 := zz1.2.1
      have w0 := zz1.2.2
      exact ⟨_, _, _, rfl, S2, L2, Imm.of_keeps up2, _, .ref _, hq _ w0⟩
  · refine slice_rev fun u tk => ?_
    have hTs : ({ s with heap := s.heap.push { cls := .type "slice", data := .fields #[.none, .none, .int (-1) u] }, toks := tk } : Shared).TypeIs (.ref s.heap.objs.size) "slice" := ⟨_, Heap.get?_push_size _ rfl, rfl⟩
    cases a <;> first | exact hq.elim | skip
    obtain ⟨hz, hq⟩ := hq
    cases xa with | tup ta ra => ?_
    rename_i t vs
    have hl := ra.length
    have ta' := IsTup.keeps ta (up { cls := .type "slice", data := .fields #[.none, .none, .int (-1) u] })
    refine tail_at ta'.typeIs slot_tuple_getitem.lookup (getItem_tup (lo := (vs.toArray.size : Int) - 1) (st := -1) (c := vs.toArray.size) ta' hTs (fun Q' h' => applied_rev (Heap.IsSliceOf.new ..) h') (fun hb => ?_) ?_ ?_)
    · simp at hb
    · rw [pick_rev]
      have up2 : ∀ b o', s.heap.get? b = some o' → ((s.heap.push { cls := .type "slice", data := .fields #[.none, .none, .int (-1) u] }).push { cls := .type "tuple", data := .seq (vs.toArray.toList.reverse).toArray }).get? b = some o' := fun b o' e => Heap.get?_push_of_some _ (up _ b o' e)
      exact ⟨W, _, _, rfl, S.more (by simp only [Heap.size_push]; omega) up2, L.more up2, Imm.of_keeps up2, _, .tup (l := _) ⟨_, Heap.get?_push_size _ rfl, rfl, _, rfl⟩ ((ra.imm (Imm.of_keeps up2)).reverse), hq⟩
    · rw [pick_rev]; simp only [List.length_reverse]; unfold sizeLine; omega
end
section
variable {P : Px} {n : Nat} {env : Env} {sc : Names} {m : Vars} {W : Store} {X : Store → Prop}

@[elab_as_elim] theorem VRs.oneE {h : Heap} {M : List Value → Prop} {vs : List Value} {d : AV} (x : VRs h vs [d]) (k : ∀ v, VR h v d → M [v]) : M vs := by
  cases x with | cons x0 r0 => cases r0; exact k _ x0
@[elab_as_elim] theorem VRs.twoE {h : Heap} {M : List Value → Prop} {vs : List Value} {d e : AV} (x : VRs h vs [d, e]) (k : ∀ v w, VR h v d → VR h w e → M [v, w]) : M vs := by
  cases x with | cons x0 r0 => cases r0 with | cons x1 r1 => cases r1; exact k _ _ x0 x1
theorem blt_elim {id : String} {args : List AV} {Q : AV → Store → Prop} {M : String → List AV → Prop} (h : bltOk id args W Q)
    (lenT : ∀ l, l.length ≤ 1000 → Q (.int l.length) W → M "len" [.tup l])
    (lenL : ∀ x l, W x = some (.list l) → l.length ≤ 1000 → Q (.int l.length) W → M "len" [.ref x])
    (srt : ∀ x ns, W x = some (.list (ivs ns)) → ns.length ≤ 60 → (∀ ns', ns'.Perm ns → ns'.Pairwise (· ≤ ·) → new W (.list (ivs ns')) Q) → M "sorted" [.ref x])
    (mx : ∀ x ns, W x = some (.list (ivs ns)) → ns ≠ [] → ns.length ≤ 60 → (∀ k, k ∈ ns → (∀ y ∈ ns, y ≤ k) → Q (.int k) W) → M "max" [.ref x])
    (mn : ∀ x y : Int, Q (.int (if y < x then y else x)) W → M "min" [.int x, .int y]) : M id args := by
  unfold bltOk at h
  by_cases e : id = "len"
  · subst e; rw [if_pos rfl] at h
    cases args with
    | nil => exact h.elim
    | cons a r =>
      cases a with
      | tup _ => cases r with
        | nil => exact lenT _ h.1 h.2
        | cons _ _ => exact h.elim
      | ref _ => cases r with
        | nil => exact (h.elim fun l h => lenL _ l h.1 h.2.1 h.2.2)
        | cons _ _ => exact h.elim
      | _ => exact h.elim
  · rw [if_neg e] at h
    by_cases e : id = "sorted"
    · subst e; rw [if_pos rfl] at h
      cases args with
      | nil => exact h.elim
      | cons a r =>
        cases a with
        | ref _ => cases r with
          | nil => exact (h.elim fun l h => srt _ l h.1 h.2.1 h.2.2)
          | cons _ _ => exact h.elim
        | _ => exact h.elim
    · rw [if_neg e] at h
      by_cases e : id = "max"
      · subst e; rw [if_pos rfl] at h
        cases args with
        | nil => exact h.elim
        | cons a r =>
          cases a with
          | ref _ => cases r with
            | nil => exact (h.elim fun l h => mx _ l h.1 h.2.1 h.2.2.1 h.2.2.2)
            | cons _ _ => exact h.elim
          | _ => exact h.elim
      · rw [if_neg e] at h
        by_cases e : id = "min"
        · subst e; rw [if_pos rfl] at h
          cases args with
          | nil => exact h.elim
          | cons a r =>
            cases a <;> first | exact h.elim | skip
            cases r with
            | nil => exact h.elim
            | cons b r =>
              cases b <;> first | exact h.elim | skip
              cases r with
              | nil => exact mn _ _ h
              | cons _ _ => exact h.elim
        · rw [if_neg e] at h; exact h.elim
theorem bltOk_sound (id : String) (args : List AV) {Q : AV → Store → Prop} (hq : bltOk id args W Q) (vs : List Value) :
    EV P n env sc m W (call (.builtin id) vs) (Val Q) X fun h => VRs h vs args := by
  intro A H s Fs r f fi eo S L xs
  revert xs
  refine blt_elim (M := fun id args => VRs s.heap vs args → wpAny (model P.prog P.w) A (call (.builtin id) vs) (EVp P env sc H m s (Val Q)) (XPp P env sc H s fun m' W' => m' = m ∧ X W') s) hq
    (fun l hz hq xs => ?_) (fun x l h1 hz hq xs => ?_) (fun x ns h1 hz hq xs => ?_) (fun x ns h1 hne hz hq xs => ?_) (fun x y hq xs => ?_)
  · refine xs.oneE fun v xv => xv.tupE fun a us ta ra => ?_
    have hl := ra.length
    refine PyProof.Rows.len_tuple ta (by rw [List.size_toArray, hl]; omega) ?_
    rw [List.size_toArray, hl]
    exact done0 S L (.int _ _) hq
  · refine xs.oneE fun v xv => xv.refE ?_
    obtain ⟨nn, us, e, rr⟩ := (S.cell _ _ h1).2
    have hl := rr.length
    refine PyProof.Rows.len_list (l := _) (items := us.toArray) ⟨_, e, rfl, _, rfl⟩ (by rw [List.size_toArray, hl]; omega) ?_
    rw [List.size_toArray, hl]
    exact done0 S L (.int _ _) hq
  · refine xs.oneE fun v xv => xv.refE ?_
    obtain ⟨nn, us, e, rr⟩ := (S.cell _ _ h1).2
    have hl := rr.length
    obtain ⟨mm, r0, F, N⟩ := L.fr
    refine PyProof.Rows.sorted_N F N ⟨_, e, rfl, _, rfl⟩ (intsAre rr) (by rw [hl]; simp [ivs]; omega) fun h' vs' ns' e' F' N' i' p' q' => ?_
    obtain ⟨S', L', i, hh⟩ := after (xs := [_]) S L r0 F' N'
    obtain ⟨S2, L2, w0⟩ := added S L S' L' (a := s.heap.objs.size + 1) (c := .list (ivs ns')) (by omega) ⟨_, _, hh _ (.head _), ofInts i'⟩
    exact .mk _ h' s.toks rfl S2 L2 i ⟨_, .ref _, hq ns' p' q' _ w0⟩
  · refine xs.oneE fun v xv => xv.refE ?_
    obtain ⟨nn, us, e, rr⟩ := (S.cell _ _ h1).2
    obtain ⟨mm, r0, F, N⟩ := L.fr
    refine PyProof.Rows.max_list_N r.hand F N ⟨_, e, rfl, _, rfl⟩ (intsAre rr) (List.length_pos_iff.mpr hne) fun h' M t tk F' N' hm hM => ?_
    obtain ⟨S', L', i, hh⟩ := after (xs := []) S L r0 F' N'
    exact .mk W h' tk rfl S' L' i ⟨_, .int _ _, hq M hm hM⟩
  · refine xs.twoE fun v w xv xw => xv.intE fun _ => xw.intE fun _ => ?_
    obtain ⟨mm, r0, F, N⟩ := L.fr
    refine PyProof.Rows.min_two_N r.hand F N fun h' tk F' N' => ?_
    obtain ⟨S', L', i, hh⟩ := after (xs := []) S L r0 F' N'
    exact .mk W h' tk rfl S' L' i ⟨_, .int _ _, hq⟩

theorem ty_elim {id : String} {args : List AV} {Q : AV → Store → Prop} {M : String → List AV → Prop} (h : tyOk id args W Q)
    (tup : ∀ x l, W x = some (.list l) → l.length ≤ 1000 → Q (.tup l) W → M "tuple" [.ref x])
    (r1 : ∀ b, Q (.rng 0 b) W → M "range" [.int b]) (r2 : ∀ a b, Q (.rng a b) W → M "range" [.int a, .int b]) : M id args := by
  unfold tyOk at h
  by_cases e : id = "tuple"
  · subst e; rw [if_pos rfl] at h
    cases args with
    | nil => exact h.elim
    | cons a r =>
      cases a with
      | ref _ => cases r with
        | nil => exact (h.elim fun l h => tup _ l h.1 h.2.1 h.2.2)
        | cons _ _ => exact h.elim
      | _ => exact h.elim
  · rw [if_neg e] at h
    by_cases e : id = "range"
    · subst e; rw [if_pos rfl] at h
      cases args with
      | nil => exact h.elim
      | cons a r =>
        cases a <;> first | exact h.elim | skip
        cases r with
        | nil => exact r1 _ h.2.2
        | cons b r =>
          cases b <;> first | exact h.elim | skip
          cases r with
          | nil => exact r2 _ _ h.2.2.2
          | cons _ _ => exact h.elim
    · rw [if_neg e] at h; exact h.elim
theorem rngMk {A : Around} {H : Hid} {s : Shared} {a b : Int} {tk : Nat} {Q : AV → Store → Prop} (S : St P H W s.heap) (L : Loc P env sc H W s.heap m) (hq : Q (.rng a b) W) {o : Obj} (ho : ∀ h : Heap, VR (h.push o) (.ref h.objs.size) (.rng a b)) :
    EVp P env sc H m s (Val Q) (.ref s.heap.objs.size) { s with heap := s.heap.push o, toks := tk } :=
  .mk W _ _ rfl (S.more (by simp) (fun b o' e => Heap.get?_push_of_some _ e)) (L.more (fun b o' e => Heap.get?_push_of_some _ e)) (Imm.of_keeps (fun b o' e => Heap.get?_push_of_some _ e)) ⟨_, ho _, hq⟩
theorem tyOk_sound (id : String) (args : List AV) {Q : AV → Store → Prop} (hq : tyOk id args W Q) (vs : List Value) :
    EV P n env sc m W (call (.type id) vs) (Val Q) X fun h => VRs h vs args := by
  intro A H s Fs r f fi eo S L xs
  revert xs
  refine ty_elim (M := fun id args => VRs s.heap vs args → wpAny (model P.prog P.w) A (call (.type id) vs) (EVp P env sc H m s (Val Q)) (XPp P env sc H s fun m' W' => m' = m ∧ X W') s) hq
    (fun x l h1 hz hq xs => ?_) (fun b hq xs => ?_) (fun a b hq xs => ?_)
  · refine xs.oneE fun v xv => xv.refE ?_
    obtain ⟨nn, us, e, rr⟩ := (S.cell _ _ h1).2
    have hl := rr.length
    refine call_tuple_list ⟨_, e, rfl, _, rfl⟩ (fun h' hk => ?_) (by rw [List.size_toArray, hl]; unfold sizeLine; omega)
    have hk2 : ∀ b o', s.heap.get? b = some o' → (h'.push { cls := .type "tuple", data := .seq us.toArray }).get? b = some o' := fun b o' e => Heap.get?_push_of_some _ (hk b o' e)
    have hsz : P.h₀.objs.size ≤ (h'.push { cls := .type "tuple", data := .seq us.toArray }).objs.size := by
      obtain ⟨oL, eL, _⟩ := L.there (.inl rfl : Own env env.locals)
      exact Nat.le_of_lt (Nat.lt_of_le_of_lt (L.own _ (.inl rfl)).1 (Heap.lt_size (hk2 _ _ eL)))
    have S' : St P H W (h'.push { cls := .type "tuple", data := .seq us.toArray }) := S.step hsz (fun _ => False) W (fun a o e _ => hk2 a o e) (Imm.of_keeps hk2) (fun _ q => q.elim) (fun _ _ _ _ q => q.elim) (fun a o e => (S.hid a o e).2.1) (fun _ _ e => .inr ⟨_root_.id, e⟩)
    exact .mk W _ s.toks rfl S' (L.more hk2) (Imm.of_keeps hk2) ⟨_, .tup ⟨_, Heap.get?_push_size _ rfl, rfl, _, rfl⟩ (rr.imm (Imm.of_keeps hk2)), hq⟩
  · refine xs.oneE fun v xv => xv.intE fun _ => call_range_1 ?_
    exact rngMk (A := A) S L hq fun _ => .rng (IsRange.new ..)
  · refine xs.twoE fun v w xv xw => xv.intE fun _ => xw.intE fun _ => call_range_2 ?_
    exact rngMk (A := A) S L hq fun _ => .rng (IsRange.new ..)
end

/-! ### the caller's own things stand aside -/
open Classical in
noncomputable def hideO (env : Env) (h : Heap) (H : Hid) : Hid := fun a => if Own env a then h.get? a else H a
section
variable {P : Px} {env : Env} {sc : Names} {H : Hid} {W W' : Store} {h h' : Heap} {m : Vars}
theorem hideO_own {a : Addr} (x : Own env a) : hideO env h H a = h.get? a := by unfold hideO; rw [if_pos x]
theorem hideO_not {a : Addr} (x : ¬ Own env a) : hideO env h H a = H a := by unfold hideO; rw [if_neg x]
theorem hide_St (S : St P H W h) (L : Loc P env sc H W h m) : St P (hideO env h H) W h := by
  refine ⟨S.size, S.keep, S.cell, fun a o e => ?_⟩
  by_cases x : Own env a
  · rw [hideO_own x] at e
    exact ⟨fresh_ge (L.own a x).1, (L.own a x).2.2, o, e, .refl o⟩
  · rw [hideO_not x] at e
    exact S.hid a o e
theorem hide_Fr (L : Loc P env sc H W h m) {Fs : List Env} (fi : FrIn Fs env H) : FrH Fs (hideO env h H) := by
  intro e he
  refine cps fun kk => ?_
  obtain ⟨hk, A, hA, hx⟩ := fi e he
  refine kk ?_
  clear kk
  refine ⟨hk, A, ?_⟩
  rcases hx with rfl | ⟨o, e1, e2⟩
  · refine cps fun kk => ?_
    obtain ⟨o, es, ep, ho, hd⟩ := L.nsThere
    refine kk ?_
    clear kk
    exact ⟨o, hA, by rw [hideO_own (.inl rfl)]; exact ho, es, ep, hd⟩
  · have x : ¬ Own env A := fun x => by rw [(L.own A x).2.1] at e1; cases e1
    exact ⟨o, hA, by rw [hideO_not x]; exact e1, e2⟩
theorem hide_back (L : Loc P env sc H W h m) (S' : St P (hideO env h H) W' h') (i : Imm h h') : St P H W' h' ∧ Loc P env sc H W' h' m := by
  refine ⟨S'.lessH fun a o e => ⟨o, ?_, .refl o⟩, L.keep (fun a o x e => ?_) i fun a x => ⟨(L.own a x).2.1, ?_⟩⟩
  · have : ¬ Own env a := fun q => by rw [(L.own a q).2.1] at e; cases e
    rw [hideO_not this]; exact e
  · exact (S'.hid a o (by rw [hideO_own x]; exact e)).2.2
  · refine cps fun kk => ?_
    obtain ⟨o, e, _⟩ := L.there x
    refine kk ?_
    clear kk
    exact (S'.hid a o (by rw [hideO_own x]; exact e)).2.1
theorem hide_Exc (L : Loc P env sc H W h m) {x : Addr} (E : Exc P (hideO env h H) W' (fun _ => False) h' x) : Exc P H W' (Own env) h' x := by
  have fr : ∀ {a}, Free P (hideO env h H) W' (fun _ => False) a → Free P H W' (Own env) a := fun {a} ⟨z0, zH, zW, _⟩ => by
    have : ¬ Own env a := fun q => by
      rw [hideO_own q] at zH
      refine cps fun kk => ?_
      obtain ⟨o, e, _⟩ := L.there q
      refine kk ?_
      clear kk
      rw [zH] at e; cases e
    rw [hideO_not this] at zH
    exact ⟨z0, zH, zW, this⟩
  refine cps fun kk => ?_
  obtain ⟨f, oe, vs, e1, e2, e3, e4, e5⟩ := E
  refine kk ?_
  clear kk
  refine ⟨fr f, oe, vs, e1, e2, e3, e4, e5.imp id ?_⟩
  rintro ⟨T, oT, ts, t1, t2, t3⟩
  exact ⟨T, oT, ts, t1, fr t2, t3⟩
end

section
variable {P : Px} {n : Nat} {env : Env} {sc : Names} {m : Vars} {W : Store} {X : Store → Prop}
theorem callOk_sound {f : Addr} {args : List AV} {Q : AV → Store → Prop} (hq : CallOk P n f args W Q X) (vs : List Value) :
    EV P n env sc m W (call (.ref f) vs) (Val Q) X fun h => VRs h vs args := by
  intro A H s Fs r f fi eo S L xs
  refine wpAny_mono (hq.go A (hideO env s.heap H) s Fs vs r f (hide_Fr L fi) (hide_St S L) xs) (fun v s' z => ?_) (fun e s' z => ?_)
  · refine cps fun kk => ?_
    obtain ⟨W', h', tk', rfl, S', i, d, x, q⟩ := z
    refine kk ?_
    clear kk
    obtain ⟨S2, L2⟩ := hide_back L S' i
    exact ⟨W', h', tk', rfl, S2, L2, i, d, x, q⟩
  · refine cps fun kk => ?_
    obtain ⟨x, W', h', tk', rfl, rfl, S', i, E, q⟩ := z
    refine kk ?_
    clear kk
    obtain ⟨S2, L2⟩ := hide_back L S' i
    exact ⟨x, m, W', h', tk', rfl, rfl, S2, L2, i, hide_Exc L E, rfl, q⟩

theorem vcCall_sound {f : AV} {args : List AV} {Q : AV → Store → Prop} (hq : vcCall P n f args W Q X) (vf : Value) (vs : List Value) :
    EV P n env sc m W (call vf vs) (Val Q) X fun h => VR h vf f ∧ VRs h vs args := by
  intro A H s Fs r fr fi eo S L ⟨xf, xs⟩
  cases f <;> first | exact hq.elim | skip
  · cases xf; exact callOk_sound hq.2 vs A H s Fs r fr fi eo S L xs
  · cases xf; exact bltOk_sound _ _ hq vs A H s Fs r fr fi eo S L xs
  · cases xf; exact tyOk_sound _ _ hq vs A H s Fs r fr fi eo S L xs

/-! ### fields -/
theorem arel_get {p : Params} {h : Heap} {x : Str} : ∀ {es : List DictEntry} {l : List (Str × AV)}, ARel p h es l →
    (∀ d, l.lookup x = some d → ∃ v, getL x es = some (some v) ∧ VR h v d) ∧ (l.lookup x = none → getL x es = some none)
  | _, _, .nil => ⟨fun d e => by simp at e, fun _ => rfl⟩
  | _, _, .cons (x := y) (t := t) (v := v) (d := d) (es := es) (l := l) a r => by
    have ih := arel_get (x := x) r
    have hs : (Value.str y t).isStr x = (y == x) := rfl
    have hr : ∀ es : List DictEntry, (⟨PyData.keyHash p y, .str y t, v⟩ : DictEntry).refKey = false := fun _ => rfl
    simp only [List.lookup_cons, getL, List.find?_cons, hs, List.any_cons, hr es, Bool.false_or] at ih ⊢
    by_cases e : x = y
    · subst e
      simp only [beq_self_eq_true]
      exact ⟨fun d' ed => ⟨v, rfl, by cases ed; exact a⟩, fun e => by cases e⟩
    · rw [beq_eq_false_iff_ne.mpr e, beq_eq_false_iff_ne.mpr (Ne.symm e)]
      exact ih
theorem arel_put {p : Params} {h : Heap} {x : Str} {t : Tok} {v : Value} {d : AV} (hv : VR h v d) : ∀ {es : List DictEntry} {l : List (Str × AV)}, ARel p h es l →
    ARel p h (putL x (PyData.keyHash p x) (.str x t) v es) (putA l x d)
  | _, _, .nil => .cons hv .nil
  | _, _, .cons (x := y) (t := u) (v := w) (d := d') (es := es) (l := l) a r => by
    have hs : (Value.str y u).isStr x = (y == x) := rfl
    simp only [putL, putA, hs]
    by_cases e : y = x
    · subst e; simp only [beq_self_eq_true, if_true]; exact .cons hv r
    · rw [beq_eq_false_iff_ne.mpr e]; simp only [Bool.false_eq_true, if_false]; exact .cons a (arel_put hv r)
theorem arel_len {p : Params} {h : Heap} : ∀ {es : List DictEntry} {l : List (Str × AV)}, ARel p h es l → es.length = l.length
  | _, _, .nil => rfl
  | _, _, .cons _ r => by simp [arel_len r]
theorem putA_len (x : Str) (v : AV) : ∀ l : List (Str × AV), (putA l x v).length ≤ l.length + 1
  | [] => by simp [putA]
  | (y, u) :: r => by
    have := putA_len x v r
    simp only [putA]
    split <;> simp <;> omega

theorem inst_at {H : Hid} {h : Heap} (S : St P H W h) {a d C : Addr} {l : List (Str × AV)} (h1 : W a = some (.inst C d)) (h2 : W d = some (.attrs l)) :
    ∃ es k, InstAt h a (instObj C d) C (some (dictOf es k)) ∧ ARel P.w.params h es l ∧ es.length ≤ 900 ∧ h.get? d = some (dictOf es k) := by
  refine cps fun kk => ?_
  obtain ⟨es, k, e, r, hz⟩ := (S.cell d _ h2).2
  refine kk ?_
  clear kk
  have e1 : h.get? a = some (instObj C d) := (S.cell a _ h1).2
  exact ⟨es, k, ⟨e1, rfl, rfl, e⟩, r, hz, e⟩

theorem attrOk_sound (ok : PxOk P) (o : AV) (x : Str) {Q : AV → Store → Prop} (hq : attrOk P o x W Q) (va : Value) (ex : Bool) :
    EV P n env sc m W (getAttr va x ex) (Val Q) X fun h => VR h va o := by
  intro A H s Fs r fr fi eo S L xa
  cases o <;> first | exact hq.elim | skip
  refine cps fun kk => ?_
  obtain ⟨C, d, l, v, h1, h2, hC, hF, hl, hq⟩ := hq
  refine kk ?_
  clear kk
  cases xa
  refine cps fun kk => ?_
  obtain ⟨es, k, I, ar, hz, hd⟩ := inst_at S h1 h2
  refine kk ?_
  clear kk
  refine cps fun kk => ?_
  obtain ⟨w, e, xw⟩ := (arel_get ar).1 v hl
  refine kk ?_
  clear kk
  exact get_value (Frag.In.keeps ok.inK S.keep) I hC.getattribute (findObj_own hC.dict hF.1 rfl (by rw [lookIn_dict]; exact e)) xw.handed (done0 S L xw hq)

/-! ### one cell turned, by a rule that asks for a ledger -/
def allN2 (h : Heap) (L d : Addr) : List (Addr × Obj) := (allN h L).filter fun p => p.1 != d
theorem mem_allN2 {h : Heap} {L d a : Addr} {o : Obj} : (a, o) ∈ allN2 h L d ↔ a ≠ L ∧ a ≠ d ∧ h.get? a = some o := by
  unfold allN2
  rw [List.mem_filter, mem_allN]
  simp only [bne_iff_ne, ne_eq]
  exact ⟨fun ⟨⟨a, b⟩, c⟩ => ⟨a, c, b⟩, fun ⟨a, c, b⟩ => ⟨⟨a, b⟩, c⟩⟩
theorem after2 {H : Hid} {h h' : Heap} (S : St P H W h) (L : Loc P env sc H W h m) {mm : Str → Option Value} (r : ∀ x av, look m x = some av → sc.lookup x = some .local → ∃ v, mm x = some v ∧ VR h v av) {d : Addr} {o' : Obj} {c₀ c : Cell}
    (hd : W d = some c₀) (F' : Fr noHeap env.locals h' mm) (N' : News noHeap env.locals h' ((d, o') :: allN2 h env.locals d)) (hc : Imm h h' → CellOk P h' d c) :
    St P H (upd W d c) h' ∧ Loc P env sc H (upd W d c) h' m ∧ Imm h h' := by
  have k : ∀ a o, a ≠ env.locals → a ≠ d → h.get? a = some o → h'.get? a = some o := fun a o q q2 e => (N' (a, o) (.tail _ (mem_allN2.mpr ⟨q, q2, e⟩))).1
  have own := L.own env.locals (.inl rfl)
  refine cps fun kk => ?_
  obtain ⟨oL, eL, hI, _⟩ := L.there (.inl rfl : Own env env.locals)
  refine kk ?_
  clear kk
  obtain ⟨d0, dz⟩ := S.cell d c₀ hd
  refine cps fun kk => ?_
  obtain ⟨oD, eD, hID, hfD⟩ := CellOk.there dz
  refine kk ?_
  clear kk
  have i : Imm h h' := fun a o e z => k a o (fun q => by subst q; rw [eL] at e; cases e; exact hI z) (fun q => by subst q; rw [eD] at e; cases e; exact hID z) e
  have nd : ∀ a, Own env a → a ≠ d := fun a ha q => by have := (L.own a ha).2.2; rw [q, hd] at this; cases this
  refine ⟨S.step (Nat.le_trans own.1 (Nat.le_of_lt F'.ns.lt)) (fun a => a = env.locals ∨ a = d) (upd W d c) (fun a o e q => k a o (fun z => q (.inl z)) (fun z => q (.inr z)) e) i (fun a q => by rcases q with rfl | rfl; exact fresh_ge own.1; exact d0)
    (fun a o o₁ e q => ?_) (fun a o e => ?_) (fun a c' e => ?_), ?_, i⟩
  · rcases q with rfl | rfl
    · rw [own.2.1] at e; cases e
    · rw [(S.hid _ _ e).2.1] at hd; cases hd
  · have hb : a ≠ d := fun q => by subst q; rw [(S.hid _ _ e).2.1] at hd; cases hd
    simp only [upd, hb, if_false]; exact (S.hid a o e).2.1
  · by_cases hb : a = d
    · subst hb; simp only [upd, if_true, Option.some.injEq] at e; subst e; exact .inl ⟨d0, hc i⟩
    · simp only [upd, hb, if_false] at e
      exact .inr ⟨fun q => by rcases q with rfl | rfl; rw [own.2.2] at e; cases e; exact hb rfl, e⟩
  · have cl : ∀ x c vo, (x, c) ∈ env.cells → h.IsCell c vo → h'.IsCell c vo := fun x c vo hm z => by
      refine cps fun kk => ?_
      obtain ⟨o, e, hdd⟩ := z
      refine kk ?_
      clear kk
      refine ⟨o, k c o (fun q => ?_) (nd c (.inr ⟨x, hm⟩)) e, hdd⟩
      refine cps fun kk => ?_
      obtain ⟨mm', ⟨o', es, ep, e', hd', _⟩, _⟩ := L.ns
      refine kk ?_
      clear kk
      rw [q] at e; rw [e] at e'; cases e'; rw [hdd] at hd'; cases hd'
    refine ⟨fun a ha => ⟨(L.own a ha).1, (L.own a ha).2.1, ?_⟩, ⟨mm, F'.ns, fun x av e q => ?_⟩, fun x q => ?_, fun x c hm => ?_, L.apart⟩
    · simp only [upd, nd a ha, if_false]; exact (L.own a ha).2.2
    · refine cps fun kk => ?_
      obtain ⟨v, e', z⟩ := r x av e q
      refine kk ?_
      clear kk
      exact ⟨v, e', z.imm i⟩
    · refine cps fun kk => ?_
      obtain ⟨c, vo, e, z, y⟩ := L.cells x q
      refine kk ?_
      clear kk
      exact ⟨c, vo, e, cl x c vo (lookup_mem e) z, fun av ea => let ⟨v, ev, zz⟩ := y av ea; ⟨v, ev, zz.imm i⟩⟩
    · obtain ⟨vo, z⟩ := L.celli x c hm; exact ⟨vo, cl x c vo hm z⟩
theorem news2 {h : Heap} {L d : Addr} {o : Obj} (hL : d ≠ L) (e : h.get? d = some o) : News noHeap L h ((d, o) :: allN2 h L d) := fun p hp => by
  rcases List.mem_cons.mp hp with rfl | hp
  · exact ⟨e, hL, noHeap_get _⟩
  · obtain ⟨a, o'⟩ := p
    refine cps fun kk => ?_
    obtain ⟨q, _, e'⟩ := mem_allN2.mp hp
    refine kk ?_
    clear kk
    exact ⟨e', q, noHeap_get _⟩

/-- a tree that gives nothing -/
def Unt (Q : Store → Prop) : Heap → Unit → Store → Prop := fun _ _ W => Q W

theorem setAttrOk_sound (ok : PxOk P) (o : AV) (x : Str) (v : AV) {Q : Store → Prop} (hq : setAttrOk P o x v W Q) (va vv : Value) :
    EV P n env sc m W (setAttr va x vv) (Unt Q) X fun h => VR h va o ∧ VR h vv v := by
  intro A H s Fs r fr fi eo S L ⟨xa, xv⟩
  cases o <;> first | exact hq.elim | skip
  refine cps fun kk => ?_
  obtain ⟨C, d, l, h1, h2, hC, hF, hz, hq⟩ := hq
  refine kk ?_
  clear kk
  cases xa
  refine cps fun kk => ?_
  obtain ⟨es, k, I, ar, hz', hd⟩ := inst_at S h1 h2
  refine kk ?_
  clear kk
  refine cps fun kk => ?_
  obtain ⟨mm, r0, F, N⟩ := L.fr
  refine kk ?_
  clear kk
  have hdL : d ≠ env.locals := fun q => by have := (L.own env.locals (.inl rfl)).2.2; rw [← q, h2] at this; cases this
  have hlen := arel_len ar
  have hg : (lookIn x (dictOf es k)).isSome = true := by
    rw [lookIn_dict]
    cases q : l.lookup x with
    | none => rw [(arel_get ar).2 q]; rfl
    | some d => obtain ⟨w, e, _⟩ := (arel_get ar).1 d q; rw [e]; rfl
  have ar' := fun t => arel_put (x := x) (t := t) xv ar
  have hlen' := putA_len x v l
  refine set_plain (Frag.In.keeps ok.inK S.keep) I hC.setattr (osa_dict (s := { s with toks := s.toks + 1 }) (pre := []) F (news2 hdL hd) (Frag.In.keeps ok.inK S.keep) I rfl hC.plain hF.2.1 hC.dict hg (fun _ h => nomatch h)
    (fun p hp => ?_) (putName_dict x _ _ _ es k) rfl ?_ fun h' F' N' => ?_)
  · obtain ⟨a, o'⟩ := p
    exact (mem_allN2.mp hp).2.1
  · exact Nat.le_trans (Nat.le_of_eq (arel_len (ar' (s.toks + 1)))) (by omega)
  · refine cps fun kk => ?_
    obtain ⟨S', L', i⟩ := after2 (c := .attrs (putA l x v)) S L r0 h2 F' N' fun i => ⟨_, _, (N' _ (.head _)).1, (ar' (s.toks + 1)).imm i, Nat.le_trans (Nat.le_of_eq (arel_len (ar' (s.toks + 1)))) (by omega)⟩
    refine kk ?_
    clear kk
    exact ⟨_, h', _, rfl, S', L', i, hq⟩
end
section
variable {P : Px} {n : Nat} {env : Env} {sc : Names} {m : Vars} {W : Store} {X : Store → Prop}

/-- a list turned in place -/
theorem turned {H : Hid} {s : Shared} {h' : Heap} {a : Addr} {l l' : List AV} {n' : Nat} {us : List Value} (S : St P H W s.heap) (L : Loc P env sc H W s.heap m) (h1 : W a = some (.list l)) (hs : Heap.SameBut a s.heap h')
    (hg : h'.get? a = some (listOf us.toArray n')) (hv : VRs s.heap us l') : St P H (upd W a (.list l')) h' ∧ Loc P env sc H (upd W a (.list l')) h' m ∧ Imm s.heap h' := by
  have hk : ∀ b o, b ≠ a → s.heap.get? b = some o → h'.get? b = some o := fun b o q e => hs.extBut b o q e
  obtain ⟨S', i⟩ := S.turn (h' := h') (c := .list l') (by rw [hs.1]; exact S.size) h1 hk fun i => ⟨_, _, hg, hv.imm i⟩
  exact ⟨S', L.turn h1 hk i, i⟩

theorem appOk_sound (a : Addr) (args : List AV) {Q : AV → Store → Prop} (hq : appOk a args W Q) (vs : List Value) :
    EV P n env sc m W (call (.builtin "list.append") (.ref a :: vs)) (Val Q) X fun h => VRs h vs args := by
  intro A H s Fs r f fi eo S L xs
  refine cps fun kk => ?_
  obtain ⟨l, v, rfl, h1, hz, hq⟩ := hq
  refine kk ?_
  clear kk
  cases xs with | cons x0 r0 => ?_
  cases r0
  refine cps fun kk => ?_
  obtain ⟨nn, us, e, rr⟩ := (S.cell _ _ h1).2
  refine kk ?_
  clear kk
  have hl := rr.length
  refine append_at e (fun h' hs hg => ?_) (by simp only [List.size_toArray]; unfold sizeLine; omega)
  rw [List.push_toArray] at hg
  refine cps fun kk => ?_
  obtain ⟨S', L', i⟩ := turned S L h1 hs hg (rr.append (.cons x0 .nil))
  refine kk ?_
  clear kk
  exact ⟨_, h', s.toks, rfl, S', L', i, _, .none, hq⟩

theorem revOk_sound (a : Addr) (args : List AV) {Q : AV → Store → Prop} (hq : revOk a args W Q) (vs : List Value) :
    EV P n env sc m W (call (.builtin "list.reverse") (.ref a :: vs)) (Val Q) X fun h => VRs h vs args := by
  intro A H s Fs r f fi eo S L xs
  refine cps fun kk => ?_
  obtain ⟨l, rfl, h1, hz, hq⟩ := hq
  refine kk ?_
  clear kk
  cases xs
  refine cps fun kk => ?_
  obtain ⟨nn, us, e, rr⟩ := (S.cell _ _ h1).2
  refine kk ?_
  clear kk
  have hl := rr.length
  refine call_meets PySem.F.slot_list_reverse ⟨_, e, rfl⟩ PySem.F.entry_list_reverse (PySem.F.args_list_reverse_1 _) (PySem.AutoSeq1.list_reverse_list_0 a us.toArray nn (by simp only [List.size_toArray]; unfold sizeLine; omega)) ⟨e, ?_⟩
  have hg : (s.heap.update a (Obj.mapSeq fun x => x.reverse)).get? a = some (listOf us.reverse.toArray nn) := by
    rw [Heap.get?_update_self _ e (by rfl)]
    simp [Obj.mapSeq]
  refine cps fun kk => ?_
  obtain ⟨S', L', i⟩ := turned S L h1 (Heap.SameBut.update ..) hg rr.reverse
  refine kk ?_
  clear kk
  exact ⟨_, _, s.toks, rfl, S', L', i, _, .none, hq⟩

theorem getOk_sound (ok : PxOk P) (a : Addr) (args : List AV) {Q : AV → Store → Prop} (hq : getOk a args W Q) (vs : List Value) :
    EV P n env sc m W (call (.builtin "dict.get") (.ref a :: vs)) (Val Q) X fun h => VRs h vs args := by
  intro A H s Fs r f fi eo S L xs
  refine cps fun kk => ?_
  obtain ⟨l, k, v, rfl, h1, hq⟩ := hq
  refine kk ?_
  clear kk
  cases xs with | cons x0 r0 => ?_
  cases r0 with | cons x1 r1 => ?_
  cases r1
  cases x0
  rename_i dv t
  refine cps fun kk => ?_
  obtain ⟨kvs, d', e1, e2⟩ := (S.cell _ _ h1).2
  refine kk ?_
  clear kk
  have d := d'.dictOf
  refine call_meetsIn PySem.F.slot_dict_get d.typeIs PySem.F.entry_dict_get (PySem.F.args_dict_get_3 _ _ _) (meets_dict_get_default (intKind P.prog P.w) a (intKind_is P.prog P.w k t) (notSys ok S h1) dv) ⟨_, d.mapOf, ?_⟩
  have z := valueAt_lookup e1 e2 k
  cases q : l.lookup k with
  | none => rw [z.2 q]; exact done0 S L x1 (by simpa [q] using hq)
  | some w => obtain ⟨y, ey, xy⟩ := z.1 w q; rw [ey]; exact done0 S L xy (by simpa [q] using hq)

theorem set_at {prog : Program} {w : World} {A : Around} {E : Value → Shared → Prop} {s : Shared} {l : Addr} {its : Array Value} {nn : Nat} {k : Int} {t : Tok} {v : Value} {Q : Unit → Shared → Prop} (ho : s.heap.get? l = some (listOf its nn))
    (h0 : 0 ≤ k) (hfit : k < 2 ^ 63) (hn : k < its.size) (hQ : ∀ h', Heap.SameBut l s.heap h' → h'.get? l = some (listOf (its.setIfInBounds k.toNat v) nn) → Q () { s with heap := h' }) :
    wpAny (model prog w) A (setItem (.ref l) (.int k t) v) Q E s := by
  have hT : s.TypeIs (.ref l) "list" := ⟨_, ho, rfl⟩
  unfold setItem
  refine wpAny_holding ?_
  refine wpAny_bind (wpAny_sequenceKey hT (by decide) ?_)
  refine wpAny_bind (wpAny_callSpecial?_slot (name := Str.ofString "__setitem__") hT slot_list_setitem
    (wpAny_call_entry slot_list_setitem hT entry_list_setitem ?_ (args_list_setitem _ _ _)))
  show wpAny _ _ (Builtin.List.listSubscript? (.int k t) >>= _) _ _ s
  refine wpAny_bind (wpAny_listSubscript_int (fitsIndex_of h0 hfit) ?_)
  clear hfit
  obtain ⟨j, rfl⟩ := Int.eq_ofNat_of_zero_le h0
  have hj : j < its.size := by omega
  show wpAny _ _ ((seqItemAt l j >>= fun r => pure (r.map (j, ·))) >>= _) _ _ s
  refine wpAny_bind (wpAny_bind (wpAny_seqItemAt ho rfl (wpAny_pure ?_)))
  rw [show its[j]? = some its[j] from Array.getElem?_eq_getElem hj]
  show wpAny _ _ (setSeqItemAt l j v >>= _) _ _ s
  have hg : (s.heap.update l (Obj.mapSeq (·.setIfInBounds j v))).get? l = some (listOf (its.setIfInBounds j v) nn) := by
    rw [Heap.get?_update_self _ ho (by rfl)]
    simp [Obj.mapSeq]
  refine wpAny_bind (wpAny_setSeqItemAt ho rfl ?_)
  first
    | exact wpAny_bind (wpAny_pure (wpAny_pure ⟨.none, rfl, wpAny_pure (hQ _ (Heap.SameBut.update ..) hg)⟩))
    | exact wpAny_pure ⟨.none, rfl, wpAny_pure (hQ _ (Heap.SameBut.update ..) hg)⟩

theorem stored_new {kvs : List (Int × Value)} {k : Int} {v : Value} (h : k ∉ kvs.map (·.1)) : stored kvs k v = kvs ++ [(k, v)] := by
  unfold stored
  rw [if_neg]
  intro q
  rw [List.any_eq_true] at q
  refine cps fun kk => ?_
  obtain ⟨p, hp, e⟩ := q
  refine kk ?_
  clear kk
  exact h (List.mem_map.mpr ⟨p, hp, by simpa using e⟩)

theorem dictSet_new {prog : Program} {w : World} {A : Around} {E : Value → Shared → Prop} {K : Type} [DecidableEq K] {knd : KeyKind prog w K} {s : Shared} {d : Addr} {kvs : List (K × Value)} {k : K} {key v : Value} {ep : Nat} {Q : Unit → Shared → Prop}
    (hkey : knd.is k key = true) (hm : s.heap.DictAt knd d kvs ep) (hnew : k ∉ kvs.map (·.1)) (hz : kvs.length ≤ sizeLine)
    (hQ : ∀ h', h'.DictAt knd d (kvs ++ [(k, v)]) (ep + 1) → Heap.SameBut d s.heap h' → Q () { s with heap := h', toks := s.toks + 1 }) :
    wpAny (model prog w) A (dictSet d key v) Q E s := by
  refine cps fun kk => ?_
  obtain ⟨o, es, ho, hc, hd, hk, hp, hn⟩ := hm
  refine kk ?_
  clear kk
  have len : es.size ≤ sizeLine := by rw [← Array.length_toList, hp.length]; exact hz
  have none' : (es.findIdx? fun e => knd.is k e.key) = none := by
    have q : (es.findIdx? fun e => knd.is k e.key) = kvs.findIdx? fun kv => decide (kv.1 = k) := by
      rw [← hp.findIdx k]; obtain ⟨l⟩ := es; simp
    rw [q, List.findIdx?_eq_none_iff]
    intro x hx
    exact decide_eq_false fun e => hnew (List.mem_map.mpr ⟨x, hx, e⟩)
  unfold dictSet
  refine wpAny_holding (wpAny_bind (knd.pyHash hkey ?_))
  unfold dictSetHashed
  refine wpAny_holding (wpAny_bind (wpAny_dictFind_of (s := { s with toks := s.toks + 1 }) hkey ho hd hk ?_))
  rw [none']
  refine wpAny_bind (wpAny_rule (wpAny_updateDictKeys (hz := len) (s := { s with toks := s.toks + 1 }) ho hd (hQ _ ⟨_, _, Heap.get?_update_self _ ho (Obj.isFreed_of_dict (Obj.data_mapDictKeys hd _)),
    hc.mapDictKeys _, Obj.data_mapDictKeys hd _, hk.push hkey _, ?_, ?_⟩ (Heap.SameBut.update ..))))
  · rw [Array.toList_push]; exact hp.append hkey (knd.hash k) v
  · rw [List.map_append, List.nodup_append]
    refine ⟨hn, by simp, fun a ha b hb e => ?_⟩
    rw [List.map_singleton, List.mem_singleton] at hb
    have : a = k := e.trans hb
    exact hnew (this ▸ ha)

theorem set_new {prog : Program} {w : World} {A : Around} {E : Value → Shared → Prop} {K : Type} [DecidableEq K] {knd : KeyKind prog w K} {s : Shared} {d : Addr} {kvs : List (K × Value)} {k : K} {key v : Value} {ep : Nat} {Q : Unit → Shared → Prop}
    (hkey : knd.is k key = true) (hm : s.heap.DictAt knd d kvs ep) (hnew : k ∉ kvs.map (·.1)) (hz : kvs.length ≤ sizeLine)
    (hQ : ∀ h', h'.DictAt knd d (kvs ++ [(k, v)]) (ep + 1) → Heap.SameBut d s.heap h' → Q () { s with heap := h', toks := s.toks + 1 }) :
    wpAny (model prog w) A (setItem (.ref d) key v) Q E s := by
  have T := hm.dictOf.typeIs
  unfold setItem
  refine wpAny_holding (wpAny_bind (wpAny_sequenceKey T (by decide) (wpAny_bind (wpAny_callSpecial?_slot (name := Str.ofString "__setitem__") T slot_dict_setitem
    (wpAny_call_entry slot_dict_setitem T entry_dict_setitem ?_ (args_dict_setitem _ _ _))))))
  show wpAny _ _ (Builtin.Dict.notOrdered "__setitem__" ⟨[.ref d, key, v], []⟩ >>= _) _ _ s
  refine wpAny_bind (wpAny_notOrdered_dict T ?_)
  show wpAny _ _ (dictSet d key v >>= _) _ _ s
  exact wpAny_bind (dictSet_new hkey hm hnew hz fun h' a b => wpAny_pure ⟨.none, rfl, wpAny_pure (hQ h' a b)⟩)

theorem setItemOk_sound (o i v : AV) {Q : Store → Prop} (hq : setItemOk o i v W Q) (va vi vv : Value) :
    EV P n env sc m W (setItem va vi vv) (Unt Q) X fun h => VR h va o ∧ VR h vi i ∧ VR h vv v := by
  intro A H s Fs r f fi eo S L ⟨xa, xi, xv⟩
  cases o <;> first | exact hq.elim | skip
  cases i <;> first | exact hq.elim | skip
  cases xa; cases xi
  rename_i a k t
  rcases hq with ⟨l, h1, h0, hk, hz, hq⟩ | ⟨l, h1, hk, hz, hq⟩
  · refine cps fun kk => ?_
    obtain ⟨nn, us, e, rr⟩ := (S.cell _ _ h1).2
    refine kk ?_
    clear kk
    have hl := rr.length
    refine set_at e h0 (by omega) (by simp only [List.size_toArray]; omega) fun h' hs hg => ?_
    refine cps fun kk => ?_
    obtain ⟨S', L', i⟩ := turned (us := us.set k.toNat vv) (n' := nn) (l' := l.set k.toNat v) S L h1 hs (by rw [hg]; simp) (rr.set _ xv)
    refine kk ?_
    clear kk
    exact ⟨_, h', s.toks, rfl, S', L', i, hq⟩
  · refine cps fun kk => ?_
    obtain ⟨kvs, d, e1, e2⟩ := (S.cell _ _ h1).2
    refine kk ?_
    clear kk
    have hl : kvs.length = l.length := by rw [← List.length_map (f := (·.1)), e1, List.length_map]
    refine set_new (intKind_is P.prog P.w k t) d (by rw [e1]; exact hk) (by unfold sizeLine; omega) fun h' d' hs => ?_
    have hk' : ∀ b o, b ≠ a → s.heap.get? b = some o → h'.get? b = some o := fun b o q e => hs.extBut b o q e
    obtain ⟨S', i⟩ := S.turn (h' := h') (c := .dict (l ++ [(k, v)])) (by rw [hs.1]; exact S.size) h1 hk' fun i =>
      ⟨_, by rw [List.length_append]; exact d', by simp [e1], by
        rw [List.map_append, List.map_append]
        exact (e2.imm i).append (.cons (xv.imm i) .nil)⟩
    exact ⟨_, h', _, rfl, S', L.turn h1 hk' i, i, hq⟩

/-! ### arguments -/
theorem star_plain {e : PySem.Expr} {rest : List PySem.Expr} (h : plainE e = true) : starEach (e :: rest) env = (false, eval e env) :: starEach rest env := by
  cases e <;> first | rfl | cases h
theorem any_star (pos : Pos) : ∀ {es : List PySem.Expr}, es.all plainE = true → (backTo pos (starEach es env)).any (·.1) = false
  | [], _ => rfl
  | e :: rest, h => by
    rw [List.all_cons, Bool.and_eq_true] at h
    rw [star_plain h.1]
    show (false || (backTo pos (starEach rest env)).any (·.1)) = false
    rw [any_star pos h.2]; rfl

/-- the values of a list of expressions -/
def Vals (k : Nat) (Q : List AV → Store → Prop) : Heap → List Value → Store → Prop := fun h vs W => ∃ ds, VRs h vs ds ∧ ds.length = k ∧ Q ds W
/-- what is asked of a list of expressions -/
structure LOk (P : Px) (n : Nat) (env : Env) (sc : Names) (m : Vars) (X : Store → Prop) (es : List PySem.Expr) (l : Store → (List AV → Store → Prop) → Prop) : Prop where
  plain : es.all plainE = true
  none : es = [] → ∀ (W : Store) (Q : List AV → Store → Prop), l W Q → Q [] W
  ok : ∀ (pos : Pos) (W : Store) (Q : List AV → Store → Prop), l W Q → EV P n env sc m W (spliced (backTo pos (starEach es env))) (Vals es.length Q) X
theorem LOk.nil : LOk P n env sc m X [] fun W Q => Q [] W :=
  ⟨rfl, fun _ _ _ h => h, fun _ W Q hq A H s Fs r fr fi eo S L _ => wpAny_pure ⟨W, s.heap, s.toks, rfl, S, L, .refl _, [], .nil, rfl, hq⟩⟩
theorem LOk.cons {e : PySem.Expr} {rest : List PySem.Expr} {f : Store → (AV → Store → Prop) → Prop} {l : Store → (List AV → Store → Prop) → Prop} (hp : plainE e = true) (hf : ∀ W Q, f W Q → EV P n env sc m W (eval e env) (Val Q) X) (hl : LOk P n env sc m X rest l) :
    LOk P n env sc m X (e :: rest) fun W Q => f W fun v W₁ => l W₁ fun vs W₂ => Q (v :: vs) W₂ :=
  ⟨by rw [List.all_cons, hp, hl.plain]; rfl, fun h => (by cases h), fun pos W Q hq A H s Fs r fr fi eo S L _ => by
    rw [star_plain hp]
    show wpAny _ A (spliced ((false, eval e env) :: backTo pos (starEach rest env))) _ _ s
    have red : spliced ((false, eval e env) :: backTo pos (starEach rest env)) = (do
      let v ← eval e env
      let here ← pure [v]
      return here ++ (← holding here (spliced (backTo pos (starEach rest env))))) := rfl
    rw [red]
    refine wpAny_bind ((hf W _ hq).go r fr fi eo S L trivial (fun _ _ x => x) fun v W₁ h₁ tk₁ S₁ L₁ i₁ ⟨d, xd, q₁⟩ => ?_)
    refine wpAny_bind (wpAny_pure (wpAny_bind (wpAny_holding ?_)))
    refine (hl.ok pos W₁ _ q₁).go (s := { s with heap := h₁, toks := tk₁ }) r fr fi eo S₁ L₁ trivial (fun _ _ x => x.from rfl i₁) fun vs W₂ h₂ tk₂ S₂ L₂ i₂ ⟨ds, xs, el, q₂⟩ => ?_
    exact wpAny_pure ⟨W₂, h₂, tk₂, rfl, S₂, L₂, i₁.trans i₂, d :: ds, .cons (xd.imm i₂) xs, by rw [List.length_cons, List.length_cons, el], q₂⟩⟩

/-- what is called stays callable -/
def KeepOk (P : Px) (v : Value) : Prop := match v with
  | .ref a => keepIn P.K (.ref a) = true
  | _ => True
theorem keeps_any (ok : PxOk P) {v : Value} (hv : KeepOk P v) (h : Heap) (k : ∀ a o, P.h₀.get? a = some o → h.get? a = some o) : ∃ kk, (kk = Keeper.frame ∨ kk = Keeper.machine ∨ kk = Keeper.boundFrame) ∧ Looks (model P.prog P.w) h (keeperOf v) kk := by
  cases v with
  | ref a => exact keeps_K hv h (Frag.In.keeps ok.inK k)
  | _ => exact ⟨.machine, .inr (.inl rfl), Looks.of_pure rfl⟩

theorem args_sound {l : Store → (List AV → Store → Prop) → Prop} (pos : Pos) (vf : Value) {es : List PySem.Expr} (hl : LOk P n env sc m X es l) {Q : List AV → Store → Prop}
    (hq : l W Q) : EV P n env sc m W (evalArgs vf true (backTo pos (starEach es env)) []) (fun h a W' => ∃ vs ds, a = ⟨vs, []⟩ ∧ VRs h vs ds ∧ Q ds W') X := by
  intro A H s Fs r fr fi eo S L _
  cases es with
  | nil => exact evalArgs_nil3 ⟨W, s.heap, s.toks, rfl, S, L, .refl _, [], [], rfl, .nil, hl.none rfl W Q hq⟩
  | cons e rest =>
    have h := hl.ok pos W Q hq A H s Fs r fr fi eo S L trivial
    have hp := hl.plain
    rw [List.all_cons, Bool.and_eq_true] at hp
    rw [star_plain hp.1] at h ⊢
    exact evalArgs_plain (wpAny_mono h (fun vs s' ⟨W', h', tk', e, S', L', i, ds, x, _, q⟩ => ⟨W', h', tk', e, S', L', i, vs, ds, rfl, x, q⟩) fun _ _ x => x)

/-- a call: the arguments, then what is called -/
theorem callWith_sound (ok : PxOk P) {l : Store → (List AV → Store → Prop) → Prop} (pos : Pos) {vf : Value} {first : List Value} {es : List PySem.Expr} (hl : LOk P n env sc m X es l) {Q₁ : List AV → Store → Prop} {Q : AV → Store → Prop}
    (hk : KeepOk P vf) (hq : l W Q₁)
    (hc : ∀ ds W₁ vs, Q₁ ds W₁ → EV P n env sc m W₁ (call vf (first ++ vs)) (Val Q) X fun h => VRs h vs ds) :
    EV P n env sc m W (callWith pos vf first (backTo pos (starEach es env)) []) (Val Q) X := by
  intro A H s Fs r fr fi eo S L _
  refine callWith_of (P := fun h => ∀ a o, P.h₀.get? a = some o → h.get? a = some o) (by rw [any_star pos hl.plain]; rfl) (fun h k => keeps_any ok hk h k) ?_
  refine (args_sound pos vf hl hq).go r fr fi eo S L trivial (fun _ _ x => x) fun a W₁ h₁ tk₁ S₁ L₁ i₁ ⟨vs, ds, e, xs, q⟩ => ?_
  subst e
  refine ⟨S₁.keep, ?_⟩
  refine (hc ds W₁ vs q).go (s := { s with heap := h₁, toks := tk₁ }) r fr fi eo S₁ L₁ xs (fun _ _ x => x.from rfl i₁) fun v W₂ h₂ tk₂ S₂ L₂ i₂ ⟨d, x, q⟩ => ?_
  exact ⟨W₂, h₂, tk₂, rfl, S₂, L₂, i₁.trans i₂, d, x, q⟩

theorem fnKeep {K : Frag} {f : Addr} (h : fnIn K f = true) : keepIn K (.ref f) = true := by
  unfold fnIn at h
  unfold keepIn
  split at h
  · rename_i e; simp only [e]
  · cases h
theorem methAt_sound (ok : PxOk P) {l : Store → (List AV → Store → Prop) → Prop} (o : PySem.Expr) (apos pos : Pos) {es : List PySem.Expr} (hl : LOk P n env sc m X es l) (hlen : es.length < 30)
    (hline : (apos.endLine == pos.line) = true) {k : Nat} (hkn : k ≤ n) (a : AV) (x : Str) {Q : AV → Store → Prop} (hq : methAt P k a x l W Q X) (ov : Value) :
    EV P n env sc m W (methodCall o x apos pos env ov (es.length + 0) (backTo pos (starEach es env)) []) (Val Q) X fun h => VR h ov a := by
  intro A H s Fs r fr fi eo S L xa
  have hform : methodCallForm (es.length + 0) (backTo pos (starEach es env)) [] = true := by
    unfold methodCallForm
    have q := any_star (env := env) pos hl.plain
    have : (backTo pos (starEach es env)).all (fun t => !t.1) = true := by
      rw [List.all_eq_true]
      intro t ht
      rw [List.any_eq_false] at q
      simpa using q t ht
    simp only [this, List.all_nil, Bool.and_self, List.isEmpty_nil, if_true, Bool.true_and]
    exact decide_eq_true (by omega)
  unfold methodCall
  rw [hform]
  have pos1 : methodCallPos true o env apos pos = pure pos := by
    unfold methodCallPos
    rw [hline]; rfl
  have fin : ∀ (vf : Value) (Q₁ : List AV → Store → Prop), KeepOk P vf → l W Q₁ → (∀ ds W₁ vs, Q₁ ds W₁ → EV P n env sc m W₁ (call vf ([ov] ++ vs)) (Val Q) X fun h => VRs h vs ds) →
      (∀ (Q' : Value × List Value → Shared → Prop) E pl, Q' (vf, [ov]) s → wpAny (model P.prog P.w) A (getMethod ov x pl) Q' E s) →
      wpAny (model P.prog P.w) A (do
        let (g, first) ← holding [ov] (calleeOf true o env ov x)
        let callPos ← methodCallPos true o env apos pos
        callWith callPos g first (backTo pos (starEach es env)) []) (EVp P env sc H m s (Val Q)) (XPp P env sc H s fun m' W' => m' = m ∧ X W') s := fun vf Q₁ hk hv hc hm => by
    refine wpAny_bind (wpAny_holding (hm _ _ _ ?_))
    rw [pos1]
    exact wpAny_bind (wpAny_pure (callWith_sound ok pos hl hk hv hc A H s Fs r fr fi eo S L trivial))
  cases a <;> first | exact hq.elim | skip
  cases xa
  rename_i a
  rcases hq with ⟨rfl, ⟨l, h1⟩, hq⟩ | ⟨rfl, ⟨l, h1⟩, hq⟩ | ⟨rfl, ⟨l, h1⟩, hq⟩ | ⟨C, d, l, g, h1, h2, hC, hM, hsh, hq⟩
  · refine cps fun kk => ?_
    obtain ⟨nn, us, e, rr⟩ := (S.cell _ _ h1).2
    refine kk ?_
    clear kk
    refine fin (.builtin "list.append") _ trivial hq (fun ds W₁ vs q => appOk_sound a ds q vs) fun Q' E pl hQ' => getMethod_list_append e rfl rfl hQ'
  · refine cps fun kk => ?_
    obtain ⟨nn, us, e, rr⟩ := (S.cell _ _ h1).2
    refine kk ?_
    clear kk
    refine fin (.builtin "list.reverse") _ trivial hq (fun ds W₁ vs q => revOk_sound a ds q vs) fun Q' E pl hQ' => getMethod_list_of PySem.F.slot_list_reverse PySem.F.type_list_reverse ⟨_, e, rfl, _, rfl⟩ ⟨_, e, rfl⟩ hQ'
  · refine cps fun kk => ?_
    obtain ⟨kvs, d', e1, e2⟩ := (S.cell _ _ h1).2
    refine kk ?_
    clear kk
    have d := d'.dictOf
    refine fin (.builtin "dict.get") _ trivial hq (fun ds W₁ vs q => getOk_sound ok a ds q vs) fun Q' E pl hQ' => getMethod_builtin d.typeIs PySem.F.plainAttrs_dict PySem.F.slot_dict_get PySem.F.type_dict_get d.mapOf.noDict hQ'
  · refine cps fun kk => ?_
    obtain ⟨es', k', I, ar, hz, hd⟩ := inst_at S h1 h2
    refine kk ?_
    clear kk
    refine fin (.ref g) _ (fnKeep hM.2.1) hq (fun ds W₁ vs q => ?_) fun Q' E pl hQ' => method_fn (Frag.In.keeps ok.inK S.keep) I hC.getattribute hC.getattr hM.1 ?_ ?_ hQ'
    · intro A' H' s' Fs' r' fr' fi' eo' S' L' xs'
      exact (callOk_sound q (.ref a :: vs)).less hkn A' H' s' Fs' r' fr' fi' eo' S' L' (.cons (.ref a) xs')
    · exact beq_iff_eq.mp hM.2.2
    · show (lookIn x (dictOf es' k')).map (·.isSome) = some false
      rw [lookIn_dict, (arel_get ar).2 hsh]; rfl
end

/-- an iterator at work -/
structure Itr (P : Px) (items : List AV) (ok : Store → Prop) (I : Addr) (It : Nat → Heap → Prop) : Prop where
  there : ∀ i h, It i h → ∃ o vs, h.get? I = some o ∧ o.data = .fields vs ∧ ¬ Im o
  keep : ∀ i h h', It i h → (∀ o, h.get? I = some o → h'.get? I = some o) → Imm h h' → It i h'
  item : ∀ (A : Around) (H : Hid) (W : Store) (s : Shared) (Q : Option Value → Shared → Prop) (E : Value → Shared → Prop) i d, A.handled = none → items[i]? = some d → It i s.heap → St P H W s.heap → ok W →
    (∀ v h' tk, VR s.heap v d → It (i + 1) h' → (∀ b o, b ≠ I → s.heap.get? b = some o → h'.get? b = some o) → Q (some v) { s with heap := h', toks := tk }) → wpAny (model P.prog P.w) A (pyNext (.ref I)) Q E s
  done : ∀ (A : Around) (H : Hid) (W : Store) (s : Shared) (Q : Option Value → Shared → Prop) (E : Value → Shared → Prop), A.handled = none → It items.length s.heap → St P H W s.heap → ok W →
    (∀ h' tk, (∀ b o, b ≠ I → s.heap.get? b = some o → h'.get? b = some o) → Q none { s with heap := h', toks := tk }) → wpAny (model P.prog P.w) A (pyNext (.ref I)) Q E s
  self : ∀ (A : Around) (s : Shared) (Q : Value → Shared → Prop) (E : Value → Shared → Prop) i, It i s.heap → Q (.ref I) s → wpAny (model P.prog P.w) A (pyIter (.ref I)) Q E s
  letGo : ∀ (A : Around) (s : Shared) (Q : Unit → Shared → Prop) (E : Value → Shared → Prop) i target v, It i s.heap → Q () s → wpAny (model P.prog P.w) A (letOwnedTupleGo target (.ref I) v) Q E s

section
variable {P : Px} {H : Hid} {W : Store} {h h' : Heap}
theorem letGo_listiter {prog : Program} {w : World} {A : Around} {E : Value → Shared → Prop} {target : PySem.Expr} {I d : Addr} {i : Nat} {v : Value} {Q' : Unit → Shared → Prop} {s' : Shared} (hit : s'.heap.IsListIter I d i) (h : Q' () s') :
    wpAny (model prog w) A (letOwnedTupleGo target (.ref I) v) Q' E s' := by
  obtain ⟨o, ho, hc, hd⟩ := hit
  unfold letOwnedTupleGo
  cases target <;> first
    | exact wpAny_pure h
    | (cases v <;> first
        | exact wpAny_pure h
        | (refine wpAny_bind (wpAny_load ho ?_)
           rw [hc, hd]
           exact wpAny_pure h))
theorem letGo_rangeiter {prog : Program} {w : World} {A : Around} {E : Value → Shared → Prop} {target : PySem.Expr} {I : Addr} {x l c : Int} {v : Value} {Q' : Unit → Shared → Prop} {s' : Shared} (hit : IsRangeIter s'.heap I x l c) (h : Q' () s') :
    wpAny (model prog w) A (letOwnedTupleGo target (.ref I) v) Q' E s' := by
  unfold letOwnedTupleGo
  cases target <;> first
    | exact wpAny_pure h
    | (cases v <;> first
        | exact wpAny_pure h
        | (refine wpAny_bind (wpAny_load hit ?_)
           exact wpAny_pure h))

theorem itr_list {l : List AV} {I a : Addr} (hne : a ≠ I) (hz : l.length ≤ 1000) : Itr P l (fun W' => W' a = some (.list l)) I (fun i h => h.IsListIter I a i) where
  there := fun i h ⟨o, e, c, d⟩ => ⟨o, _, e, d, by simp [Im, c]⟩
  keep := fun i h h' ⟨o, e, r⟩ k _ => ⟨o, k o e, r⟩
  item := fun A H W s Q E i d hh hi it S ok hQ => by
    obtain ⟨nn, vs, e, rr⟩ := (S.cell _ _ ok).2
    obtain ⟨v, ev, xv⟩ := rr.get hi
    exact wpAny_pyNext_list_item it (items := vs.toArray) ⟨_, e, rfl, _, rfl⟩ (by simpa using ev) fun h' it' hs => hQ v h' s.toks xv it' fun b o q e => hs.extBut b o q e
  done := fun A H W s Q E hh it S ok hQ => by
    obtain ⟨nn, vs, e, rr⟩ := (S.cell _ _ ok).2
    have hl := rr.length
    exact wpAny_pyNext_list_end hh it (items := vs.toArray) ⟨_, e, rfl, _, rfl⟩ (by simp [hl]) fun h' he => hQ h' s.toks fun b o q e => he b o q e
  self := fun A s Q E i it hQ => wpAny_pyIter_listiter it hQ
  letGo := fun A s Q E i t v it hQ => letGo_listiter it hQ

theorem itr_tup {l : List AV} {I a : Addr} {vs : List Value} (hne : a ≠ I) : Itr P l (fun _ => True) I (fun i h => h.IsTupleIter I a i ∧ IsTup h a vs.toArray ∧ VRs h vs l) where
  there := fun i h ⟨⟨o, e, c, d⟩, _⟩ => ⟨o, _, e, d, by simp [Im, c]⟩
  keep := fun i h h' ⟨⟨o, e, r⟩, t, x⟩ k im => ⟨⟨o, k o e, r⟩, IsTup.imm im t, x.imm im⟩
  item := fun A H W s Q E i d hh hi ⟨it, t, x⟩ S ok hQ => by
    obtain ⟨v, ev, xv⟩ := x.get hi
    refine wpAny_pyNext_tuple_item it t (by simpa using ev) fun h' it' hs => hQ v h' s.toks xv ⟨it', ?_⟩ fun b o q e => hs.extBut b o q e
    have im : Imm s.heap h' := fun b o e z => hs.extBut b o (fun q => by
      obtain ⟨o', e', c, d⟩ := it
      rw [q, e'] at e; cases e
      rcases z with ⟨z, _⟩ | ⟨z, _⟩ <;> (rw [c] at z; simp at z)) e
    exact ⟨IsTup.imm im t, x.imm im⟩
  done := fun A H W s Q E hh ⟨it, t, x⟩ S ok hQ => by
    have hl := x.length
    exact wpAny_pyNext_tuple_end hh it t (by simp [hl]) fun h' he => hQ h' s.toks fun b o q e => he b o q e
  self := fun A s Q E i it hQ => wpAny_pyIter_tupleiter it.1 hQ
  letGo := fun A s Q E i t v it hQ => letGo_tupleiter it.1 hQ

theorem itr_rng {I : Addr} {lo : Int} {k : Nat} : Itr P ((List.range k).map fun (i : Nat) => AV.int (lo + i)) (fun _ => True) I (fun i h => IsRangeIter h I (lo + (i : Nat) * 1) ((k : Int) - (i : Nat)) 1) where
  there := fun i h e => ⟨_, _, e, rfl, by simp [Im]⟩
  keep := fun i h h' e kk _ => kk _ e
  item := fun A H W s Q E i d hh hi it S ok hQ => by
    rw [List.getElem?_map] at hi
    have hlt : i < k := by
      rcases Nat.lt_or_ge i k with q | q
      · exact q
      · rw [List.getElem?_eq_none (by simpa using q)] at hi; cases hi
    rw [List.getElem?_range hlt] at hi
    cases hi
    refine wpAny_pyNext_range_item it (by omega) fun h' it' hs => hQ _ h' _ (by rw [Int.mul_one]; exact .int _ _) ?_ fun b o q e => hs.extBut b o q e
    have e1 : lo + ((i + 1 : Nat) : Int) * 1 = lo + (i : Int) * 1 + 1 := by push_cast; omega
    have e2 : (k : Int) - ((i + 1 : Nat) : Int) = (k : Int) - (i : Int) - 1 := by push_cast; omega
    rw [e1, e2]; exact it'
  done := fun A H W s Q E hh it S ok hQ => by
    simp only [List.length_map, List.length_range] at it
    exact wpAny_pyNext_range_end hh it (by omega) fun h' he => hQ h' s.toks fun b o q e => he b o q e
  self := fun A s Q E i it hQ => wpAny_pyIter_rangeiter it hQ
  letGo := fun A s Q E i t v it hQ => letGo_rangeiter it hQ

theorem itr_dict {l : List (Int × AV)} {I a : Addr} (hne : a ≠ I) : Itr P (ivs (l.map (·.1))) (fun W' => W' a = some (.dict l)) I (fun i h => h.IsKeyIter I a i l.length l.length) where
  there := fun i h ⟨o, e, c, d⟩ => ⟨o, _, e, d, by simp [Im, c]⟩
  keep := fun i h h' ⟨o, e, r⟩ k _ => ⟨o, k o e, r⟩
  item := fun A H W s Q E i d hh hi it S ok hQ => by
    obtain ⟨kvs, dd, e1, e2⟩ := (S.cell _ _ ok).2
    have hl : kvs.length = l.length := by rw [← List.length_map (f := (·.1)), e1, List.length_map]
    rw [← hl] at dd
    rw [show ivs (l.map (·.1)) = ivs (kvs.map (·.1)) by rw [e1], ivs, List.getElem?_map, List.getElem?_map] at hi
    cases q : kvs[i]? with
    | none => rw [q] at hi; cases hi
    | some kv =>
      rw [q] at hi; cases hi
      refine wpAny_pyNext_dict_item (k := kv.1) (v := kv.2) (kvs := kvs) (ep := kvs.length) (by rw [hl]; exact it) dd q fun key h' hk it' hs => ?_
      obtain ⟨t, rfl⟩ := Value.isInt_shape (show Value.isInt kv.1 key = true from hk)
      exact hQ _ h' s.toks (.int _ _) (by rw [hl] at it'; exact it') fun b o q e => hs.extBut b o q e
  done := fun A H W s Q E hh it S ok hQ => by
    obtain ⟨kvs, dd, e1, e2⟩ := (S.cell _ _ ok).2
    have hl : kvs.length = l.length := by rw [← List.length_map (f := (·.1)), e1, List.length_map]
    rw [← hl] at dd
    refine wpAny_pyNext_dict_end hh (kvs := kvs) (ep := kvs.length) (i := (ivs (l.map (·.1))).length) (by rw [hl]; exact it) dd (by simp [ivs, hl]) fun h' he => hQ h' s.toks fun b o q e => he b o q e
  self := fun A s Q E i it hQ => wpAny_pyIter_keyiter it hQ
  letGo := fun A s Q E i t v it hQ => letGo_keyiter it hQ

theorem iter_src (ok : PxOk P) {src : AV} {items : List AV} {okk : Store → Prop} (hs : Src W src items okk) {A : Around} {s : Shared} {Q : Value → Shared → Prop} {E : Value → Shared → Prop} {va : Value} (hh : A.handled = none) (S : St P H W s.heap) (xa : VR s.heap va src)
    (hQ : ∀ (o : Obj) It, Itr P items okk s.heap.objs.size It → It 0 (s.heap.push o) → Q (.ref s.heap.objs.size) { s with heap := s.heap.push o }) : wpAny (model P.prog P.w) A (pyIter va) Q E s := by
  cases hs with
  | tup l hz =>
    cases xa with
    | tup ta ra =>
      rename_i a vs
      have hne : a ≠ s.heap.objs.size := by
        obtain ⟨o, e, _⟩ := ta
        exact Nat.ne_of_lt (Heap.lt_size e)
      refine wpAny_pyIter_tuple ta (hQ _ _ (itr_tup (vs := vs) hne) ⟨⟨_, Heap.get?_push_size _ rfl, rfl, rfl⟩, ?_⟩)
      have im : ∀ o : Obj, Imm s.heap (s.heap.push o) := fun o => Imm.of_keeps fun b o' e => Heap.get?_push_of_some _ e
      exact ⟨IsTup.imm (im _) ta, ra.imm (im _)⟩
  | rng lo k h0 hk hlo =>
    cases xa with
    | rng hr =>
      refine wpAny_pyIter_range hr (small_one (by omega) (by omega) (by omega) (by omega)) (hQ _ _ (itr_rng (lo := lo) (k := k)) ?_)
      have e1 : Builtin.Range.rangeSize lo (lo + k) 1 = (k : Int) := by rw [rangeSize_nat]; omega
      rw [e1]
      have := Heap.get?_push_size s.heap (o := { cls := .type "range_iterator", data := .fields #[rawInt lo, rawInt (k : Int), rawInt 1] }) rfl
      simpa [IsRangeIter] using this
  | list a l hW hz =>
    cases xa
    obtain ⟨nn, vs, e, rr⟩ := (S.cell _ _ hW).2
    have hne : a ≠ s.heap.objs.size := Nat.ne_of_lt (Heap.lt_size e)
    exact wpAny_pyIter_list ⟨_, e, rfl, _, rfl⟩ (hQ _ _ (itr_list hne hz) ⟨_, Heap.get?_push_size _ rfl, rfl, rfl⟩)
  | dict a l hW hn hz =>
    cases xa
    obtain ⟨kvs, dd, e1, e2⟩ := (S.cell _ _ hW).2
    have hl : kvs.length = l.length := by rw [← List.length_map (f := (·.1)), e1, List.length_map]
    have hne : a ≠ s.heap.objs.size := Nat.ne_of_lt dd.lt_size
    refine wpAny_pyIter_dict (notSys ok S hW) dd (hQ _ _ (itr_dict hne) ?_)
    rw [hl]
    exact ⟨_, Heap.get?_push_size _ rfl, rfl, rfl⟩
end

/-! ### a block inside a block: the names of a comprehension -/
def closeL (env : Env) : List (Str × NameKind) → List (Str × Addr) → List (Str × Addr)
  | [], acc => acc
  | (x, k) :: r, acc => if k == .free then closeL env r ((x, (env.cells.lookup x).getD 0) :: acc) else closeL env r acc

theorem closure_for (env : Env) : ∀ (names : List (Str × NameKind)) (acc : List (Str × Addr)), (∀ p ∈ names, p.2 = .free → ∃ c, env.cells.lookup p.1 = some c) →
    (forIn names acc (fun (p : Str × NameKind) (cs : List (Str × Addr)) => (if (p.2 == .free) = true then do let c ← cellOf env p.1; pure (ForInStep.yield ((p.1, c) :: cs)) else pure (ForInStep.yield cs) : Sem (ForInStep (List (Str × Addr)))))) = (pure (closeL env names acc) : Sem _)
  | [], acc, _ => rfl
  | (x, k) :: r, acc, h => by
    rw [List.forIn_cons]
    by_cases hk : (k == .free) = true
    · obtain ⟨c, hc⟩ := h (x, k) (.head _) (by simpa using hk)
      have e : cellOf env x = pure c := by unfold cellOf; simp only at hc; rw [hc]
      simp only [hk, if_true, e, closeL]
      rw [show (env.cells.lookup x).getD 0 = c by simp only at hc; rw [hc]; rfl]
      exact closure_for env r _ fun p hp => h p (.tail _ hp)
    · simp only [hk, if_false, closeL]
      exact closure_for env r _ fun p hp => h p (.tail _ hp)
theorem closure_is {scope : Scope} {env : Env} (h : ∀ p ∈ scope.names, p.2 = .free → ∃ c, env.cells.lookup p.1 = some c) : closureFor scope env = pure (closeL env scope.names []) := by
  have := closure_for env scope.names [] h
  unfold closureFor
  show (forIn scope.names [] _ >>= fun r => pure r) = _
  rw [show (forIn scope.names [] _ : Sem (List (Str × Addr))) = _ from this]
  rfl
theorem closeL_mem {env : Env} {x : Str} {c : Addr} : ∀ {names : List (Str × NameKind)} {acc : List (Str × Addr)}, (x, c) ∈ closeL env names acc → (x, c) ∈ acc ∨ ((x, .free) ∈ names ∧ c = (env.cells.lookup x).getD 0)
  | [], acc, h => .inl h
  | (y, k) :: r, acc, h => by
    unfold closeL at h
    split at h
    · rename_i hk
      rcases closeL_mem h with q | ⟨q, e⟩
      · rcases List.mem_cons.mp q with q | q
        · cases q; exact .inr ⟨by rw [show k = .free by simpa using hk]; exact .head _, rfl⟩
        · exact .inl q
      · exact .inr ⟨.tail _ q, e⟩
    · rcases closeL_mem h with q | ⟨q, e⟩
      · exact .inl q
      · exact .inr ⟨.tail _ q, e⟩
theorem closeL_acc {env : Env} {p : Str × Addr} : ∀ {names : List (Str × NameKind)} {acc : List (Str × Addr)}, p ∈ acc → p ∈ closeL env names acc
  | [], _, h => h
  | (y, k) :: r, acc, h => by
    unfold closeL
    split
    · exact closeL_acc (.tail _ h)
    · exact closeL_acc h
theorem closeL_has {env : Env} {x : Str} : ∀ {names : List (Str × NameKind)} {acc : List (Str × Addr)}, (x, .free) ∈ names → ∃ c, (x, c) ∈ closeL env names acc
  | (y, k) :: r, acc, h => by
    unfold closeL
    rcases List.mem_cons.mp h with q | q
    · cases q
      exact ⟨_, closeL_acc (.head _)⟩
    · split <;> exact closeL_has q
theorem distinct_cons {x : Str} {r : List Str} (h : distinct (x :: r) = true) : x ∉ r ∧ distinct r = true := by
  simp only [distinct, Bool.and_eq_true, Bool.not_eq_true'] at h
  refine ⟨fun q => ?_, h.2⟩
  have := List.contains_iff_mem.mpr q
  rw [h.1] at this; cases this
theorem closeL_apart {env : Env} : ∀ {names : List (Str × NameKind)} {acc : List (Str × Addr)}, distinct (names.map (·.1)) = true → (acc.Pairwise fun p q => p.1 ≠ q.1) → (∀ p ∈ acc, p.1 ∉ names.map (·.1)) →
    (closeL env names acc).Pairwise fun p q => p.1 ≠ q.1
  | [], acc, _, h, _ => h
  | (y, k) :: r, acc, hd, h, hn => by
    obtain ⟨h1, h2⟩ := distinct_cons (x := y) (r := r.map (·.1)) (by simpa using hd)
    have hn' : ∀ p ∈ acc, p.1 ∉ r.map (·.1) := fun p hp q => hn p hp (.tail _ q)
    unfold closeL
    split
    · refine closeL_apart h2 (List.pairwise_cons.mpr ⟨fun q hq e => hn q hq (by rw [← e]; exact .head _), h⟩) fun p hp => ?_
      rcases List.mem_cons.mp hp with rfl | hp
      · exact h1
      · exact hn' p hp
    · exact closeL_apart h2 h hn'
theorem lookup_of_mem {α : Type} {x : Str} : ∀ {l : List (Str × α)} {c : α}, (x, c) ∈ l → ∃ c', l.lookup x = some c'
  | (y, b) :: r, c, h => by
    rw [List.lookup_cons]
    by_cases e : x = y
    · subst e; exact ⟨b, by simp⟩
    · rw [beq_eq_false_iff_ne.mpr e]
      rcases List.mem_cons.mp h with q | q
      · cases q; exact (e rfl).elim
      · exact lookup_of_mem q

theorem lookup_relabel {env : Env} {x : Str} {k : NameKind} (hk : k ≠ .free) : ∀ {names : List (Str × NameKind)}, names.lookup x = some k →
    (names.map fun (n, k) => if (k == NameKind.free && env.scope.kind == .function && env.kindOf n == some .cell) then (n, NameKind.cell) else (n, k)).lookup x = some k
  | [], h => by simp at h
  | (n, j) :: r, h => by
    have ih := @lookup_relabel env x k hk r
    show List.lookup x ((if (j == NameKind.free && env.scope.kind == .function && env.kindOf n == some .cell) = true then (n, NameKind.cell) else (n, j)) :: _) = _
    rw [List.lookup_cons] at h
    cases hx : x == n with
    | true =>
      rw [hx] at h; cases h
      have : (k == NameKind.free) = false := by simpa using hk
      simp [List.lookup_cons, hx, this]
    | false =>
      rw [hx] at h
      split <;> (simp only [List.lookup_cons, hx]; exact ih h)
theorem lookup_relabel_free {env : Env} {x : Str} : ∀ {names : List (Str × NameKind)}, names.lookup x = some .free →
    (names.map fun (n, k) => if (k == NameKind.free && env.scope.kind == .function && env.kindOf n == some .cell) then (n, NameKind.cell) else (n, k)).lookup x = some .cell ∨
    (names.map fun (n, k) => if (k == NameKind.free && env.scope.kind == .function && env.kindOf n == some .cell) then (n, NameKind.cell) else (n, k)).lookup x = some .free
  | [], h => by simp at h
  | (n, j) :: r, h => by
    have ih := @lookup_relabel_free env x r
    show List.lookup x ((if (j == NameKind.free && env.scope.kind == .function && env.kindOf n == some .cell) = true then (n, NameKind.cell) else (n, j)) :: _) = _ ∨ List.lookup x ((if (j == NameKind.free && env.scope.kind == .function && env.kindOf n == some .cell) = true then (n, NameKind.cell) else (n, j)) :: _) = _
    rw [List.lookup_cons] at h
    cases hx : x == n with
    | true =>
      rw [hx] at h; cases h
      split
      · exact .inl (by simp [List.lookup_cons, hx])
      · exact .inr (by simp [List.lookup_cons, hx])
    | false =>
      rw [hx] at h
      split <;> (simp only [List.lookup_cons, hx]; exact ih h)

open Classical in
noncomputable def nestH (env : Env) (cl : List (Str × Addr)) (xs : Addr → Prop) (h : Heap) (H : Hid) : Hid :=
  fun a => if ∃ x, (x, a) ∈ cl then none else if Own env a ∨ xs a then h.get? a else H a

structure NestOk (env : Env) (sc : Names) (scope : Scope) (cl : List (Str × Addr)) : Prop where
  kind : scope.kind = .function
  nocell : ∀ p ∈ scope.names, p.2 ≠ .cell
  free : ∀ p ∈ scope.names, p.2 = .free → sc.lookup p.1 = some .cell ∨ sc.lookup p.1 = some .free
  dist : distinct (scope.names.map (·.1)) = true
  cl : cl = closeL env scope.names []

section
variable {P : Px} {env : Env} {sc : Names} {H : Hid} {W : Store} {h h' : Heap} {m m' : Vars} {scope : Scope} {cl : List (Str × Addr)} {C : Addr} {xs : Addr → Prop}

theorem NestOk.sub (N : NestOk env sc scope cl) (L : Loc P env sc H W h m) {x : Str} {c : Addr} (hm : (x, c) ∈ cl) : env.cells.lookup x = some c ∧ (x, .free) ∈ scope.names := by
  rw [N.cl] at hm
  rcases closeL_mem hm with q | ⟨q, e⟩
  · cases q
  · obtain ⟨c', vo, e', _⟩ := L.cells x (N.free _ q rfl)
    exact ⟨by rw [e, e']; rfl, q⟩
theorem NestOk.has (N : NestOk env sc scope cl) (L : Loc P env sc H W h m) {x : Str} (hx : (x, .free) ∈ scope.names) : ∃ c, cl.lookup x = some c ∧ env.cells.lookup x = some c := by
  obtain ⟨c, hc⟩ := closeL_has (env := env) (acc := []) hx
  rw [← N.cl] at hc
  obtain ⟨c', e⟩ := lookup_of_mem hc
  exact ⟨c', e, (N.sub L (lookup_mem e)).1⟩
theorem NestOk.closure (N : NestOk env sc scope cl) (L : Loc P env sc H W h m) : closureFor scope env = pure cl := by
  rw [N.cl]
  exact closure_is fun p hp hk => by obtain ⟨c, _, e, _⟩ := L.cells p.1 (N.free p hp hk); exact ⟨c, e⟩
theorem NestOk.toEnv (N : NestOk env sc scope cl) (eo : EnvOk env sc) : EnvOk (compEnvC scope cl C env) scope.names where
  kind := N.kind
  glb := eo.glb
  blt := eo.blt
  loc := fun x q => lookup_relabel (by decide) q
  cel := fun x q => lookup_relabel (by decide) q
  fre := fun x q => lookup_relabel_free q
  gi := fun x q => lookup_relabel (by decide) q

/-- into the block -/
theorem nest_in (N : NestOk env sc scope cl) (S : St P H W h) (L : Loc P env sc H W h m) (hC : Free P H W (Own env) C) (hCz : P.h₀.objs.size ≤ C) (hCx : ¬ xs C) {mm : Str → Option Value} (hn : h.Ns C mm)
    (hx : ∀ a, xs a → Free P H W (Own env) a ∧ ∃ o, h.get? a = some o)
    (hl : ∀ x av, look m' x = some av → scope.names.lookup x = some .local → ∃ v, mm x = some v ∧ VR h v av) (hf : ∀ x, scope.names.lookup x = some .free → look m' x = look m x) :
    St P (nestH env cl xs h H) W h ∧ Loc P (compEnvC scope cl C env) scope.names (nestH env cl xs h H) W h m' := by
  have sub : ∀ {x c}, (x, c) ∈ cl → Own env c := fun hm => .inr ⟨_, lookup_mem (N.sub L hm).1⟩
  have Cn : C ∉ cl.map (·.2) := fun q => by
    obtain ⟨⟨x, c⟩, hp, e⟩ := List.mem_map.mp q
    simp only at e; subst e
    exact hC.2.2.2 (sub hp)
  refine ⟨⟨S.size, S.keep, S.cell, fun a o e => ?_⟩, ⟨fun a ha => ?_, ⟨mm, hn, hl⟩, fun x q => ?_, fun x c hm => ?_, ?_⟩⟩
  · unfold nestH at e
    split at e
    · cases e
    · split at e
      · rename_i q
        rcases q with q | q
        · exact ⟨fresh_ge (L.own a q).1, (L.own a q).2.2, o, e, .refl o⟩
        · exact ⟨(hx a q).1.1, (hx a q).1.2.2.1, o, e, .refl o⟩
      · exact S.hid a o e
  · rcases ha with ha | ⟨x, hm⟩
    · have ha : a = C := ha
      subst ha
      refine ⟨hCz, ?_, hC.2.2.1⟩
      unfold nestH
      rw [if_neg (fun ⟨x, hm⟩ => Cn (List.mem_map.mpr ⟨_, hm, rfl⟩)), if_neg (fun q => q.elim hC.2.2.2 hCx)]
      exact hC.2.1
    · have hm : (x, a) ∈ cl := hm
      refine ⟨(L.own a (sub hm)).1, ?_, (L.own a (sub hm)).2.2⟩
      unfold nestH
      rw [if_pos ⟨x, hm⟩]
  · have hfree : scope.names.lookup x = some .free := by
      rcases q with q | q
      · exact (N.nocell _ (lookup_mem q) rfl).elim
      · exact q
    obtain ⟨c, e1, e2⟩ := N.has L (lookup_mem hfree)
    obtain ⟨c', vo, e3, z, y⟩ := L.cells x (N.free _ (lookup_mem hfree) rfl)
    rw [e2] at e3; cases e3
    exact ⟨c, vo, e1, z, fun av ea => y av (by rw [← hf x hfree]; exact ea)⟩
  · exact L.celli x c (lookup_mem (N.sub L hm).1)
  · show cl.Pairwise _
    have h1 : cl.Pairwise fun p q => p.1 ≠ q.1 := by rw [N.cl]; exact closeL_apart N.dist List.Pairwise.nil (fun _ hp => nomatch hp)
    exact h1.imp_of_mem fun ha hb hne => cells_ne L.apart (N.sub L ha).1 (N.sub L hb).1 hne

/-- and out of it -/
theorem nest_out {W' : Store} (N : NestOk env sc scope cl) (L : Loc P env sc H W h m) (hC : Free P H W (Own env) C) (hx : ∀ a, xs a → Free P H W (Own env) a ∧ ∃ o, h.get? a = some o)
    (hf : ∀ x, scope.names.lookup x = some .free → look m' x = look m x) (i : Imm h h')
    (S' : St P (nestH env cl xs h H) W' h') (L' : Loc P (compEnvC scope cl C env) scope.names (nestH env cl xs h H) W' h' m') :
    St P H W' h' ∧ Loc P env sc H W' h' m ∧ Free P H W' (Own env) C ∧ (∃ mm, h'.Ns C mm) ∧ ∀ a, xs a → Free P H W' (Own env) a ∧ ∀ o, h.get? a = some o → ∃ o', h'.get? a = some o' ∧ Like o o' := by
  have sub : ∀ {x c}, (x, c) ∈ cl → Own env c := fun hm => .inr ⟨_, lookup_mem (N.sub L hm).1⟩
  have hid : ∀ a o, (Own env a ∨ xs a) → (¬ ∃ x, (x, a) ∈ cl) → h.get? a = some o → W' a = none ∧ ∃ o', h'.get? a = some o' ∧ Like o o' := fun a o q n e =>
    (S'.hid a o (by unfold nestH; rw [if_neg n, if_pos q]; exact e)).2
  have xn : ∀ a, xs a → ¬ ∃ x, (x, a) ∈ cl := fun a q ⟨x, hm⟩ => (hx a q).1.2.2.2 (sub hm)
  have ownC : ∀ a, (∃ x, (x, a) ∈ cl) → Own (compEnvC scope cl C env) a := fun a ⟨x, hm⟩ => .inr ⟨x, hm⟩
  refine ⟨S'.lessH fun a o e => ⟨o, ?_, .refl o⟩, ⟨fun a ha => ⟨(L.own a ha).1, (L.own a ha).2.1, ?_⟩, ?_, fun x q => ?_, fun x c hm => ?_, L.apart⟩, ⟨hC.1, hC.2.1, (L'.own C (.inl rfl)).2.2, hC.2.2.2⟩, ?_, fun a q => ⟨⟨(hx a q).1.1, (hx a q).1.2.1, ?_, (hx a q).1.2.2.2⟩, fun o e => ?_⟩⟩
  · unfold nestH
    rw [if_neg (fun ⟨x, hm⟩ => by rw [(L.own a (sub hm)).2.1] at e; cases e), if_neg (fun q => ?_)]
    · exact e
    · rcases q with q | q
      · rw [(L.own a q).2.1] at e; cases e
      · rw [(hx a q).1.2.1] at e; cases e
  · by_cases q : ∃ x, (x, a) ∈ cl
    · exact (L'.own a (ownC a q)).2.2
    · obtain ⟨o, e, _⟩ := L.there ha
      exact (hid a o (.inl ha) q e).1
  · obtain ⟨mm, n, r⟩ := L.ns
    refine ⟨mm, ns_like n fun o e => (hid _ o (.inl (.inl rfl)) (fun ⟨x, hm⟩ => ?_) e).2, fun x av e q => let ⟨v, ev, z⟩ := r x av e q; ⟨v, ev, z.imm i⟩⟩
    obtain ⟨vo, o', e', hd'⟩ := L.celli x _ (lookup_mem (N.sub L hm).1)
    obtain ⟨o₂, es, ep, e₂, hd₂, _⟩ := n
    rw [e₂] at e'; cases e'; rw [hd₂] at hd'; cases hd'
  · obtain ⟨c, vo, e, z, y⟩ := L.cells x q
    by_cases hc : ∃ y, (y, c) ∈ cl
    · obtain ⟨y', hm⟩ := hc
      obtain ⟨e1, e2⟩ := N.sub L hm
      have : y' = x := Classical.byContradiction fun ne => cells_ne L.apart e1 e ne rfl
      subst this
      have hl : scope.names.lookup y' = some .free := by
        obtain ⟨k, hk⟩ := lookup_of_mem e2
        have e3 := lookup_mem hk
        have : ∀ {l : List (Str × NameKind)} {a b : NameKind}, distinct (l.map (·.1)) = true → (y', a) ∈ l → (y', b) ∈ l → a = b := fun {l a b} => by
          induction l with
          | nil => intro _ h; cases h
          | cons p r ih =>
            obtain ⟨n, j⟩ := p
            intro hd h1 h2
            obtain ⟨d1, d2⟩ := distinct_cons (x := n) (r := r.map (·.1)) (by simpa using hd)
            rcases List.mem_cons.mp h1 with q1 | q1 <;> rcases List.mem_cons.mp h2 with q2 | q2
            · cases q1; cases q2; rfl
            · cases q1; exact (d1 (List.mem_map.mpr ⟨_, q2, rfl⟩)).elim
            · cases q2; exact (d1 (List.mem_map.mpr ⟨_, q1, rfl⟩)).elim
            · exact ih d2 q1 q2
        rw [hk, this N.dist e3 e2]
      obtain ⟨c', vo', f1, f2, f3⟩ := L'.cells y' (.inr hl)
      have f1 : cl.lookup y' = some c' := f1
      have := (N.sub L (lookup_mem f1)).1
      rw [e] at this; cases this
      exact ⟨c, vo', e, f2, fun av ea => f3 av (by rw [hf y' hl]; exact ea)⟩
    · obtain ⟨o, eo, hd⟩ := z
      obtain ⟨_, o', e', l⟩ := hid c o (.inl (.inr ⟨x, lookup_mem e⟩)) hc eo
      exact ⟨c, vo, e, ⟨o', e', l.2.2.1.trans hd⟩, fun av ea => let ⟨v, ev, zz⟩ := y av ea; ⟨v, ev, zz.imm i⟩⟩
  · by_cases hc : ∃ y, (y, c) ∈ cl
    · obtain ⟨y, hm'⟩ := hc
      exact L'.celli y c hm'
    · obtain ⟨vo, o, eo, hd⟩ := L.celli x c hm
      obtain ⟨_, o', e', l⟩ := hid c o (.inl (.inr ⟨x, hm⟩)) hc eo
      exact ⟨vo, o', e', l.2.2.1.trans hd⟩
  · obtain ⟨mm, n, _⟩ := L'.ns
    exact ⟨mm, n⟩
  · obtain ⟨_, o, e⟩ := hx a q
    exact (hid a o (.inr q) (xn a q) e).1
  · exact (hid a o (.inr q) (xn a q) e).2

/-- a step beside everything that is told of -/
theorem free_step (S : St P H W h) (L : Loc P env sc H W h m) (D : Addr → Prop) (hs : ∀ b o, ¬ D b → h.get? b = some o → h'.get? b = some o) (hf : ∀ b, D b → Free P H W (Own env) b) (hi : ∀ b o, D b → h.get? b = some o → ¬ Im o) :
    St P H W h' ∧ Loc P env sc H W h' m ∧ Imm h h' := by
  have own : ∀ a, Own env a → ¬ D a := fun a ha q => (hf a q).2.2.2 ha
  have i : Imm h h' := fun a o e z => hs a o (fun q => hi a o q e z) e
  have size : P.h₀.objs.size ≤ h'.objs.size := by
    obtain ⟨o, e, _⟩ := L.there (.inl rfl : Own env env.locals)
    exact Nat.le_trans (L.own _ (.inl rfl)).1 (Nat.le_of_lt (Heap.lt_size (hs _ o (own _ (.inl rfl)) e)))
  refine ⟨S.step size D W (fun a o e q => hs a o q e) i (fun b q => (hf b q).1) (fun a o o₁ e q => ?_) (fun a o e => (S.hid a o e).2.1) (fun a c e => .inr ⟨fun q => ?_, e⟩), L.keep (fun a o ha e => ⟨o, hs a o (own a ha) e, .refl o⟩) i fun a ha => (L.own a ha).2, i⟩
  · rw [(hf a q).2.1] at e; cases e
  · rw [(hf a q).2.2.1] at e; cases e
end

section
variable {P : Px} {n : Nat} {env : Env} {sc : Names} {H : Hid} {W : Store} {m : Vars} {A : Around}

theorem isTup2 {h : Heap} {v : Value} {p q : AV} (x : VR h v (.tup [p, q])) : ∃ a y z, v = .ref a ∧ h.IsTuple a #[y, z] ∧ VR h y p ∧ VR h z q := by
  cases x with
  | tup t r =>
    rename_i a vs
    cases r with
    | cons xp r => cases r with
      | cons xq r => cases r; exact ⟨a, _, _, rfl, t, xp, xq⟩

/-- a comprehension's names take a value -/
theorem bindC_sound {env : Env} {C : Addr} {t : PySem.Expr} {v : AV} {m : Vars} {k : Vars → Prop} {s : Shared} {E : Value → Shared → Prop} {mm : Str → Option Value} {vv : Value} (hq : bindC t v m k) (hh : A.handled = none) (hC : env.locals = C) (hkind : env.scope.kind = .function)
    (hl : ∀ x ∈ compNames t, env.kindOf x = some .local) (hd : distinct (compNames t) = true) (hn : s.heap.Ns C mm) (hv : VR s.heap vv v) :
    wpAny (model P.prog P.w) A (assign t env vv) (fun _ s' => ∃ h' tk m' mm', s' = { s with heap := h', toks := tk } ∧ (∀ b o, b ≠ C → s.heap.get? b = some o → h'.get? b = some o) ∧ h'.Ns C mm' ∧ k m' ∧ m'.map (·.1) = compNames t ++ m.map (·.1) ∧
      (∀ x av, look m' x = some av → x ∈ compNames t → ∃ w, mm' x = some w ∧ VR s.heap w av) ∧ (∀ x, x ∉ compNames t → look m' x = look m x)) E s := by
  have hp : (env.scope.kind == .class || (env.scope.kind == .module && env.locals != env.globals)) = false := by rw [hkind]; rfl
  subst hC
  cases t <;> try exact hq.elim
  · rename_i x p
    refine wpAny_assign_Name (wpAny_storeName_local (hl x (.head _)) hn (fun h' n' hs => ⟨h', _, _, _, rfl, fun b o q e => hs.extBut b o q e, n', hq, rfl, fun y av e hy => ?_, fun y hy => ?_⟩) hp)
    · have : y = x := by simpa [compNames] using hy
      subst this
      simp [look] at e
      subst e
      exact ⟨vv, by simp, hv⟩
    · have : y ≠ x := fun e => hy (by simp [compNames, e])
      simp [look, List.lookup_cons, beq_eq_false_iff_ne.mpr this]
  · rename_i es kk tp
    have : ∃ x px y py, es = [.Name x px, .Name y py] ∧ ∃ p q, v = .tup [p, q] ∧ k ((y, some q) :: (x, some p) :: m) := by
      simp only [bindC] at hq
      split at hq <;> try exact hq.elim
      split at hq <;> try exact hq.elim
      exact ⟨_, _, _, _, rfl, _, _, rfl, hq⟩
    refine cps fun kk => ?_
    obtain ⟨x, px, y, py, rfl, p, q, rfl, hq⟩ := this
    refine kk ?_
    clear kk
    refine cps fun kk => ?_
    obtain ⟨a, v1, v2, rfl, ht, x1, x2⟩ := isTup2 hv
    refine kk ?_
    clear kk
    have hne : x ≠ y := fun e => by
      subst e
      simp [compNames, distinct] at hd
    refine kcp_assign hh ht (hl x (by simp [compNames])) (hl y (by simp [compNames])) hp hn fun h' tk n' hk => ?_
    refine ⟨h', tk, _, _, rfl, hk, n', hq, rfl, fun z av e hz => ?_, fun z hz => ?_⟩
    · simp only [compNames, List.mem_cons, List.not_mem_nil, or_false] at hz
      rcases hz with rfl | rfl
      · simp [look] at e; subst e; exact ⟨v2, by simp, x2⟩
      · simp [look, List.lookup_cons, beq_eq_false_iff_ne.mpr hne] at e; subst e
        exact ⟨v1, by simp [hne], x1⟩
    · simp only [compNames, List.mem_cons, List.not_mem_nil, or_false, not_or] at hz
      simp [look, List.lookup_cons, beq_eq_false_iff_ne.mpr hz.1, beq_eq_false_iff_ne.mpr hz.2]

def tst (ifs : List PySem.Expr) (env : Env) : Sem Bool := forIn ifs true fun c r => if r = true then do let ok ← isTrue c env (eval c env); pure (ForInStep.yield ok) else pure (ForInStep.yield r)
theorem listLoop {P : Px} {elt target iter : PySem.Expr} {ifs : List PySem.Expr} {scope : Scope} {pos : Pos} {it acc : Value} {env : Env} {R : Result → Shared → Prop} {s : Shared} (I : Nat → Shared → Prop)
    (turn : ∀ n s, I n s → wpAny (model P.prog P.w) A (pyNext it) (fun r s₁ => match r with
      | none => R (.ok .next) s₁
      | some v => wpAny (model P.prog P.w) A (letOwnedTupleGo target it v) (fun _ s₀ => wpAny (model P.prog P.w) A (assign target env v) (fun _ s₂ =>
          wpAny (model P.prog P.w) A (tst ifs env) (fun ok s₃ =>
            if ok = true then wpAny (model P.prog P.w) A (eval elt env) (fun x s₄ =>
              wpAny (model P.prog P.w) A (call (.builtin "list.append") [acc, x]) (fun _ s₅ => ∃ m, m < n ∧ I m s₅) (notedBy (model P.prog P.w) A env fun e s' => R (.error e) s') s₄) (notedBy (model P.prog P.w) A env fun e s' => R (.error e) s') s₃
            else ∃ m, m < n ∧ I m s₃) (notedBy (model P.prog P.w) A env fun e s' => R (.error e) s') s₂) (notedBy (model P.prog P.w) A env fun e s' => R (.error e) s') s₀) (notedBy (model P.prog P.w) A env fun e s' => R (.error e) s') s₁) (notedBy (model P.prog P.w) A env fun e s' => R (.error e) s') s)
    (n : Nat) (h : I n s) : codeAny (model P.prog P.w) A (.compLoop (.ListComp elt [⟨target, iter, ifs, 0⟩] scope pos) 0 it acc env) R s := by
  refine codeAny_loop rfl I (fun n s hI => ?_) n h
  show wpAny _ A ((compTurn (.ListComp elt [⟨target, iter, ifs, 0⟩] scope pos) 0 it acc env).onRaise (fun x => do noteFrame x env; theTreesLotGoes x)) _ _ s
  refine wpAny_noted ?_
  rw [compTurn_list]
  refine wpAny_bind (wpAny_standAt (wpAny_bind (wpAny_mono (turn n s hI) (fun r s₁ h₁ => ?_) fun _ _ h' => h')))
  cases r with
  | none => exact wpAny_pure h₁
  | some v =>
    refine wpAny_bind (wpAny_mono h₁ (fun _ s₀ h₀ => ?_) fun _ _ h' => h')
    refine wpAny_bind (wpAny_mono h₀ (fun _ s₂ h₂ => wpAny_bind (wpAny_mono h₂ (fun ok s₃ h₃ => ?_) fun _ _ h' => h')) fun _ _ h' => h')
    cases ok with
    | false => exact wpAny_pure ⟨rfl, h₃⟩
    | true =>
      exact wpAny_bind (wpAny_bind (wpAny_mono h₃ (fun x s₄ h₄ => wpAny_bind (wpAny_mono h₄ (fun _ s₅ h₅ => wpAny_pure (wpAny_pure ⟨rfl, h₅⟩)) fun _ _ h' => h')) fun _ _ h' => h'))

theorem tests_nil {P : Px} {s : Shared} {E : Value → Shared → Prop} {Q : Bool → Shared → Prop} (h : Q true s) : wpAny (model P.prog P.w) A (tst [] env) Q E s := wpAny_tests_nil h
theorem tests_one {P : Px} {s : Shared} {E : Value → Shared → Prop} {c : PySem.Expr} {Q : Bool → Shared → Prop} (h : wpAny (model P.prog P.w) A (isTrue c env (eval c env)) Q E s) : wpAny (model P.prog P.w) A (tst [c] env) Q E s := wpAny_tests_one h
end

theorem src_len {W : Store} {v : AV} {items : List AV} {ok : Store → Prop} (h : Src W v items ok) : items.length ≤ 1000 := by
  cases h with
  | tup l hz => exact hz
  | rng lo k _ hk _ => simpa using hk
  | list a l _ hz => exact hz
  | dict a l _ _ hz => simpa [ivs] using hz

/-- what is looked at in the text of a comprehension -/
structure CompTxt (sc : Names) (ns : List Str) (scope : Scope) (t : PySem.Expr) : Prop where
  kind : scope.kind = .function
  nocell : ∀ p ∈ scope.names, p.2 ≠ .cell
  free : ∀ p ∈ scope.names, p.2 = .free → sc.lookup p.1 = some .cell ∨ sc.lookup p.1 = some .free
  loc : ∀ p ∈ scope.names, p.2 = .local → scope.names.lookup p.1 = some .local ∧ (p.1 ∈ compNames t ∨ p.1 ∉ ns)
  dist : distinct (scope.names.map (·.1)) = true
  names : ∀ x ∈ compNames t, scope.names.lookup x = some .local
  dnames : distinct (compNames t) = true
theorem compTxt {sc : Names} {ns : List Str} {scope : Scope} {it t : PySem.Expr} (h : compOk sc ns scope it t = true) : CompTxt sc ns scope t ∧ notSet it = true := by
  simp only [compOk, Bool.and_eq_true, List.all_eq_true, bne_iff_ne, ne_eq, Bool.or_eq_true, Bool.not_eq_true', beq_iff_eq, List.contains_iff_mem, decide_eq_false_iff_not] at h
  obtain ⟨⟨⟨⟨⟨⟨h1, h2⟩, h3⟩, h4⟩, h5⟩, h6⟩, h7⟩ := h
  refine ⟨⟨by cases hk : scope.kind <;> simp_all, fun p hp => (h3 p hp).1.1, fun p hp e => ?_, fun p hp e => ?_, h7, h5, h6⟩, h1⟩
  · exact (h3 p hp).2.resolve_left (fun q => q e)
  · obtain ⟨q1, q2⟩ := (h3 p hp).1.2.resolve_left (fun q => q e)
    refine ⟨q1, q2.imp id fun q hc => ?_⟩
    have := List.contains_iff_mem.mpr hc
    rw [q] at this; cases this

section
variable {P : Px} {n : Nat} {env : Env} {sc : Names} {H : Hid} {W : Store} {m : Vars} {A : Around}
theorem CompTxt.nest {ns : List Str} {scope : Scope} {t : PySem.Expr} (T : CompTxt sc ns scope t) : NestOk env sc scope (closeL env scope.names []) := ⟨T.kind, T.nocell, T.free, T.dist, rfl⟩
theorem not_names {m' : Vars} {x : Str} (h : x ∉ m'.map (·.1)) : look m' x = none := by
  have : m'.lookup x = none := by
    cases e : m'.lookup x with
    | none => rfl
    | some c => exact (h (List.mem_map.mpr ⟨_, lookup_mem e, rfl⟩)).elim
  simp [look, this]

/-- the state while a comprehension turns -/
structure Turn (P : Px) (env : Env) (sc : Names) (H : Hid) (W : Store) (h : Heap) (m : Vars) (I C D : Addr) (It : Nat → Heap → Prop) (i : Nat) : Prop where
  S : St P H W h
  L : Loc P env sc H W h m
  it : It i h
  fI : Free P H W (Own env) I
  fC : Free P H W (Own env) C
  fD : Free P H W (Own env) D
  IC : I ≠ C
  ID : I ≠ D
  CD : C ≠ D
  Cz : P.h₀.objs.size ≤ C
  ns : ∃ mm, h.Ns C mm

theorem frNest {Fs : List Env} {scope : Scope} {cl : List (Str × Addr)} {C : Addr} {xs : Addr → Prop} {h : Heap} (N : NestOk env sc scope cl) (L : Loc P env sc H W h m) (hx : ∀ a, xs a → Free P H W (Own env) a ∧ ∃ o, h.get? a = some o) (fi : FrIn Fs env H) : FrIn Fs (compEnvC scope cl C env) (nestH env cl xs h H) := by
  intro e he
  obtain ⟨hk, F, hF, q⟩ := fi e he
  refine ⟨hk, F, hF, .inr ?_⟩
  have ncl : ∀ {x : Str}, (∃ o es ep, h.get? F = some o ∧ o.data = Data.dict es ep) → (x, F) ∈ cl → False := fun {x} ⟨o, es, ep, e1, e2⟩ hm => by
    obtain ⟨vo, o', e', hd'⟩ := L.celli x F (lookup_mem (N.sub L hm).1)
    rw [e1] at e'; cases e'; rw [e2] at hd'; cases hd'
  rcases q with rfl | ⟨o, e1, es, ep, e2⟩
  · obtain ⟨o, es, ep, ho, hd⟩ := L.nsThere
    refine ⟨o, ?_, es, ep, hd⟩
    unfold nestH
    rw [if_neg (fun ⟨x, hm⟩ => ncl ⟨o, es, ep, ho, hd⟩ hm), if_pos (.inl (.inl rfl))]; exact ho
  · refine ⟨o, ?_, es, ep, e2⟩
    have nO : ¬ Own env F := fun q => by rw [(L.own F q).2.1] at e1; cases e1
    unfold nestH
    rw [if_neg (fun ⟨x, hm⟩ => nO (.inr ⟨x, lookup_mem (N.sub L hm).1⟩)), if_neg (fun q => q.elim nO fun q => by rw [(hx F q).1.2.1] at e1; cases e1)]; exact e1

/-- a tree of the block, run from the state of a turn -/
theorem inner {α : Type} {tr : Env → Sem α} {R : Heap → α → Store → Prop} {scope : Scope} {cl : List (Str × Addr)} {I C D : Addr} {It : Nat → Heap → Prop} {i : Nat} {items : List AV} {okk : Store → Prop} {m' : Vars} {ns : List Str} {t : PySem.Expr} {s : Shared} {Fs : List Env} {Q : α → Shared → Prop} {E : Value → Shared → Prop} {oD : Obj}
    (ir : Itr P items okk I It) (N : NestOk env sc scope cl) (T : CompTxt sc ns scope t) (r : Rdy A n) (fr : A.frames = some Fs) (fi : FrIn Fs env H) (eo : EnvOk env sc) (K : Turn P env sc H W s.heap m I C D It i) (hD : s.heap.get? D = some oD)
    (hm : m.map (·.1) = ns) (hm' : m'.map (·.1) = compNames t ++ ns) {mm : Str → Option Value} (hn : s.heap.Ns C mm) (hl : ∀ x av, look m' x = some av → x ∈ compNames t → ∃ v, mm x = some v ∧ VR s.heap v av) (hf : ∀ x, x ∉ compNames t → look m' x = look m x)
    (h : EV P n (compEnvC scope cl C env) scope.names m' W (tr (compEnvC scope cl C env)) R (fun _ => False))
    (k : ∀ a W' h' tk', Turn P env sc H W' h' m I C D It i → (∃ oD', h'.get? D = some oD' ∧ Like oD oD') → (∃ mm', h'.Ns C mm' ∧ ∀ x av, look m' x = some av → x ∈ compNames t → ∃ v, mm' x = some v ∧ VR h' v av) → Imm s.heap h' → R h' a W' → Q a { s with heap := h', toks := tk' }) :
    wpAny (model P.prog P.w) A (tr (compEnvC scope cl C env)) Q E s := by
  obtain ⟨oI, vI, eI, dI, nI⟩ := ir.there _ _ K.it
  have hx : ∀ a, (fun a => a = I ∨ a = D) a → Free P H W (Own env) a ∧ ∃ o, s.heap.get? a = some o := fun a q => by
    rcases q with rfl | rfl
    · exact ⟨K.fI, _, eI⟩
    · exact ⟨K.fD, _, hD⟩
  have hff : ∀ x, scope.names.lookup x = some .free → look m' x = look m x := fun x q => hf x fun hc => by rw [T.names x hc] at q; cases q
  have hll : ∀ x av, look m' x = some av → scope.names.lookup x = some .local → ∃ v, mm x = some v ∧ VR s.heap v av := fun x av e q => by
    rcases (T.loc _ (lookup_mem q) rfl).2 with z | z
    · exact hl x av e z
    · by_cases hc : x ∈ compNames t
      · exact hl x av e hc
      · rw [hf x hc, not_names (by rw [hm]; exact z)] at e; cases e
  have zz1 := nest_in (xs := fun a => a = I ∨ a = D) N K.S K.L K.fC K.Cz (fun q => q.elim (Ne.symm K.IC) K.CD) hn hx hll hff
  have S' := zz1.1
  have L' := zz1.2
  refine wpAny_mono (h A _ s Fs r fr (frNest N K.L hx fi) (N.toEnv eo) S' L' trivial) (fun a s' z => ?_) (fun e s' z => ?_)
  · obtain ⟨W', h', tk', rfl, S2, L2, i2, q⟩ := z
    have zz2 := nest_out N K.L K.fC hx hff i2 S2 L2
    have S3 := zz2.1
    have L3 := zz2.2.1
    have fC := zz2.2.2.1
    have hxs := zz2.2.2.2.2
    obtain ⟨mm', n', r'⟩ := L2.ns
    have kI : ∀ o, s.heap.get? I = some o → h'.get? I = some o := fun o e => by
      obtain ⟨o', e', l⟩ := (hxs I (.inl rfl)).2 o e
      have : o' = o := l.same fun es ep e2 => by rw [eI] at e; cases e; rw [dI] at e2; cases e2
      rw [e', this]
    exact k a W' h' tk' ⟨S3, L3, ir.keep _ _ _ K.it kI i2, (hxs I (.inl rfl)).1, fC, (hxs D (.inr rfl)).1, K.IC, K.ID, K.CD, K.Cz, ⟨mm', n'⟩⟩ ((hxs D (.inr rfl)).2 oD hD) ⟨mm', n', fun x av e hc => r' x av e (T.names x hc)⟩ i2 q
  · obtain ⟨_, _, _, _, _, _, _, _, _, _, _, _, f⟩ := z
    exact f.elim

/-- what holds between the turns of a comprehension -/
inductive LInv (P : Px) (env : Env) (sc : Names) (H : Hid) (m : Vars) (I C D : Addr) (It : Nat → Heap → Prop) (items : List AV) (okk : Store → Prop) (s₂ : Shared) (K : List AV → List AV → Store → Prop) (k : Nat) (s' : Shared) : Prop
  | mk (h' : Heap) (tk i : Nat) (W' : Store) (ys : List Value) (nn : Nat) (ds : List AV) : s' = { s₂ with heap := h', toks := tk } → k = items.length + 1 - i → i ≤ items.length → ys.length ≤ i → Turn P env sc H W' h' m I C D It i → okk W' →
      h'.get? D = some (listOf (List.toArray ys) nn) → VRs h' ys ds → Imm s₂.heap h' → K (items.drop i) ds W' → LInv P env sc H m I C D It items okk s₂ K k s'
theorem listTurns {elt iter t : PySem.Expr} {ifs : List PySem.Expr} {scope : Scope} {pos : Pos} {s₂ : Shared} {I C D : Addr} {It : Nat → Heap → Prop} {items : List AV} {okk : Store → Prop} {ns : List Str} {Fs : List Env} {RR : Result → Shared → Prop}
    {tstV : Vars → Store → (Bool → Store → Prop) → Prop} {eltV : Vars → Store → (AV → Store → Prop) → Prop} {Qf : List AV → Store → Prop}
    (ir : Itr P items okk I It) (hz : items.length ≤ 1000) (T : CompTxt sc ns scope t) (r : Rdy A n) (fr : A.frames = some Fs) (fi : FrIn Fs env H) (eo : EnvOk env sc) (hm : m.map (·.1) = ns)
    (ihT : ∀ C m' W' Q', m'.map (·.1) = compNames t ++ ns → tstV m' W' Q' → EV P n (compEnvC scope (closeL env scope.names []) C env) scope.names m' W' (tst ifs (compEnvC scope (closeL env scope.names []) C env)) (Tst Q') (fun _ => False))
    (ihE : ∀ C m' W' Q', m'.map (·.1) = compNames t ++ ns → eltV m' W' Q' → EV P n (compEnvC scope (closeL env scope.names []) C env) scope.names m' W' (eval elt (compEnvC scope (closeL env scope.names []) C env)) (Val Q') (fun _ => False))
    {h₁ : Heap} {tk₁ : Nat} (K₁ : Turn P env sc H W h₁ m I C D It 0) (hok : okk W) (hacc : h₁.get? D = some (listOf (List.toArray []) 0)) (i₁ : Imm s₂.heap h₁)
    (hL : compL (fun v k => bindC t v m k) tstV eltV okk Qf items [] W)
    (hRR : ∀ h' tk W' ys nn ds, St P H W' h' → Loc P env sc H W' h' m → Imm s₂.heap h' → Free P H W' (Own env) D → Free P H W' (Own env) C → h'.get? D = some (listOf (List.toArray ys) nn) → VRs h' ys ds → (∃ mm, h'.Ns C mm) → Qf ds W' → RR (.ok .next) { s₂ with heap := h', toks := tk }) :
    codeAny (model P.prog P.w) A (.compLoop (.ListComp elt [⟨t, iter, ifs, 0⟩] scope pos) 0 (.ref I) (.ref D) (compEnvC scope (closeL env scope.names []) C env)) RR { s₂ with heap := h₁, toks := tk₁ } := by
  have N : NestOk env sc scope (closeL env scope.names []) := T.nest
  refine listLoop (LInv P env sc H m I C D It items okk s₂ (compL (fun v k => bindC t v m k) tstV eltV okk Qf)) ?_ (items.length + 1)
    ⟨h₁, _, 0, W, [], 0, [], rfl, rfl, Nat.zero_le _, Nat.le_refl _, K₁, hok, hacc, .nil, i₁, hL⟩
  rintro k s' ⟨h', tk, i, W', ys, nn, ds, rfl, rfl, hi, hyl, K, ok', hD, hys, i', hc⟩
  obtain ⟨oI, vI, eI, dI, nI⟩ := ir.there _ _ K.it
  cases hgi : items[i]? with
  | none =>
    have : i = items.length := Nat.le_antisymm hi (List.getElem?_eq_none_iff.mp hgi)
    subst this
    rw [List.drop_length, compL] at hc
    refine ir.done A H W' _ _ _ r.hand K.it K.S ok' fun h₂ tk₂ hk₂ => ?_
    have zz3 := free_step K.S K.L (· = I) hk₂ (fun b q => q ▸ K.fI) (fun b o q e => by subst q; rw [eI] at e; cases e; exact nI)
    have S2 := zz3.1
    have L2 := zz3.2.1
    have im2 := zz3.2.2
    obtain ⟨mm, hn⟩ := K.ns
    exact hRR h₂ tk₂ W' ys nn ds S2 L2 (i'.trans im2) K.fD K.fC (hk₂ _ _ (Ne.symm K.ID) hD) (hys.imm im2) ⟨mm, hn.at' fun o e => hk₂ _ o (Ne.symm K.IC) e⟩ hc
  | some d =>
    have hlt : i < items.length := (List.getElem?_eq_some_iff.mp hgi).1
    rw [show items.drop i = d :: items.drop (i + 1) by rw [List.drop_eq_getElem_cons hlt]; congr 1; exact (List.getElem?_eq_some_iff.mp hgi).2, compL] at hc
    refine ir.item A H W' _ _ _ i d r.hand hgi K.it K.S ok' fun v h₂ tk₂ xv it₂ hk₂ => ?_
    have zz4 := free_step K.S K.L (· = I) hk₂ (fun b q => q ▸ K.fI) (fun b o q e => by subst q; rw [eI] at e; cases e; exact nI)
    have S2 := zz4.1
    have L2 := zz4.2.1
    have im2 := zz4.2.2
    refine ir.letGo A _ _ _ (i + 1) t v it₂ ?_
    obtain ⟨mm, hn⟩ := K.ns
    have hn₂ : h₂.Ns C mm := hn.at' fun o e => hk₂ _ o (Ne.symm K.IC) e
    refine wpAny_mono (bindC_sound (s := { s₂ with heap := h₂, toks := tk₂ }) (C := C) hc r.hand rfl T.kind (fun x hx => lookup_relabel (by decide) (T.names x hx)) T.dnames hn₂ (xv.imm im2)) (fun _ s₃ z => ?_) fun _ _ e => e
    obtain ⟨h₃, tk₃, m', mm', rfl, hk₃, hn₃, hc, hm', hl₃, hf₃⟩ := z
    have nC : ∀ b o, (fun b => b = C) b → h₂.get? b = some o → ¬ Im o := fun b o q e => by
      obtain ⟨o', es, ep, e', hd', _⟩ := hn₂
      have q : b = C := q
      subst q; rw [e'] at e; cases e; simp [Im, hd']
    have zz5 := free_step S2 L2 (· = C) hk₃ (fun b q => q ▸ K.fC) nC
    have S3 := zz5.1
    have L3 := zz5.2.1
    have im3 := zz5.2.2
    have K3 : Turn P env sc H W' h₃ m I C D It (i + 1) :=
      ⟨S3, L3, ir.keep _ _ _ it₂ (fun o e => hk₃ _ o K.IC e) im3, K.fI, K.fC, K.fD, K.IC, K.ID, K.CD, K.Cz, ⟨mm', hn₃⟩⟩
    have hD3 : h₃.get? D = some (listOf (List.toArray ys) nn) := hk₃ _ _ (Ne.symm K.CD) (hk₂ _ _ (Ne.symm K.ID) hD)
    have hys3 : VRs h₃ ys ds := (hys.imm im2).imm im3
    rw [hm] at hm'
    refine inner (s := { s₂ with heap := h₃, toks := tk₃ }) (tr := tst ifs) (R := Tst _) ir N T r fr fi eo K3 hD3 hm hm' hn₃ (fun x av e q => let ⟨w, e1, e2⟩ := hl₃ x av e q; ⟨w, e1, e2.imm im3⟩) hf₃ (ihT _ m' W' _ hm' hc) fun b W₄ h₄ tk₄ K4 hD4 hl4 im4 hc => ?_
    obtain ⟨oD4, eD4, lD4⟩ := hD4
    have : oD4 = _ := lD4.same fun es ep e2 => by cases e2
    subst this
    cases b with
    | false =>
      simp only [Bool.false_eq_true, if_false]
      exact ⟨items.length + 1 - (i + 1), by omega, h₄, tk₄, i + 1, W₄, ys, nn, ds, rfl, rfl, hlt, Nat.le_succ_of_le hyl, K4, hc.1, eD4, hys3.imm im4, ((i'.trans im2).trans im3).trans im4, hc.2⟩
    | true =>
      simp only [if_true]
      obtain ⟨mm4, hn4, hl4⟩ := hl4
      refine inner (s := { s₂ with heap := h₄, toks := tk₄ }) (tr := eval elt) (R := Val _) ir N T r fr fi eo K4 eD4 hm hm' hn4 hl4 hf₃ (ihE _ m' W₄ _ hm' hc) fun y W₅ h₅ tk₅ K5 hD5 hl5 im5 ⟨dy, xy, ok5, hc⟩ => ?_
      obtain ⟨oD5, eD5, lD5⟩ := hD5
      have : oD5 = _ := lD5.same fun es ep e2 => by cases e2
      subst this
      refine append_at eD5 (fun h₆ hs₆ hg₆ => ?_) (by simp only [List.size_toArray]; unfold sizeLine; omega)
      rw [List.push_toArray] at hg₆
      have k6 : ∀ b o, b ≠ D → h₅.get? b = some o → h₆.get? b = some o := fun b o q e => hs₆.extBut b o q e
      have zz6 := free_step K5.S K5.L (· = D) k6 (fun b q => q ▸ K5.fD) (fun b o q e => by have q : b = D := q; subst q; rw [eD5] at e; cases e; simp [Im])
      have S6 := zz6.1
      have L6 := zz6.2.1
      have im6 := zz6.2.2
      obtain ⟨mm5, hn5⟩ := K5.ns
      exact ⟨items.length + 1 - (i + 1), by omega, h₆, tk₅, i + 1, W₅, ys ++ [y], nn + 1, ds ++ [dy], rfl, rfl, hlt, by rw [List.length_append, List.length_singleton]; exact Nat.succ_le_succ hyl,
        ⟨S6, L6, ir.keep _ _ _ K5.it (fun o e => k6 _ o K5.ID e) im6, K5.fI, K5.fC, K5.fD, K5.IC, K5.ID, K5.CD, K5.Cz, ⟨mm5, hn5.at' fun o e => k6 _ o K5.CD e⟩⟩, ok5, hg₆, ((((hys3.imm im4).imm im5).append (.cons xy .nil))).imm im6, ((((i'.trans im2).trans im3).trans im4).trans im5).trans im6, hc⟩
theorem listBlock {elt iter t : PySem.Expr} {ifs : List PySem.Expr} {scope : Scope} {pos : Pos} {s₂ : Shared} {I : Addr} {It : Nat → Heap → Prop} {items : List AV} {okk : Store → Prop} {ns : List Str} {Fs : List Env} {E : Value → Shared → Prop} {RR : Value → Addr → Result → Shared → Prop}
    {tstV : Vars → Store → (Bool → Store → Prop) → Prop} {eltV : Vars → Store → (AV → Store → Prop) → Prop} {Qf : List AV → Store → Prop}
    (ir : Itr P items okk I It) (hz : items.length ≤ 1000) (T : CompTxt sc ns scope t) (r : Rdy A n) (fr : A.frames = some Fs) (fi : FrIn Fs env H) (eo : EnvOk env sc) (hm : m.map (·.1) = ns)
    (S : St P H W s₂.heap) (L : Loc P env sc H W s₂.heap m) (hit : It 0 s₂.heap) (fI : Free P H W (Own env) I) (hok : okk W)
    (ihT : ∀ C m' W' Q', m'.map (·.1) = compNames t ++ ns → tstV m' W' Q' → EV P n (compEnvC scope (closeL env scope.names []) C env) scope.names m' W' (tst ifs (compEnvC scope (closeL env scope.names []) C env)) (Tst Q') (fun _ => False))
    (ihE : ∀ C m' W' Q', m'.map (·.1) = compNames t ++ ns → eltV m' W' Q' → EV P n (compEnvC scope (closeL env scope.names []) C env) scope.names m' W' (eval elt (compEnvC scope (closeL env scope.names []) C env)) (Val Q') (fun _ => False))
    (hL : compL (fun v k => bindC t v m k) tstV eltV okk Qf items [] W)
    (hRR : ∀ D C h' tk W' ys nn ds, St P H W' h' → Loc P env sc H W' h' m → Imm s₂.heap h' → Free P H W' (Own env) D → Free P H W' (Own env) C → C ≠ D → h'.get? D = some (listOf (List.toArray ys) nn) → VRs h' ys ds → (∃ mm, h'.Ns C mm) → Qf ds W' → RR (.ref D) C (.ok .next) { s₂ with heap := h', toks := tk }) :
    wpAny (model P.prog P.w) A (newList []) (fun acc s₃ => wpAny (model P.prog P.w) A (newFunctionEnv scope env.globals (closeL env scope.names []) [] env.qual none .none (some env)) (fun cenv s₄ =>
      codeAny (model P.prog P.w) A (.compStart (.ListComp elt [⟨t, iter, ifs, 0⟩] scope pos) 0 (.ref I) acc { cenv with scope := relabel scope env }) (RR acc cenv.locals) s₄) E s₃) E s₂ := by
  have N : NestOk env sc scope (closeL env scope.names []) := T.nest
  obtain ⟨oI₀, vI₀, eI₀, dI₀, nI₀⟩ := ir.there _ _ hit
  refine wpAny_newObj_type (wpAny_newFunctionEnv T.nocell (by intro y hy; simp at hy) (fun h₁ hns₁ hsb₁ => ?_) T.kind)
  dsimp only at hns₁ hsb₁ ⊢
  generalize hH2 : s₂.heap.push { cls := .type "list", dict := none, data := .seq ([] : List Value).toArray } = H2 at hns₁ hsb₁ ⊢
  have hC : H2.objs.size = s₂.heap.objs.size + 1 := by rw [← hH2, Heap.size_push]
  have old : ∀ b o, s₂.heap.get? b = some o → h₁.get? b = some o := fun b o e => hsb₁.extBut b o (Nat.ne_of_lt (by rw [hC]; exact Nat.lt_succ_of_lt (Heap.lt_size e))) (Heap.get?_push_of_some _ (hH2 ▸ Heap.get?_push_of_some _ e))
  have hDC : s₂.heap.objs.size ≠ H2.objs.size := by rw [hC]; exact Nat.ne_of_lt (Nat.lt_succ_self _)
  have hacc : h₁.get? s₂.heap.objs.size = some (listOf (List.toArray []) 0) := hsb₁.extBut _ _ hDC (Heap.get?_push_of_some _ (hH2 ▸ Heap.get?_push_size _ rfl))
  have hsz : s₂.heap.objs.size ≤ h₁.objs.size := Nat.le_of_lt (Heap.lt_size hacc)
  have fresh : ∀ a, s₂.heap.objs.size ≤ a → Free P H W (Own env) a := fun a ha => ⟨fresh_ge (Nat.le_trans S.size ha), S.noH (fresh_ge ha), S.noW (fresh_ge ha), L.notOwn (fresh_ge ha)⟩
  have hIlt : I < s₂.heap.objs.size := Heap.lt_size eI₀
  have i₁ : Imm s₂.heap h₁ := Imm.of_keeps old
  have K₁ : Turn P env sc H W h₁ m I H2.objs.size s₂.heap.objs.size It 0 :=
    ⟨S.more hsz old, L.more old, ir.keep _ _ _ hit (fun o e => old _ o e) i₁, fI, fresh _ (by rw [hC]; exact Nat.le_succ _), fresh _ (Nat.le_refl _), Nat.ne_of_lt (by rw [hC]; exact Nat.lt_succ_of_lt hIlt), Nat.ne_of_lt hIlt, Ne.symm hDC, Nat.le_trans S.size (by rw [hC]; exact Nat.le_succ _), ⟨_, hns₁⟩⟩
  have loop := listTurns (tk₁ := s₂.toks + ([] : List (Str × Value)).length) (iter := iter) (pos := pos) (RR := RR (.ref s₂.heap.objs.size) H2.objs.size) ir hz T r fr fi eo hm ihT ihE K₁ hok hacc i₁ hL fun h' tk W' ys nn ds a b c d e f g k l => hRR _ _ h' tk W' ys nn ds a b c d e K₁.CD f g k l
  exact codeAny_compStart_list loop (ir.self A _ _ _ 0 K₁.it loop)
end

theorem src_ok {W : Store} {v : AV} {items : List AV} {ok : Store → Prop} (h : Src W v items ok) : ok W ∧ ∀ D c, W D = none → ok (upd W D c) := by
  have ne : ∀ {a D : Addr} {c₀ : Cell}, W a = some c₀ → W D = none → a ≠ D := fun h1 h2 e => by rw [e, h2] at h1; cases h1
  cases h with
  | tup l hz => exact ⟨trivial, fun _ _ _ => trivial⟩
  | rng lo k _ hk _ => exact ⟨trivial, fun _ _ _ => trivial⟩
  | list a l h _ => exact ⟨h, fun D c hD => by simp only [upd, ne h hD, if_false]; exact h⟩
  | dict a l h _ _ => exact ⟨h, fun D c hD => by simp only [upd, ne h hD, if_false]; exact h⟩

section
variable {P : Px} {n : Nat} {env : Env} {sc : Names} {H : Hid} {W : Store} {m : Vars} {A : Around}
structure Turn1 (P : Px) (env : Env) (sc : Names) (H : Hid) (W : Store) (h : Heap) (m : Vars) (I C : Addr) (It : Nat → Heap → Prop) (i : Nat) : Prop where
  S : St P H W h
  L : Loc P env sc H W h m
  it : It i h
  fI : Free P H W (Own env) I
  fC : Free P H W (Own env) C
  IC : I ≠ C
  Cz : P.h₀.objs.size ≤ C
  ns : ∃ mm, h.Ns C mm

theorem inner1 {α : Type} {tr : Env → Sem α} {R : Heap → α → Store → Prop} {scope : Scope} {cl : List (Str × Addr)} {I C : Addr} {It : Nat → Heap → Prop} {i : Nat} {items : List AV} {okk : Store → Prop} {m' : Vars} {ns : List Str} {t : PySem.Expr} {s : Shared} {Fs : List Env} {Q : α → Shared → Prop} {E : Value → Shared → Prop}
    (ir : Itr P items okk I It) (N : NestOk env sc scope cl) (T : CompTxt sc ns scope t) (r : Rdy A n) (fr : A.frames = some Fs) (fi : FrIn Fs env H) (eo : EnvOk env sc) (K : Turn1 P env sc H W s.heap m I C It i)
    (hm : m.map (·.1) = ns) {mm : Str → Option Value} (hn : s.heap.Ns C mm) (hl : ∀ x av, look m' x = some av → x ∈ compNames t → ∃ v, mm x = some v ∧ VR s.heap v av) (hf : ∀ x, x ∉ compNames t → look m' x = look m x)
    (h : EV P n (compEnvC scope cl C env) scope.names m' W (tr (compEnvC scope cl C env)) R (fun _ => False))
    (k : ∀ a W' h' tk', Turn1 P env sc H W' h' m I C It i → (∃ mm', h'.Ns C mm' ∧ ∀ x av, look m' x = some av → x ∈ compNames t → ∃ v, mm' x = some v ∧ VR h' v av) → Imm s.heap h' → R h' a W' → Q a { s with heap := h', toks := tk' }) :
    wpAny (model P.prog P.w) A (tr (compEnvC scope cl C env)) Q E s := by
  obtain ⟨oI, vI, eI, dI, nI⟩ := ir.there _ _ K.it
  have hx : ∀ a, (fun a => a = I) a → Free P H W (Own env) a ∧ ∃ o, s.heap.get? a = some o := fun a q => by
    have q : a = I := q
    subst q
    exact ⟨K.fI, _, eI⟩
  have hff : ∀ x, scope.names.lookup x = some .free → look m' x = look m x := fun x q => hf x fun hc => by rw [T.names x hc] at q; cases q
  have hll : ∀ x av, look m' x = some av → scope.names.lookup x = some .local → ∃ v, mm x = some v ∧ VR s.heap v av := fun x av e q => by
    rcases (T.loc _ (lookup_mem q) rfl).2 with z | z
    · exact hl x av e z
    · by_cases hc : x ∈ compNames t
      · exact hl x av e hc
      · rw [hf x hc, not_names (by rw [hm]; exact z)] at e; cases e
  obtain ⟨S', L'⟩ := nest_in (xs := fun a => a = I) N K.S K.L K.fC K.Cz (fun q => (Ne.symm K.IC) q) hn hx hll hff
  refine wpAny_mono (h A _ s Fs r fr (frNest N K.L hx fi) (N.toEnv eo) S' L' trivial) (fun a s' z => ?_) (fun e s' z => ?_)
  · obtain ⟨W', h', tk', rfl, S2, L2, i2, q⟩ := z
    obtain ⟨S3, L3, fC, _, hxs⟩ := nest_out N K.L K.fC hx hff i2 S2 L2
    obtain ⟨mm', n', r'⟩ := L2.ns
    have kI : ∀ o, s.heap.get? I = some o → h'.get? I = some o := fun o e => by
      obtain ⟨o', e', l⟩ := (hxs I rfl).2 o e
      have : o' = o := l.same fun es ep e2 => by rw [eI] at e; cases e; rw [dI] at e2; cases e2
      rw [e', this]
    exact k a W' h' tk' ⟨S3, L3, ir.keep _ _ _ K.it kI i2, (hxs I rfl).1, fC, K.IC, K.Cz, ⟨mm', n'⟩⟩ ⟨mm', n', fun x av e hc => r' x av e (T.names x hc)⟩ i2 q
  · obtain ⟨_, _, _, _, _, _, _, _, _, _, _, _, f⟩ := z
    exact f.elim

/-- what holds between the turns of a dict comprehension -/
inductive DInv (P : Px) (env : Env) (sc : Names) (H : Hid) (m : Vars) (I C : Addr) (It : Nat → Heap → Prop) (items : List AV) (okk : Store → Prop) (s₂ : Shared) (K : List AV → Store → Prop) (k : Nat) (s' : Shared) : Prop
  | mk (h' : Heap) (tk i : Nat) (W' : Store) : s' = { s₂ with heap := h', toks := tk } → k = items.length + 1 - i → i ≤ items.length → Turn1 P env sc H W' h' m I C It i → okk W' → Imm s₂.heap h' → K (items.drop i) W' → DInv P env sc H m I C It items okk s₂ K k s'
theorem dictTurns {kx vx iter : PySem.Expr} {tx : Str} {tp : Pos} {scope : Scope} {pos : Pos} {s₂ : Shared} {I C D : Addr} {It : Nat → Heap → Prop} {items : List AV} {okk : Store → Prop} {ns : List Str} {Fs : List Env} {RR : Result → Shared → Prop}
    {kV vV : Vars → Store → (AV → Store → Prop) → Prop} {Qf : Store → Prop}
    (ir : Itr P items okk I It) (T : CompTxt sc ns scope (.Name tx tp)) (r : Rdy A n) (fr : A.frames = some Fs) (fi : FrIn Fs env H) (eo : EnvOk env sc) (hm : m.map (·.1) = ns)
    (ihK : ∀ C m' W' Q', m'.map (·.1) = tx :: ns → kV m' W' Q' → EV P n (compEnvC scope (closeL env scope.names []) C env) scope.names m' W' (eval kx (compEnvC scope (closeL env scope.names []) C env)) (Val Q') (fun _ => False))
    (ihV : ∀ C m' W' Q', m'.map (·.1) = tx :: ns → vV m' W' Q' → EV P n (compEnvC scope (closeL env scope.names []) C env) scope.names m' W' (eval vx (compEnvC scope (closeL env scope.names []) C env)) (Val Q') (fun _ => False))
    {h₁ : Heap} {tk₁ : Nat} {W₁ : Store} (K₁ : Turn1 P env sc H W₁ h₁ m I C It 0) (hok : okk W₁) (i₁ : Imm s₂.heap h₁) (hL : dictL (fun v k => bindC (.Name tx tp) v m k) kV vV okk D Qf items W₁)
    (hRR : ∀ h' tk W', St P H W' h' → Loc P env sc H W' h' m → Imm s₂.heap h' → Free P H W' (Own env) C → (∃ mm, h'.Ns C mm) → Qf W' → RR (.ok .next) { s₂ with heap := h', toks := tk }) :
    codeAny (model P.prog P.w) A (.compLoop (.DictComp kx vx [⟨.Name tx tp, iter, [], 0⟩] scope pos) 0 (.ref I) (.ref D) (compEnvC scope (closeL env scope.names []) C env)) RR { s₂ with heap := h₁, toks := tk₁ } := by
  have N : NestOk env sc scope (closeL env scope.names []) := T.nest
  refine codeAny_compLoop_testsD (DInv P env sc H m I C It items okk s₂ (dictL (fun v k => bindC (.Name tx tp) v m k) kV vV okk D Qf)) ?_ (items.length + 1)
    ⟨h₁, _, 0, _, rfl, rfl, Nat.zero_le _, K₁, hok, i₁, hL⟩
  rintro k s' ⟨h', tk, i, W', rfl, rfl, hi, K, ok', i', hc⟩
  obtain ⟨oI, vI, eI, dI, nI⟩ := ir.there _ _ K.it
  cases hgi : items[i]? with
  | none =>
    have : i = items.length := Nat.le_antisymm hi (List.getElem?_eq_none_iff.mp hgi)
    subst this
    rw [List.drop_length, dictL] at hc
    refine ir.done A H W' _ _ _ r.hand K.it K.S ok' fun h₂ tk₂ hk₂ => ?_
    obtain ⟨S2, L2, im2⟩ := free_step K.S K.L (· = I) hk₂ (fun b q => q ▸ K.fI) (fun b o q e => by subst q; rw [eI] at e; cases e; exact nI)
    obtain ⟨mm, hn⟩ := K.ns
    exact hRR h₂ tk₂ W' S2 L2 (i'.trans im2) K.fC ⟨mm, hn.at' fun o e => hk₂ _ o (Ne.symm K.IC) e⟩ hc
  | some d =>
    have hlt : i < items.length := (List.getElem?_eq_some_iff.mp hgi).1
    rw [show items.drop i = d :: items.drop (i + 1) by rw [List.drop_eq_getElem_cons hlt]; congr 1; exact (List.getElem?_eq_some_iff.mp hgi).2, dictL] at hc
    refine ir.item A H W' _ _ _ i d r.hand hgi K.it K.S ok' fun v h₂ tk₂ xv it₂ hk₂ => ?_
    obtain ⟨S2, L2, im2⟩ := free_step K.S K.L (· = I) hk₂ (fun b q => q ▸ K.fI) (fun b o q e => by subst q; rw [eI] at e; cases e; exact nI)
    obtain ⟨mm, hn⟩ := K.ns
    have hn₂ : h₂.Ns C mm := hn.at' fun o e => hk₂ _ o (Ne.symm K.IC) e
    refine wpAny_mono (bindC_sound (s := { s₂ with heap := h₂, toks := tk₂ }) (C := C) hc r.hand rfl T.kind (fun x hx => lookup_relabel (by decide) (T.names x hx)) T.dnames hn₂ (xv.imm im2)) (fun _ s₃ z => ?_) fun _ _ e => e
    obtain ⟨h₃, tk₃, m', mm', rfl, hk₃, hn₃, hc, hm', hl₃, hf₃⟩ := z
    have nC : ∀ b o, (fun b => b = C) b → h₂.get? b = some o → ¬ Im o := fun b o q e => by
      obtain ⟨o', es, ep, e', hd', _⟩ := hn₂
      have q : b = C := q
      subst q; rw [e'] at e; cases e; simp [Im, hd']
    obtain ⟨S3, L3, im3⟩ := free_step S2 L2 (· = C) hk₃ (fun b q => q ▸ K.fC) nC
    have K3 : Turn1 P env sc H W' h₃ m I C It (i + 1) :=
      ⟨S3, L3, ir.keep _ _ _ it₂ (fun o e => hk₃ _ o K.IC e) im3, K.fI, K.fC, K.IC, K.Cz, ⟨mm', hn₃⟩⟩
    rw [hm] at hm'
    refine wpAny_tests_nil ?_
    simp only [if_true]
    refine inner1 (s := { s₂ with heap := h₃, toks := tk₃ }) (tr := eval kx) (R := Val _) ir N T r fr fi eo K3 hm hn₃ (fun x av e q => let ⟨w, e1, e2⟩ := hl₃ x av e q; ⟨w, e1, e2.imm im3⟩) hf₃ (ihK _ m' W' _ hm' hc) fun kv W₄ h₄ tk₄ K4 hl4 im4 ⟨dk, xk, hc4⟩ => ?_
    obtain ⟨mm4, hn4, hl4⟩ := hl4
    refine inner1 (s := { s₂ with heap := h₄, toks := tk₄ }) (tr := eval vx) (R := Val _) ir N T r fr fi eo K4 hm hn4 hl4 hf₃ (ihV _ m' W₄ _ hm' hc4) fun vv W₅ h₅ tk₅ K5 hl5 im5 ⟨dv, xvv, ik, l, hk5, hD5, hnew5, hz5, ok5, hc5⟩ => ?_
    obtain ⟨tok, rfl⟩ : ∃ t, kv = .int ik t := by rw [hk5] at xk; cases xk; exact ⟨_, rfl⟩
    obtain ⟨kvs, dd, e1, e2⟩ := (K5.S.cell _ _ hD5).2
    have hl : kvs.length = l.length := by rw [← List.length_map (f := (·.1)), e1, List.length_map]
    refine dictSet_new (s := { s₂ with heap := h₅, toks := tk₅ }) (intKind_is P.prog P.w ik tok) dd (by rw [e1]; exact hnew5) (by unfold sizeLine; omega) fun h₆ dd' hs₆ => ?_
    have k6 : ∀ b o, b ≠ D → h₅.get? b = some o → h₆.get? b = some o := fun b o q e => hs₆.extBut b o q e
    obtain ⟨S6, im6⟩ := K5.S.turn (h' := h₆) (c := .dict (l ++ [(ik, dv)])) (by rw [hs₆.1]; exact K5.S.size) hD5 k6 fun i =>
      ⟨_, by rw [List.length_append]; exact dd', by simp [e1], by
        rw [List.map_append, List.map_append]
        exact (e2.imm i).append (.cons (xvv.imm i) .nil)⟩
    have L6 := K5.L.turn hD5 (c := .dict (l ++ [(ik, dv)])) k6 im6
    have ne6 : ∀ {a}, Free P H W₅ (Own env) a → a ≠ D := fun f q => by have := f.2.2.1; rw [q, hD5] at this; cases this
    have keep6 : ∀ {a}, Free P H W₅ (Own env) a → Free P H (upd W₅ D (.dict (l ++ [(ik, dv)]))) (Own env) a := fun {a} f => ⟨f.1, f.2.1, by simp only [upd, ne6 f, if_false]; exact f.2.2.1, f.2.2.2⟩
    obtain ⟨mm5, hn5⟩ := K5.ns
    exact ⟨items.length + 1 - (i + 1), by omega, h₆, _, i + 1, _, rfl, rfl, hlt,
      ⟨S6, L6, ir.keep _ _ _ K5.it (fun o e => k6 _ o (ne6 K5.fI) e) im6, keep6 K5.fI, keep6 K5.fC, K5.IC, K5.Cz, ⟨mm5, hn5.at' fun o e => k6 _ o (ne6 K5.fC) e⟩⟩, ok5, ((((i'.trans im2).trans im3).trans im4).trans im5).trans im6, hc5⟩
theorem dictBlock {kx vx iter : PySem.Expr} {tx : Str} {tp : Pos} {scope : Scope} {pos : Pos} {s₂ : Shared} {I : Addr} {It : Nat → Heap → Prop} {items : List AV} {okk : Store → Prop} {ns : List Str} {Fs : List Env} {E : Value → Shared → Prop} {RR : Value → Addr → Result → Shared → Prop}
    {kV vV : Vars → Store → (AV → Store → Prop) → Prop} {Qf : Addr → Store → Prop}
    (ir : Itr P items okk I It) (T : CompTxt sc ns scope (.Name tx tp)) (r : Rdy A n) (fr : A.frames = some Fs) (fi : FrIn Fs env H) (eo : EnvOk env sc) (hm : m.map (·.1) = ns)
    (S : St P H W s₂.heap) (L : Loc P env sc H W s₂.heap m) (hit : It 0 s₂.heap) (fI : Free P H W (Own env) I) (hok : ∀ D c, W D = none → okk (upd W D c))
    (ihK : ∀ C m' W' Q', m'.map (·.1) = tx :: ns → kV m' W' Q' → EV P n (compEnvC scope (closeL env scope.names []) C env) scope.names m' W' (eval kx (compEnvC scope (closeL env scope.names []) C env)) (Val Q') (fun _ => False))
    (ihV : ∀ C m' W' Q', m'.map (·.1) = tx :: ns → vV m' W' Q' → EV P n (compEnvC scope (closeL env scope.names []) C env) scope.names m' W' (eval vx (compEnvC scope (closeL env scope.names []) C env)) (Val Q') (fun _ => False))
    (hL : ∀ D, W D = none → dictL (fun v k => bindC (.Name tx tp) v m k) kV vV okk D (Qf D) items (upd W D (.dict [])))
    (hRR : ∀ D C h' tk W', St P H W' h' → Loc P env sc H W' h' m → Imm s₂.heap h' → Free P H W' (Own env) C → (∃ mm, h'.Ns C mm) → Qf D W' → RR (.ref D) C (.ok .next) { s₂ with heap := h', toks := tk }) :
    wpAny (model P.prog P.w) A newDict (fun acc s₃ => wpAny (model P.prog P.w) A (newFunctionEnv scope env.globals (closeL env scope.names []) [] env.qual none .none (some env)) (fun cenv s₄ =>
      codeAny (model P.prog P.w) A (.compStart (.DictComp kx vx [⟨.Name tx tp, iter, [], 0⟩] scope pos) 0 (.ref I) acc { cenv with scope := relabel scope env }) (RR acc cenv.locals) s₄) E s₃) E s₂ := by
  have N : NestOk env sc scope (closeL env scope.names []) := T.nest
  obtain ⟨oI₀, vI₀, eI₀, dI₀, nI₀⟩ := ir.there _ _ hit
  refine wpAny_newObj_type (wpAny_newFunctionEnv T.nocell (by intro y hy; simp at hy) (fun h₁ hns₁ hsb₁ => ?_) T.kind)
  dsimp only at hns₁ hsb₁ ⊢
  have hnew : (s₂.heap.push { cls := .type "dict", dict := none, data := .dict #[] }).DictAt (intKind P.prog P.w) s₂.heap.objs.size [] 0 :=
    ⟨_, #[], Heap.get?_push_size _ rfl, ⟨rfl, rfl, rfl⟩, rfl, fun _ he => by simp at he, Pairs.nil, List.nodup_nil⟩
  generalize hH2 : s₂.heap.push { cls := .type "dict", dict := none, data := .dict #[] } = H2 at hns₁ hsb₁ hnew ⊢
  have hC : H2.objs.size = s₂.heap.objs.size + 1 := by rw [← hH2, Heap.size_push]
  have old : ∀ b o, s₂.heap.get? b = some o → h₁.get? b = some o := fun b o e => hsb₁.extBut b o (Nat.ne_of_lt (by rw [hC]; exact Nat.lt_succ_of_lt (Heap.lt_size e))) (Heap.get?_push_of_some _ (hH2 ▸ Heap.get?_push_of_some _ e))
  have hDC : s₂.heap.objs.size ≠ H2.objs.size := by rw [hC]; exact Nat.ne_of_lt (Nat.lt_succ_self _)
  have hacc : h₁.DictAt (intKind P.prog P.w) s₂.heap.objs.size [] 0 := hnew.at' fun o e => hsb₁.extBut _ _ hDC (Heap.get?_push_of_some _ e)
  have hsz : s₂.heap.objs.size ≤ h₁.objs.size := Nat.le_of_lt hacc.lt_size
  have hIlt : I < s₂.heap.objs.size := Heap.lt_size eI₀
  have i₁ : Imm s₂.heap h₁ := Imm.of_keeps old
  have wD : W s₂.heap.objs.size = none := S.noW (fresh_ge (Nat.le_refl _))
  obtain ⟨S₁, L₁, _⟩ := added S L (S.more hsz old) (L.more old) (a := s₂.heap.objs.size) (c := .dict []) (Nat.le_refl _) ⟨[], hacc, rfl, .nil⟩
  have keepF : ∀ {a}, a ≠ s₂.heap.objs.size → Free P H W (Own env) a → Free P H (upd W s₂.heap.objs.size (.dict [])) (Own env) a := fun {a} hne f => ⟨f.1, f.2.1, by simp only [upd, hne, if_false]; exact f.2.2.1, f.2.2.2⟩
  have fC : Free P H W (Own env) H2.objs.size := by
    have : s₂.heap.objs.size ≤ H2.objs.size := by rw [hC]; exact Nat.le_succ _
    exact ⟨fresh_ge (Nat.le_trans S.size this), S.noH (fresh_ge this), S.noW (fresh_ge this), L.notOwn (fresh_ge this)⟩
  have K₁ : Turn1 P env sc H (upd W s₂.heap.objs.size (.dict [])) h₁ m I H2.objs.size It 0 :=
    ⟨S₁, L₁, ir.keep _ _ _ hit (fun o e => old _ o e) i₁, keepF (Nat.ne_of_lt hIlt) fI, keepF (Ne.symm hDC) fC, Nat.ne_of_lt (by rw [hC]; exact Nat.lt_succ_of_lt hIlt), Nat.le_trans S.size (by rw [hC]; exact Nat.le_succ _), ⟨_, hns₁⟩⟩
  have loop := dictTurns (tk₁ := s₂.toks + ([] : List (Str × Value)).length) (iter := iter) (pos := pos) (RR := RR (.ref s₂.heap.objs.size) H2.objs.size) ir T r fr fi eo hm ihK ihV K₁ (hok _ _ wD) i₁ (hL _ wD) fun h' tk W' a b c d e f => hRR _ _ h' tk W' a b c d e f
  exact codeAny_compStart_dict loop (ir.self A _ _ _ 0 K₁.it loop)
end

section
variable {P : Px} {n : Nat} {env : Env} {sc : Names} {m : Vars} {W : Store} {X : Store → Prop}

theorem Ns_keeps {h h' : Heap} {a : Addr} {mm : Str → Option Value} (x : h.Ns a mm) (k : ∀ o, h.get? a = some o → h'.get? a = some o) : h'.Ns a mm :=
  let ⟨o, es, ep, e, r⟩ := x; ⟨o, es, ep, k o e, r⟩
theorem look_of {x : Str} {v : AV} (h : m.lookup x = some (some v)) : look m x = some v := by simp [look, h]
theorem none_of {x : Str} (h : m.lookup x = none) : (m.map (·.1)).contains x = false := by
  cases q : (m.map (·.1)).contains x with
  | false => rfl
  | true =>
    obtain ⟨⟨y, c⟩, hm, e⟩ := List.mem_map.mp (List.contains_iff_mem.mp q)
    simp only at e; subst e
    obtain ⟨c', e'⟩ := lookup_of_mem hm
    rw [h] at e'; cases e'
theorem some_of {x : Str} {c : Option AV} (h : m.lookup x = some c) : (m.map (·.1)).contains x = true := List.contains_iff_mem.mpr (List.mem_map.mpr ⟨_, lookup_mem h, rfl⟩)

def nameV (P : Px) (m : Vars) (x : Str) (W : Store) (Q : AV → Store → Prop) : Prop := match m.lookup x with
  | some (some v) => Q v W
  | some none => False
  | none => ∃ v, P.glob x = some v ∧ Q v W

theorem name_any (ok : PxOk P) {x : Str} {Q : AV → Store → Prop} (hk : nameOk sc (m.map (·.1)) x = true) (hq : nameV P m x W Q) {A : Around} {H : Hid} {s : Shared} {E : Value → Shared → Prop} (eo : EnvOk env sc) (S : St P H W s.heap) (L : Loc P env sc H W s.heap m) :
    ∀ {Qc : Value → Shared → Prop}, (∀ w d, VR s.heap w d → Q d W → Qc w s) → wpAny (model P.prog P.w) A (loadName env x) Qc E s := by
  intro Qc hQ
  simp only [nameOk, Bool.and_eq_true, bne_iff_ne, ne_eq] at hk
  obtain ⟨⟨h1, h2⟩, h3⟩ := hk
  unfold nameV at hq
  split at hq
  · rename_i v e
    rw [if_pos (some_of e)] at h3
    have hl := look_of e
    have h3 : sc.lookup x = some .local ∨ sc.lookup x = some .cell ∨ sc.lookup x = some .free := by
      simp only [plainKind, Bool.or_eq_true, beq_iff_eq] at h3
      rcases h3 with (h3 | h3) | h3
      · exact .inl h3
      · exact .inr (.inl h3)
      · exact .inr (.inr h3)
    rcases h3 with h3 | h3
    · obtain ⟨mm, hn, hm⟩ := L.ns
      obtain ⟨w, ew, xw⟩ := hm x v hl h3
      exact wpAny_loadName_local eo.kind (eo.loc x h3) hn ew (hQ _ _ xw hq)
    · obtain ⟨c, vo, ec, z, y⟩ := L.cells x h3
      obtain ⟨w, rfl, xw⟩ := y v hl
      have : env.kindOf x = some .cell ∨ env.kindOf x = some .free := by
        rcases h3 with h3 | h3
        · exact .inl (eo.cel x h3)
        · exact eo.fre x h3
      rcases this with q | q
      · exact wpAny_loadName_cell eo.kind q ec z (hQ _ _ xw hq)
      · exact wpAny_loadName_free eo.kind q ec z (hQ _ _ xw hq) (beq_eq_false_iff_ne.mpr h2)
  · exact hq.elim
  · rename_i e
    rw [if_neg (by rw [none_of e]; decide)] at h3
    have h3 : sc.lookup x = some .globalImplicit := by simpa using h3
    obtain ⟨v, hg, hq⟩ := hq
    obtain ⟨mg, mb, ng, nb, hall⟩ := ok.glb
    obtain ⟨w, hw, xw⟩ := hall x v hg
    have im : Imm P.h₀ s.heap := Imm.of_keeps S.keep
    have ng' : s.heap.Ns env.globals mg := by rw [eo.glb]; exact Ns_keeps ng (S.keep _)
    have nb' : s.heap.Ns env.builtins mb := by rw [eo.blt]; exact Ns_keeps nb (S.keep _)
    have fin := hQ _ _ (xw.imm im) hq
    unfold loadName
    simp only [Env.blockKind, eo.kind, eo.gi x h3, ScopeKind.isAnnotationScope, Bool.false_and, Bool.false_eq_true, if_false]
    rcases hw with hw | ⟨hw1, hw2⟩
    · exact loadGlobal_global ng' hw fin
    · exact loadGlobal_builtin ng' hw1 nb' hw2 fin
theorem name_load (ok : PxOk P) {x : Str} {Q : AV → Store → Prop} (hk : nameOk sc (m.map (·.1)) x = true) (hq : nameV P m x W Q) : EV P n env sc m W (loadName env x) (Val Q) X :=
  fun _ _ _ _ _ _ _ eo S L _ => name_any ok hk hq eo S L fun _ _ x q => done1 S L x q
theorem name_sound (ok : PxOk P) {x : Str} {p : Pos} {Q : AV → Store → Prop} (hk : nameOk sc (m.map (·.1)) x = true) (hq : nameV P m x W Q) : EV P n env sc m W (eval (.Name x p) env) (Val Q) X := by
  intro A H s Fs r fr fi eo S L _
  refine wpAny_Name (name_load (n := n) ok hk hq A H s Fs r fr fi eo S L trivial) ?_
  simp only [nameOk, Bool.and_eq_true, bne_iff_ne, ne_eq] at hk
  exact beq_eq_false_iff_ne.mpr hk.1.1

theorem xid {s : Shared} {H : Hid} {e : Value} {s' : Shared} (x : XPp P env sc H s (fun m' W' => m' = m ∧ X W') e s') : XPp P env sc H s (fun m' W' => m' = m ∧ X W') e s' := x

/-- two, one behind the other -/
theorem two {a b : PySem.Expr} {R : Heap → Value → Store → Prop} {f : Value → Value → Sem Value} {G : AV → AV → Store → Prop}
    (h1 : EV P n env sc m W (eval a env) (Val fun v W₁ => EV P n env sc m W₁ (eval b env) (Val fun u W₂ => G v u W₂) X) X)
    (h2 : ∀ v u W₂ x y, G v u W₂ → EV P n env sc m W₂ (f x y) R X fun h => VR h x v ∧ VR h y u) :
    ∀ (A : Around) (H : Hid) (s : Shared) (Fs : List Env), Rdy A n → A.frames = some Fs → FrIn Fs env H → EnvOk env sc → St P H W s.heap → Loc P env sc H W s.heap m →
    wpAny (model P.prog P.w) A (eval a env) (fun x s₁ => wpAny (model P.prog P.w) A (eval b env) (fun y s₂ => wpAny (model P.prog P.w) A (f x y) (EVp P env sc H m s R) (XPp P env sc H s fun m' W' => m' = m ∧ X W') s₂) (XPp P env sc H s fun m' W' => m' = m ∧ X W') s₁) (XPp P env sc H s fun m' W' => m' = m ∧ X W') s := by
  intro A H s Fs r fr fi eo S L
  refine h1.go r fr fi eo S L trivial (fun _ _ x => x) fun x W₁ h₁ tk₁ S₁ L₁ i₁ ⟨v, xv, q⟩ => ?_
  refine EV.go q (s := { s with heap := h₁, toks := tk₁ }) r fr fi eo S₁ L₁ trivial (fun _ _ x => x.from rfl i₁) fun y W₂ h₂ tk₂ S₂ L₂ i₂ ⟨u, xu, q⟩ => ?_
  exact wpAny_mono (h2 v u W₂ x y q A H { s with heap := h₂, toks := tk₂ } Fs r fr fi eo S₂ L₂ ⟨xv.imm i₂, xu⟩) (fun _ _ z => z.from rfl (i₁.trans i₂)) fun _ _ z => z.from rfl (i₁.trans i₂)

theorem base_eq {o : PySem.Expr} (h : noCallE o = true) (x : Str) (whole : Sem Value) : attributeBase o x env whole = whole := by
  cases o <;> first | rfl | cases h

theorem val_mono {Q Q' : AV → Store → Prop} {h : Heap} {v : Value} {W' : Store} (x : Val Q h v W') (f : ∀ d, Q d W' → Q' d W') : Val Q' h v W' := let ⟨d, a, b⟩ := x; ⟨d, a, f d b⟩
end

section
variable {P : Px} {n : Nat} {env : Env} {sc : Names} {m : Vars} {W : Store} {X : Store → Prop}

theorem folded {it : PySem.Expr} (h : notSet it = true) (x : Value) : foldedSetIterable it env x = pure x := by
  cases it <;> first | rfl | cases h

/-- after the block: what is left of C, and the new cell -/
theorem left_behind {H : Hid} {h' h'' : Heap} {C : Addr} (S : St P H W h') (L : Loc P env sc H W h' m) (fC : Free P H W (Own env) C) {mm : Str → Option Value} (hn : h'.Ns C mm) (hs : Heap.SameBut C h' h'') :
    St P H W h'' ∧ Loc P env sc H W h'' m ∧ Imm h' h'' ∧ ∀ b o, b ≠ C → h'.get? b = some o → h''.get? b = some o := by
  have k : ∀ b o, b ≠ C → h'.get? b = some o → h''.get? b = some o := fun b o q e => hs.extBut b o q e
  obtain ⟨S2, L2, i2⟩ := free_step S L (· = C) k (fun b q => q ▸ fC) (fun b o q e => by
    refine cps fun kk => ?_
    obtain ⟨o', es, ep, e', hd', _⟩ := hn
    refine kk ?_
    clear kk
    have q : b = C := q
    subst q; rw [e'] at e; cases e; simp [Im, hd'])
  exact ⟨S2, L2, i2, k⟩

def TstOk (P : Px) (n : Nat) (env : Env) (scope : Scope) (ns' : List Str) (ifs : List PySem.Expr) (tstV : Vars → Store → (Bool → Store → Prop) → Prop) : Prop :=
  ∀ C m' W' Q', m'.map (·.1) = ns' → tstV m' W' Q' → EV P n (compEnvC scope (closeL env scope.names []) C env) scope.names m' W' (tst ifs (compEnvC scope (closeL env scope.names []) C env)) (Tst Q') (fun _ => False)
def EltOk (P : Px) (n : Nat) (env : Env) (scope : Scope) (ns' : List Str) (elt : PySem.Expr) (eltV : Vars → Store → (AV → Store → Prop) → Prop) : Prop :=
  ∀ C m' W' Q', m'.map (·.1) = ns' → eltV m' W' Q' → EV P n (compEnvC scope (closeL env scope.names []) C env) scope.names m' W' (eval elt (compEnvC scope (closeL env scope.names []) C env)) (Val Q') (fun _ => False)

theorem listComp_sound (ok : PxOk P) {elt it t : PySem.Expr} {ifs : List PySem.Expr} {scope : Scope} {pos : Pos} {tstV : Vars → Store → (Bool → Store → Prop) → Prop} {eltV : Vars → Store → (AV → Store → Prop) → Prop} {Q : AV → Store → Prop}
    (T : CompTxt sc (m.map (·.1)) scope t) (hset : notSet it = true)
    (hIt : EV P n env sc m W (eval it env) (Val fun src W₁ => ∃ items okk, Src W₁ src items okk ∧ compL (fun v k => bindC t v m k) tstV eltV okk (fun ys W₂ => ys.length ≤ 1000 ∧ new W₂ (.list ys) Q) items [] W₁) X)
    (ihT : TstOk P n env scope (compNames t ++ m.map (·.1)) ifs tstV) (ihE : EltOk P n env scope (compNames t ++ m.map (·.1)) elt eltV) :
    EV P n env sc m W (eval (.ListComp elt [⟨t, it, ifs, 0⟩] scope pos) env) (Val Q) X := by
  intro A H s Fs r fr fi eo S L _
  rw [eval_ListComp]
  refine wpAny_comprehension_free (use := none) rfl (folded hset) (NestOk.closure T.nest L) T.kind (fun x hx hl => (T.loc x hx hl).1) ?_
  refine hIt.go r fr fi eo S L trivial (fun _ _ x => x) fun xv W₁ h₁ tk₁ S₁ L₁ i₁ ⟨src, xs, items, okk, hsrc, hL⟩ => ?_
  refine iter_src ok hsrc r.hand S₁ xs fun o It ir hit => ?_
  have old : ∀ b o', h₁.get? b = some o' → (h₁.push o).get? b = some o' := fun b o' e => Heap.get?_push_of_some _ e
  have S₂ := S₁.more (h' := h₁.push o) (by simp) old
  have L₂ := L₁.more (h' := h₁.push o) old
  refine listBlock (s₂ := { s with heap := h₁.push o, toks := tk₁ }) ir (src_len hsrc) T r fr fi eo rfl S₂ L₂ hit ⟨fresh_ge S₁.size, S₁.noH (fresh_ge (Nat.le_refl _)), S₁.noW (fresh_ge (Nat.le_refl _)), L₁.notOwn (fresh_ge (Nat.le_refl _))⟩ (src_ok hsrc).1 ihT ihE hL ?_
  intro D C h' tk W' ys nn ds S' L' im fD fC hCD hg hv ⟨mm, hn⟩ ⟨hz, hq⟩
  refine ⟨mm, hn, fun h'' hs'' => ?_⟩
  refine cps fun kk => ?_
  obtain ⟨S2, L2, i2, k⟩ := left_behind S' L' fC hn hs''
  refine kk ?_
  clear kk
  refine ⟨_, h'', tk, rfl, S2.add fD.2.1 fD.1 (c := .list ds) ⟨nn, ys, k D _ (Ne.symm hCD) hg, hv.imm i2⟩, L2.add fD.2.2.2, ?_, .ref D, .ref D, hq D fD.2.2.1⟩
  exact ((i₁.trans (Imm.of_keeps old)).trans im).trans i2

theorem dictComp_sound (ok : PxOk P) {kx vx it : PySem.Expr} {tx : Str} {tp : Pos} {scope : Scope} {pos : Pos} {kV vV : Vars → Store → (AV → Store → Prop) → Prop} {Q : AV → Store → Prop}
    (T : CompTxt sc (m.map (·.1)) scope (.Name tx tp)) (hset : notSet it = true)
    (hIt : EV P n env sc m W (eval it env) (Val fun src W₁ => ∃ items okk, Src W₁ src items okk ∧ ∀ D, W₁ D = none → dictL (fun v k => bindC (.Name tx tp) v m k) kV vV okk D (fun W₂ => Q (.ref D) W₂) items (upd W₁ D (.dict []))) X)
    (ihK : EltOk P n env scope (tx :: m.map (·.1)) kx kV) (ihV : EltOk P n env scope (tx :: m.map (·.1)) vx vV) :
    EV P n env sc m W (eval (.DictComp kx vx [⟨.Name tx tp, it, [], 0⟩] scope pos) env) (Val Q) X := by
  intro A H s Fs r fr fi eo S L _
  rw [arm_eval_DictComp]
  refine wpAny_comprehension_free (use := none) rfl (folded hset) (NestOk.closure T.nest L) T.kind (fun x hx hl => (T.loc x hx hl).1) ?_
  refine hIt.go r fr fi eo S L trivial (fun _ _ x => x) fun xv W₁ h₁ tk₁ S₁ L₁ i₁ ⟨src, xs, items, okk, hsrc, hL⟩ => ?_
  refine iter_src ok hsrc r.hand S₁ xs fun o It ir hit => ?_
  have old : ∀ b o', h₁.get? b = some o' → (h₁.push o).get? b = some o' := fun b o' e => Heap.get?_push_of_some _ e
  have S₂ := S₁.more (h' := h₁.push o) (by simp) old
  have L₂ := L₁.more (h' := h₁.push o) old
  refine dictBlock (s₂ := { s with heap := h₁.push o, toks := tk₁ }) (Qf := fun D W₂ => Q (.ref D) W₂) ir T r fr fi eo rfl S₂ L₂ hit ⟨fresh_ge S₁.size, S₁.noH (fresh_ge (Nat.le_refl _)), S₁.noW (fresh_ge (Nat.le_refl _)), L₁.notOwn (fresh_ge (Nat.le_refl _))⟩ (src_ok hsrc).2 ihK ihV hL ?_
  intro D C h' tk W' S' L' im fC ⟨mm, hn⟩ hq
  refine ⟨mm, hn, fun h'' hs'' => ?_⟩
  refine cps fun kk => ?_
  obtain ⟨S2, L2, i2, k⟩ := left_behind S' L' fC hn hs''
  refine kk ?_
  clear kk
  exact ⟨_, h'', tk, rfl, S2, L2, ((i₁.trans (Imm.of_keeps old)).trans im).trans i2, .ref D, .ref D, hq⟩

theorem dict_nil {pos : Pos} {Q : AV → Store → Prop} (hq : new W (.dict []) Q) : EV P n env sc m W (eval (.Dict [] [] pos) env) (Val Q) X := by
  intro A H s Fs r fr fi eo S L _
  rw [eval_Dict_empty]
  refine wpAny_bind (wpAny_standAt (wpAny_newObj_type ?_))
  have old : ∀ b o', s.heap.get? b = some o' → (s.heap.push { cls := .type "dict", data := .dict #[] }).get? b = some o' := fun b o' e => Heap.get?_push_of_some _ e
  refine cps fun kk => ?_
  obtain ⟨S2, L2, w0⟩ := added S L (S.more (by simp) old) (L.more old) (a := s.heap.objs.size) (c := .dict []) (Nat.le_refl _) ⟨[], ⟨_, #[], Heap.get?_push_size _ rfl, ⟨rfl, rfl, rfl⟩, rfl, fun _ he => by simp at he, Pairs.nil, List.nodup_nil⟩, rfl, .nil⟩
  refine kk ?_
  clear kk
  exact ⟨_, _, s.toks, rfl, S2, L2, Imm.of_keeps old, _, .ref _, hq _ w0⟩

theorem tuple_sound {l : Store → (List AV → Store → Prop) → Prop} {es : List PySem.Expr} {kk : Nat} {pos : Pos} {Q : AV → Store → Prop} (hl : LOk P n env sc m X es l) (hz : es.length ≤ 100)
    (hq : l W fun vs W₁ => Q (.tup vs) W₁) : EV P n env sc m W (eval (.Tuple es kk pos) env) (Val Q) X := by
  intro A H s Fs r fr fi eo S L _
  refine Tuple_ ((hl.ok pos W _ hq).go r fr fi eo S L trivial (fun _ _ x => x) fun vs W₁ h₁ tk₁ S₁ L₁ i₁ ⟨ds, xs, el, q⟩ => ?_)
  have hll := xs.length
  refine wpAny_newObj_type ?_ (by show vs.toArray.size ≤ sizeLine; rw [List.size_toArray]; unfold sizeLine; omega)
  have old : ∀ b o', h₁.get? b = some o' → (h₁.push { cls := .type "tuple", data := .seq vs.toArray }).get? b = some o' := fun b o' e => Heap.get?_push_of_some _ e
  have im := Imm.of_keeps old
  exact ⟨W₁, _, tk₁, rfl, S₁.more (by simp) old, L₁.more old, i₁.trans im, .tup ds, .tup ⟨_, Heap.get?_push_size _ rfl, rfl, _, rfl⟩ (xs.imm im), q⟩

theorem list_sound {l : Store → (List AV → Store → Prop) → Prop} {es : List PySem.Expr} {pos : Pos} {Q : AV → Store → Prop} (hl : LOk P n env sc m X es l) (hz : es.length ≤ 100)
    (hq : l W fun vs W₁ => new W₁ (.list vs) Q) : EV P n env sc m W (eval (.List es pos) env) (Val Q) X := by
  intro A H s Fs r fr fi eo S L _
  refine List_ ((hl.ok pos W _ hq).go r fr fi eo S L trivial (fun _ _ x => x) fun vs W₁ h₁ tk₁ S₁ L₁ i₁ ⟨ds, xs, el, q⟩ => ?_)
  have hll := xs.length
  refine wpAny_newObj_type ?_ (by show vs.toArray.size ≤ sizeLine; rw [List.size_toArray]; unfold sizeLine; omega)
  have old : ∀ b o', h₁.get? b = some o' → (h₁.push { cls := .type "list", data := .seq vs.toArray }).get? b = some o' := fun b o' e => Heap.get?_push_of_some _ e
  have im := Imm.of_keeps old
  refine cps fun kk => ?_
  obtain ⟨S2, L2, w0⟩ := added S₁ L₁ (S₁.more (by simp) old) (L₁.more old) (a := h₁.objs.size) (c := .list ds) (Nat.le_refl _) ⟨_, vs, Heap.get?_push_size _ rfl, xs.imm im⟩
  refine kk ?_
  clear kk
  exact ⟨_, _, tk₁, rfl, S2, L2, i₁.trans im, _, .ref _, q _ w0⟩

theorem attr_sound (ok : PxOk P) {o : PySem.Expr} {x : Str} {pos : Pos} {Q : AV → Store → Prop} (hc : noCallE o = true) (h : EV P n env sc m W (eval o env) (Val fun a W₁ => attrOk P a x W₁ Q) X) : EV P n env sc m W (eval (.Attribute o x pos) env) (Val Q) X := by
  intro A H s Fs r fr fi eo S L _
  refine Attribute_any_ (h.go r fr fi eo S L trivial (fun _ _ x => x) fun v W₁ h₁ tk₁ S₁ L₁ i₁ ⟨d, xd, q⟩ => ?_) (by rw [arm_eval_Attribute, base_eq hc])
  exact wpAny_mono (attrOk_sound (n := n) (X := X) ok d x q v true A H { s with heap := h₁, toks := tk₁ } Fs r fr fi eo S₁ L₁ xd) (fun _ _ z => z.from rfl i₁) fun _ _ z => z.from rfl i₁

theorem sub_sound {o i : PySem.Expr} {pos : Pos} {Q : AV → Store → Prop} (h : EV P n env sc m W (eval o env) (Val fun a W₁ => EV P n env sc m W₁ (eval i env) (Val fun b W₂ => subOk a b W₂ Q) X) X) : EV P n env sc m W (eval (.Subscript o i pos) env) (Val Q) X := by
  intro A H s Fs r fr fi eo S L _
  exact PyProof.Rows.Subscript_ (two (f := fun x y => subscriptTail o i x y) (G := fun a b W₂ => subOk a b W₂ Q) h (fun v u W₂ x y q => subOk_sound v u q x y o i) A H s Fs r fr fi eo S L)

theorem subSlice_sound {o i : PySem.Expr} {pos : Pos} {hi : Option Nat} (hs : isSlice i = some hi) {Q : AV → Store → Prop} (h : EV P n env sc m W (eval o env) (Val fun a W₁ => sliceOk P a hi W₁ Q) X) : EV P n env sc m W (eval (.Subscript o i pos) env) (Val Q) X := by
  intro A H s Fs r fr fi eo S L _
  refine PyProof.Rows.Subscript_ (h.go r fr fi eo S L trivial (fun _ _ x => x) fun v W₁ h₁ tk₁ S₁ L₁ i₁ ⟨d, xd, q⟩ => ?_)
  refine wpAny_mono (slice_sound (s := { s with heap := h₁, toks := tk₁ }) d i hi hs q v o S₁ L₁ xd) (fun iv s₂ z => wpAny_mono z (fun _ _ z => z.from rfl i₁) fun _ _ z => z) fun _ _ z => z

theorem tlen : ∀ i : Fin 100, ((toString ((i.val : Nat) : Int) : String) : Str).length ≤ 4 := by decide +kernel
theorem joined_sound {v : PySem.Expr} {pre : Str} {k : Nat} {p p' p'' : Pos} {Q : AV → Store → Prop} (hz : pre.length ≤ 1000)
    (h : EV P n env sc m W (eval v env) (Val fun a W₁ => ∃ i : Int, a = .int i ∧ 0 ≤ i ∧ i < 100 ∧ ∀ s, Q (.str s) W₁) X) : EV P n env sc m W (eval (.JoinedStr [.Constant (.str pre) k p, .FormattedValue v (-1) none p'] p'') env) (Val Q) X := by
  intro A H s Fs r fr fi eo S L _
  refine wpAny_JoinedStr (wpAny_Constant_str ⟨pre, _, rfl, ?_, ?_⟩)
  · rw [strLen_append, show Str.empty.length = 0 from rfl]; unfold sizeLine; omega
  · refine wpAny_FormattedValue_plain ?_
    refine h.go (s := { s with toks := s.toks + 1 }) r fr fi eo S L trivial (fun _ _ x => x.from rfl (.refl _)) fun w W₁ h₁ tk₁ S₁ L₁ i₁ ⟨d, xd, i, hd, h0, h1, q⟩ => ?_
    subst hd
    cases xd
    rename_i t
    have hi : i = ((i.toNat : Nat) : Int) := by omega
    have hl := tlen ⟨i.toNat, by omega⟩
    simp only at hl
    rw [← hi] at hl
    have hlog : i.natAbs.log2 < 1920 := by
      have h2 : i.natAbs < 100 := by omega
      by_cases h3 : i.natAbs = 0
      · rw [h3]; decide
      · have := (Nat.log2_lt h3 (k := 7)).mpr (Nat.lt_of_lt_of_le h2 (by decide))
        omega
    refine wpAny_formatField_int hlog ⟨_, _, rfl, ?_, ?_⟩
    · rw [strLen_append, strLen_append, show Str.empty.length = 0 from rfl]
      unfold sizeLine
      omega
    · refine ⟨?_, W₁, h₁, _, rfl, S₁, L₁, i₁, _, .str _ _, q _⟩
      rw [strLen_append, strLen_append, show Str.empty.length = 0 from rfl]
      unfold sizeLine
      omega
end

section
variable {P : Px} {n : Nat} {env : Env} {sc : Names} {m : Vars} {W : Store} {X : Store → Prop}
theorem EV.up {α : Type} {t : Sem α} {R : Heap → α → Store → Prop} {Pre : Heap → Prop} {k : Nat} (h : EV P k env sc m W t R X Pre) (hk : k ≤ n := by omega) : EV P n env sc m W t R X Pre := h.less hk

/-- one, and what is done with it -/
theorem one {α : Type} {a : Sem α} {R : Heap → α → Store → Prop} {R' : Heap → Value → Store → Prop} {f : α → Sem Value} (h1 : EV P n env sc m W a R X) (h2 : ∀ x W₁, EV P n env sc m W₁ (f x) R' X fun h => R h x W₁) :
    ∀ (A : Around) (H : Hid) (s : Shared) (Fs : List Env), Rdy A n → A.frames = some Fs → FrIn Fs env H → EnvOk env sc → St P H W s.heap → Loc P env sc H W s.heap m →
    wpAny (model P.prog P.w) A a (fun x s₁ => wpAny (model P.prog P.w) A (f x) (EVp P env sc H m s R') (XPp P env sc H s fun m' W' => m' = m ∧ X W') s₁) (XPp P env sc H s fun m' W' => m' = m ∧ X W') s := by
  intro A H s Fs r fr fi eo S L
  refine h1.go r fr fi eo S L trivial (fun _ _ x => x) fun x W₁ h₁ tk₁ S₁ L₁ i₁ q => ?_
  exact wpAny_mono (h2 x W₁ A H { s with heap := h₁, toks := tk₁ } Fs r fr fi eo S₁ L₁ q) (fun _ _ z => z.from rfl i₁) fun _ _ z => z.from rfl i₁

theorem const_sound {c : Const} {kk : Nat} {p : Pos} {Q : AV → Store → Prop} (hq : match c with
      | .none => Q .none W
      | .bool b => Q (.bool b) W
      | .int i => Q (.int i) W
      | .str s => Q (.str s) W
      | .bytes b => Q (.bytes b.toArray) W
      | _ => False) : EV P n env sc m W (eval (.Constant c kk p) env) (Val Q) X := by
  intro A H s Fs r fr fi eo S L _
  cases c <;> first | exact hq.elim | skip
  · exact wpAny_Constant_none (done1 S L .none hq)
  · exact wpAny_Constant_bool (done1 S L (.bool _) hq)
  · exact wpAny_Constant_int (done0 S L (.int _ _) hq)
  · exact wpAny_Constant_str (done0 S L (.str _ _) hq)
  · exact Constant_bytes (done0 S L (.bytes _ _) hq)

theorem cmp_sound (ok : PxOk P) {l r : PySem.Expr} {op : CmpOp} {p : Pos} {Q : AV → Store → Prop} (hm : behindInMarks op r = false) (hn : 4 ≤ n)
    (h : EV P n env sc m W (eval l env) (Val fun a W₁ => EV P n env sc m W₁ (eval r env) (Val fun b W₂ => cmpOk op a b W₂ fun t W₃ => Q (.bool t) W₃) X) X) : EV P n env sc m W (eval (.Compare l [op] [r] p) env) (Val Q) X := by
  intro A H s Fs rd fr fi eo S L _
  refine wpAny_Compare1 (two (f := fun x y => compareOp op x y) (G := fun a b W₂ => cmpOk op a b W₂ fun t W₃ => Q (.bool t) W₃) h (fun v u W₂ x y q => ?_) A H s Fs rd fr fi eo S L) hm
  intro A H s Fs rd fr fi eo S L pre
  refine wpAny_mono (cmpOk_sound (n := n) (X := X) ok op v u q x y hn A H s Fs rd fr fi eo S L pre) (fun a s' z => ?_) fun _ _ z => z
  refine cps fun kk => ?_
  obtain ⟨W', h', tk', e, S', L', i, t, rfl, q⟩ := z
  refine kk ?_
  clear kk
  exact ⟨W', h', tk', e, S', L', i, _, .bool t, q⟩

theorem cmpT_sound (ok : PxOk P) {l r : PySem.Expr} {op : CmpOp} {p : Pos} {whole : Sem Value} {Q : Bool → Store → Prop} (hm : behindInMarks op r = false) (hn : 4 ≤ n)
    (h : EV P n env sc m W (eval l env) (Val fun a W₁ => EV P n env sc m W₁ (eval r env) (Val fun b W₂ => cmpOk op a b W₂ Q) X) X) : EV P n env sc m W (isTrue (.Compare l [op] [r] p) env whole) (Tst Q) X := by
  intro A H s Fs rd fr fi eo S L _
  refine wpAny_isTrue_Compare1 ?_ hm
  refine h.go rd fr fi eo S L trivial (fun _ _ x => x) fun x W₁ h₁ tk₁ S₁ L₁ i₁ ⟨v, xv, q⟩ => ?_
  refine EV.go q (s := { s with heap := h₁, toks := tk₁ }) rd fr fi eo S₁ L₁ trivial (fun _ _ x => x.from rfl i₁) fun y W₂ h₂ tk₂ S₂ L₂ i₂ ⟨u, xu, q⟩ => ?_
  refine (cmpOk_sound (n := n) (X := X) ok op v u q x y hn).go (s := { s with heap := h₂, toks := tk₂ }) rd fr fi eo S₂ L₂ ⟨xv.imm i₂, xu⟩ (fun _ _ x => x.from rfl (i₁.trans i₂)) fun c W₃ h₃ tk₃ S₃ L₃ i₃ ⟨t, e, q⟩ => ?_
  subst e
  exact wpAny_truthy_bool ⟨W₃, h₃, tk₃, rfl, S₃, L₃, (i₁.trans i₂).trans i₃, q⟩

theorem boolop_sound {a b : PySem.Expr} {op : BoolOp} {p : Pos} {Q : AV → Store → Prop}
    (h : EV P n env sc m W (eval a env) (Val fun v W₁ => truOk v W₁ fun t W₂ => match op, t with
        | .And, true => EV P n env sc m W₂ (eval b env) (Val Q) X
        | .And, false => Q v W₂
        | .Or, true => Q v W₂
        | .Or, false => EV P n env sc m W₂ (eval b env) (Val Q) X) X) : EV P n env sc m W (eval (.BoolOp op [a, b] p) env) (Val Q) X := by
  intro A H s Fs rd fr fi eo S L _
  cases op
  all_goals first | refine wpAny_And2 ?_ | refine wpAny_Or2 ?_
  all_goals
    refine h.go rd fr fi eo S L trivial (fun _ _ x => x) fun x W₁ h₁ tk₁ S₁ L₁ i₁ ⟨v, xv, q⟩ => ?_
    refine (truOk_sound (n := n) (X := X) v q x).go (s := { s with heap := h₁, toks := tk₁ }) rd fr fi eo S₁ L₁ xv (fun _ _ x => x.from rfl i₁) fun t W₂ h₂ tk₂ S₂ L₂ i₂ q => ?_
    have q : _ := q
    cases t
    all_goals
      first
        | exact ⟨W₂, h₂, tk₂, rfl, S₂, L₂, i₁.trans i₂, v, xv.imm i₂, q⟩
        | exact wpAny_mono (q A H { s with heap := h₂, toks := tk₂ } Fs rd fr fi eo S₂ L₂ trivial) (fun _ _ z => z.from rfl (i₁.trans i₂)) fun _ _ z => z.from rfl (i₁.trans i₂)

theorem boolT_sound {a b : PySem.Expr} {op : BoolOp} {p : Pos} {whole : Sem Value} {Q : Bool → Store → Prop}
    (h : EV P n env sc m W (isTrue a env (eval a env)) (Tst fun t W₁ => match op, t with
        | .And, true => EV P n env sc m W₁ (isTrue b env (eval b env)) (Tst Q) X
        | .And, false => Q false W₁
        | .Or, true => Q true W₁
        | .Or, false => EV P n env sc m W₁ (isTrue b env (eval b env)) (Tst Q) X) X) : EV P n env sc m W (isTrue (.BoolOp op [a, b] p) env whole) (Tst Q) X := by
  intro A H s Fs rd fr fi eo S L _
  refine wpAny_isTrue_BoolOp ?_
  cases op
  all_goals first | refine wpAny_allTrue_And_cons ?_ | refine wpAny_allTrue_Or_cons ?_
  all_goals
    refine h.go rd fr fi eo S L trivial (fun _ _ x => x) fun t W₁ h₁ tk₁ S₁ L₁ i₁ q => ?_
    have q : _ := q
    cases t
    all_goals
      first
        | exact ⟨W₁, h₁, tk₁, rfl, S₁, L₁, i₁, q⟩
        | skip
  · refine wpAny_allTrue_And_cons (EV.go (n := n) (env := env) (sc := sc) (m := m) (W := W₁) (R := Tst Q) (X := X) (Pre := fun _ => True) q (s := { s with heap := h₁, toks := tk₁ }) rd fr fi eo S₁ L₁ trivial (fun _ _ z => z.from rfl i₁) fun t W₂ h₂ tk₂ S₂ L₂ i₂ q => ?_)
    cases t
    · exact ⟨W₂, h₂, tk₂, rfl, S₂, L₂, i₁.trans i₂, q⟩
    · exact wpAny_allTrue_And_nil ⟨W₂, h₂, tk₂, rfl, S₂, L₂, i₁.trans i₂, q⟩
  · refine wpAny_allTrue_Or_cons (EV.go (n := n) (env := env) (sc := sc) (m := m) (W := W₁) (R := Tst Q) (X := X) (Pre := fun _ => True) q (s := { s with heap := h₁, toks := tk₁ }) rd fr fi eo S₁ L₁ trivial (fun _ _ z => z.from rfl i₁) fun t W₂ h₂ tk₂ S₂ L₂ i₂ q => ?_)
    cases t
    · exact wpAny_allTrue_Or_nil ⟨W₂, h₂, tk₂, rfl, S₂, L₂, i₁.trans i₂, q⟩
    · exact ⟨W₂, h₂, tk₂, rfl, S₂, L₂, i₁.trans i₂, q⟩

structure Call (P : Px) (n : Nat) (f : AV) (vs : List AV) (W : Store) (Q : AV → Store → Prop) (X : Store → Prop) : Prop where
  out : vcCall P n f vs W Q X
theorem callName_sound (ok : PxOk P) {l : Store → (List AV → Store → Prop) → Prop} {x : Str} {p pos : Pos} {es : List PySem.Expr} {k : Nat} (hk : k ≤ n) {Q : AV → Store → Prop}
    (hl : LOk P n env sc m X es l)
    (h : EV P n env sc m W (eval (.Name x p) env) (Val fun a W₁ => l W₁ fun vs W₂ => Call P k a vs W₂ Q X) X) : EV P n env sc m W (eval (.Call (.Name x p) es [] pos) env) (Val Q) X := by
  intro A H s Fs rd fr fi eo S L _
  rw [arm_eval_Call_Name']
  refine wpAny_bind ?_
  refine h.go rd fr fi eo S L trivial (fun _ _ x => x) fun vf W₁ h₁ tk₁ S₁ L₁ i₁ ⟨a, xa, q⟩ => ?_
  show wpAny _ A (callWith pos vf [] (backTo pos (starEach es env)) []) _ _ _
  have kp : ∀ {vs : List AV} {W₂ : Store}, Call P k a vs W₂ Q X → KeepOk P vf := fun {vs W₂} q => by
    have q := q.out
    cases a <;> first | exact q.elim | skip
    · cases xa; exact q.1
    · cases xa; trivial
    · cases xa; trivial
  refine callWith_of (P := fun h => KeepOk P vf ∧ ∀ a o, P.h₀.get? a = some o → h.get? a = some o) (by rw [any_star pos hl.plain]; rfl) (fun h k => keeps_any ok k.1 h k.2) ?_
  refine (args_sound pos vf hl q).go (s := { s with heap := h₁, toks := tk₁ }) rd fr fi eo S₁ L₁ trivial (fun _ _ x => x.from rfl i₁) fun args W₂ h₂ tk₂ S₂ L₂ i₂ ⟨vs, ds, e, xs, q⟩ => ?_
  subst e
  refine ⟨⟨kp q, S₂.keep⟩, ?_⟩
  exact wpAny_mono ((vcCall_sound (X := X) q.out vf vs).up (n := n) hk A H { s with heap := h₂, toks := tk₂ } Fs rd fr fi eo S₂ L₂ ⟨xa.imm i₂, xs⟩) (fun _ _ z => z.from rfl (i₁.trans i₂)) fun _ _ z => z.from rfl (i₁.trans i₂)

theorem callMeth_sound (ok : PxOk P) {l : Store → (List AV → Store → Prop) → Prop} {o : PySem.Expr} {x : Str} {apos pos : Pos} {es : List PySem.Expr} {Q : AV → Store → Prop}
    (hl : LOk P n env sc m X es l) (hlen : es.length < 30) (hline : (apos.endLine == pos.line) = true) (hc : noCallE o = true) {k : Nat} (hkn : k ≤ n)
    (h : EV P n env sc m W (eval o env) (Val fun a W₁ => methAt P k a x l W₁ Q X) X) : EV P n env sc m W (eval (.Call (.Attribute o x apos) es [] pos) env) (Val Q) X := by
  intro A H s Fs rd fr fi eo S L _
  rw [arm_eval_Call, base_eq hc]
  refine wpAny_bind ?_
  refine h.go rd fr fi eo S L trivial (fun _ _ x => x) fun ov W₁ h₁ tk₁ S₁ L₁ i₁ ⟨a, xa, q⟩ => ?_
  refine wpAny_bind (wpAny_standAt ?_)
  show wpAny _ A (methodCall o x apos pos env ov (es.length + 0) (backTo pos (starEach es env)) []) _ _ _
  exact wpAny_mono (methAt_sound ok o apos pos hl hlen hline hkn a x q ov A H { s with heap := h₁, toks := tk₁ } Fs rd fr fi eo S₁ L₁ xa) (fun _ _ z => z.from rfl i₁) fun _ _ z => z.from rfl i₁

theorem isTrue_val {e : PySem.Expr} {Q : Bool → Store → Prop} (he : isTrue e env (eval e env) = (do let v ← eval e env; standAt e.pos; holding [v] (truthy v)))
    (h : EV P n env sc m W (eval e env) (Val fun a W₁ => truOk a W₁ Q) X) : EV P n env sc m W (isTrue e env (eval e env)) (Tst Q) X := by
  intro A H s Fs rd fr fi eo S L _
  refine wpAny_isTrue_value ?_ he
  refine h.go rd fr fi eo S L trivial (fun _ _ x => x) fun v W₁ h₁ tk₁ S₁ L₁ i₁ ⟨a, xa, q⟩ => ?_
  exact wpAny_mono (truOk_sound (n := n) (X := X) a q v A H { s with heap := h₁, toks := tk₁ } Fs rd fr fi eo S₁ L₁ xa) (fun _ _ z => z.from rfl i₁) fun _ _ z => z.from rfl i₁

theorem not_sound {x : PySem.Expr} {p : Pos} {Q : AV → Store → Prop} (h : EV P n env sc m W (eval x env) (Val fun a W₁ => truOk a W₁ fun t W₂ => Q (.bool (!t)) W₂) X) : EV P n env sc m W (eval (.UnaryOp .Not x p) env) (Val Q) X := by
  intro A H s Fs rd fr fi eo S L _
  refine wpAny_UnaryOp ?_
  refine h.go rd fr fi eo S L trivial (fun _ _ x => x) fun v W₁ h₁ tk₁ S₁ L₁ i₁ ⟨a, xa, q⟩ => not_value ?_
  refine (truOk_sound (n := n) (X := X) a q v).go (s := { s with heap := h₁, toks := tk₁ }) rd fr fi eo S₁ L₁ xa (fun _ _ z => z.from rfl i₁) fun t W₂ h₂ tk₂ S₂ L₂ i₂ q => ?_
  exact ⟨W₂, h₂, tk₂, rfl, S₂, L₂, i₁.trans i₂, _, .bool _, q⟩

theorem neg_sound {x : PySem.Expr} {p : Pos} {Q : AV → Store → Prop} (h : EV P n env sc m W (eval x env) (Val fun a W₁ => ∃ i, a = .int i ∧ Q (.int (-i)) W₁) X) : EV P n env sc m W (eval (.UnaryOp .USub x p) env) (Val Q) X := by
  intro A H s Fs rd fr fi eo S L _
  refine wpAny_UnaryOp ?_
  refine h.go rd fr fi eo S L trivial (fun _ _ x => x) fun v W₁ h₁ tk₁ S₁ L₁ i₁ ⟨a, xa, i, e, q⟩ => ?_
  subst e
  cases xa
  exact PyProof.Rows.neg_int ⟨W₁, h₁, _, rfl, S₁, L₁, i₁, _, .int _ _, q⟩

theorem bin_sound {l r : PySem.Expr} {op : Operator} {p : Pos} {Q : AV → Store → Prop}
    (h : EV P n env sc m W (eval l env) (Val fun a W₁ => EV P n env sc m W₁ (eval r env) (Val fun b W₂ => binOk op a b W₂ Q) X) X) : EV P n env sc m W (eval (.BinOp l op r p) env) (Val Q) X := by
  intro A H s Fs rd fr fi eo S L _
  exact wpAny_BinOp (two (f := fun x y => binaryOp op x y) (G := fun a b W₂ => binOk op a b W₂ Q) h (fun v u W₂ x y q => binOk_sound op v u q x y) A H s Fs rd fr fi eo S L)

theorem notT_sound {x : PySem.Expr} {p : Pos} {whole : Sem Value} {Q : Bool → Store → Prop} (h : EV P n env sc m W (isTrue x env (eval x env)) (Tst fun t W₁ => Q (!t) W₁) X) : EV P n env sc m W (isTrue (.UnaryOp .Not x p) env whole) (Tst Q) X := by
  intro A H s Fs rd fr fi eo S L _
  exact wpAny_isTrue_Not (wpAny_mono (h A H s Fs rd fr fi eo S L trivial) (fun _ _ ⟨W', h', tk', e, S, L, i, q⟩ => ⟨W', h', tk', e, S, L, i, q⟩) fun _ _ z => z)

theorem EV.val {t : Sem Value} {Q Q' : AV → Store → Prop} (h : EV P n env sc m W t (Val Q) X) (f : ∀ a W, Q a W → Q' a W) : EV P n env sc m W t (Val Q') X :=
  fun A H s Fs a b c d e g i => wpAny_mono (h A H s Fs a b c d e g i) (fun _ _ ⟨W', h', tk', e, S', L', i, dd, x, q⟩ => ⟨W', h', tk', e, S', L', i, dd, x, f _ _ q⟩) fun _ _ z => z
theorem EV.tst {t : Sem Bool} {Q Q' : Bool → Store → Prop} (h : EV P n env sc m W t (Tst Q) X) (f : ∀ a W, Q a W → Q' a W) : EV P n env sc m W t (Tst Q') X :=
  fun A H s Fs a b c d e g i => wpAny_mono (h A H s Fs a b c d e g i) (fun _ _ ⟨W', h', tk', e, S', L', i, q⟩ => ⟨W', h', tk', e, S', L', i, f _ _ q⟩) fun _ _ z => z

theorem truOk_mono {a : AV} {Q Q' : Bool → Store → Prop} (h : truOk a W Q) (f : ∀ t W, Q t W → Q' t W) : truOk a W Q' := by
  cases a <;> first | exact h.elim | exact f _ _ h | skip
  refine cps fun kk => ?_
  obtain ⟨l, h1, h2, h3⟩ := h
  refine kk ?_
  clear kk
  exact ⟨l, h1, h2, f _ _ h3⟩

end

def Noted (h : Heap) (x : Addr) : Prop := ∃ oe vs T, h.get? x = some oe ∧ oe.data = .fields vs ∧ vs[1]? = some (.ref T)

section
variable {P : Px} {n : Nat} {env : Env} {sc : Names} {H : Hid} {m : Vars} {W : Store} {h h' : Heap}

theorem upd_free (S : St P H W h) (L : Loc P env sc H W h m) {a : Addr} {o : Obj} (fa : Free P H W (Own env) a) (ha : h.get? a = some o) (ni : ¬ Im o) (g : Obj → Obj) (hg : (g o).isFreed = false) :
    St P H W (h.update a g) ∧ Loc P env sc H W (h.update a g) m ∧ Imm h (h.update a g) ∧ (∀ b o, b ≠ a → h.get? b = some o → (h.update a g).get? b = some o) ∧ (h.update a g).get? a = some (g o) := by
  have k : ∀ b o, b ≠ a → h.get? b = some o → (h.update a g).get? b = some o := fun b o q e => (Heap.get?_update_other _ _ (Ne.symm q)).trans e
  obtain ⟨S', L', i⟩ := free_step S L (· = a) k (fun b q => q ▸ fa) (fun b o q e => by have q : b = a := q; subst q; rw [ha] at e; cases e; exact ni)
  exact ⟨S', L', i, k, Heap.get?_update_self _ ha hg⟩

theorem fun_frames (S : St P H W h) (L : Loc P env sc H W h m) : ∀ {Fs : List Env}, FrIn Fs env H → h.FunFrames noHeap Fs
  | [], _ => trivial
  | e :: r, fi => by
    obtain ⟨hk, F, hF, q⟩ := fi e (.head _)
    refine ⟨hk, ?_, fun_frames S L fun e he => fi e (.tail _ he)⟩
    rcases q with rfl | ⟨o, e1, es, ep, e2⟩
    · obtain ⟨o, es, ep, ho, hd⟩ := L.nsThere
      exact ⟨_, o, hF, noHeap_get _, ho, fun vs q => by rw [hd] at q; cases q⟩
    · obtain ⟨_, _, o', ho', l⟩ := S.hid F o e1
      exact ⟨_, o', hF, noHeap_get _, ho', fun vs q => by rw [l.2.2.1, e2] at q; cases q⟩

/-- the frames' own slots turned -/
theorem slots_step (S : St P H W h) (L : Loc P env sc H W h m) {Fs : List Env} (fi : FrIn Fs env H) (hs : Heap.SlotsOnly (Fs.filterMap (·.frame)) h h') :
    St P H W h' ∧ Loc P env sc H W h' m ∧ Imm h h' ∧ ∀ b o, Free P H W (Own env) b → h.get? b = some o → h'.get? b = some o := by
  have inD : ∀ F, F ∈ Fs.filterMap (·.frame) → (F = env.locals ∨ ∃ o, H F = some o) ∧ ∃ o es ep, h.get? F = some o ∧ o.data = .dict es ep := fun F hm => by
    obtain ⟨e, he, hf⟩ := List.mem_filterMap.mp hm
    obtain ⟨_, F', hF, q⟩ := fi e he
    rw [hF] at hf; cases hf
    rcases q with rfl | ⟨o, e1, es, ep, e2⟩
    · obtain ⟨o, es, ep, ho, hd⟩ := L.nsThere
      exact ⟨.inl rfl, o, es, ep, ho, hd⟩
    · obtain ⟨_, _, o', ho', l⟩ := S.hid F o e1
      exact ⟨.inr ⟨o, e1⟩, o', es, ep, ho', l.2.2.1.trans e2⟩
  have k : ∀ b o, ¬ b ∈ Fs.filterMap (·.frame) → h.get? b = some o → h'.get? b = some o := fun b o q e => (hs.2.1 b q).trans e
  have lk : ∀ b o, h.get? b = some o → ∃ o', h'.get? b = some o' ∧ Like o o' := fun b o e => by
    by_cases q : b ∈ Fs.filterMap (·.frame)
    · obtain ⟨_, o₁, es, ep, e1, e2⟩ := inD b q
      rw [e] at e1; cases e1
      obtain ⟨sl, e'⟩ := hs.2.2 b o e
      exact ⟨_, e', .of_slots ⟨es, ep, e2⟩⟩
    · exact ⟨o, k b o q e, .refl o⟩
  have i : Imm h h' := fun b o e z => k b o (fun q => by
    obtain ⟨_, o₁, es, ep, e1, e2⟩ := inD b q
    rw [e] at e1; cases e1
    simp [Im, e2] at z) e
  refine ⟨S.step (by rw [hs.1]; exact S.size) (· ∈ Fs.filterMap (·.frame)) W (fun a o e q => k a o q e) i (fun a q => ?_) (fun a o o₁ e q e₁ => lk a o₁ e₁) (fun a o e => (S.hid a o e).2.1) (fun a c e => .inr ⟨fun q => ?_, e⟩), L.keep (fun a o _ e => lk a o e) i fun a ha => (L.own a ha).2, i, fun b o f e => k b o (fun q => ?_) e⟩
  · rcases (inD a q).1 with rfl | ⟨o, e⟩
    · exact fresh_ge (L.own _ (.inl rfl)).1
    · exact (S.hid a o e).1
  · rcases (inD a q).1 with rfl | ⟨o, e'⟩
    · rw [(L.own _ (.inl rfl)).2.2] at e; cases e
    · rw [(S.hid a o e').2.1] at e; cases e
  · rcases (inD b q).1 with rfl | ⟨o, e'⟩
    · exact f.2.2.2 (.inl rfl)
    · rw [f.2.1] at e'; cases e'

section
variable {A : Around} {E : Value → Shared → Prop} {s : Shared} {outer : List Env} {F x : Addr}
theorem notIm_exc {oe : Obj} {C : Addr} (h : oe.cls = .ref C) : ¬ Im oe := fun q => by
  rcases q with ⟨q, _⟩ | ⟨q, _⟩ <;> (rw [h] at q; cases q)
theorem notIm_tb {oe : Obj} (h : oe.cls = .type "traceback") : ¬ Im oe := fun q => by
  rcases q with ⟨q, _⟩ | ⟨q, _⟩ <;> (rw [h] at q; simp at q)

theorem entry_ok {hadNext : Bool} {head : Value} {Q : Unit → Shared → Prop} (hfr : A.frames = some (env :: outer)) (hf : env.frame = some F) (fi : FrIn (env :: outer) env H) (S : St P H W s.heap) (L : Loc P env sc H W s.heap m)
    (fx : Free P H W (Own env) x) {oe : Obj} {vs : Array Value} (he : s.heap.get? x = some oe) (hc : oe.cls = .ref P.X) (hd : oe.data = .fields vs) (hz : 1 < vs.size)
    (hQ : ∀ h', St P H W h' → Loc P env sc H W h' m → Imm s.heap h' → Exc P H W (Own env) h' x → Noted h' x → Q () { s with heap := h' }) :
    wpAny (model P.prog P.w) A (do let a ← frameOf env; let pl ← entryPlaceOf F hadNext; let b ← EntryCells.newEntry head a .none (rawInt F) .none pl; setField (.ref x) 1 b) Q E s := by
  refine wpAny_bind (wpAny_frameOf_fun hfr (fun_frames S L fi) hf fun h₁ hs₁ => ?_)
  obtain ⟨S₁, L₁, i₁, k₁⟩ := slots_step S L fi hs₁
  refine wpAny_bind (wpAny_entryPlaceOf fun pl hpl => ?_)
  unfold EntryCells.newEntry newFields
  refine wpAny_bind (wpAny_newObj_type ?_ (hpl.sizeOk5 _ _ _ _ _))
  have he₁ := k₁ x oe fx he
  have old : ∀ (o : Obj) b o', h₁.get? b = some o' → (h₁.push o).get? b = some o' := fun o b o' e => Heap.get?_push_of_some _ e
  have S₂ := fun o => S₁.more (h' := h₁.push o) (by simp) (old o)
  have L₂ := fun o => L₁.more (h' := h₁.push o) (old o)
  have hT := Heap.get?_push_size h₁ (o := { cls := .type "traceback", dict := none, data := .fields ([head, .ref F, .none, rawInt F, .none] ++ (if pl.isEmpty then List.replicate 6 Value.none else pl)).toArray }) rfl
  have hne : h₁.objs.size ≠ x := Nat.ne_of_gt (Heap.lt_size he₁)
  refine wpAny_setField (old _ _ _ he₁) hd hz ?_
  obtain ⟨S₃, L₃, i₃, k₃, g₃⟩ := upd_free (S₂ _) (L₂ _) fx (old _ _ _ he₁) (notIm_exc hc) (Obj.mapFields (·.setIfInBounds 1 (Value.ref h₁.objs.size))) (Obj.isFreed_of_fields (Obj.data_mapFields hd _))
  have hd₃ := Obj.data_mapFields hd (·.setIfInBounds 1 (Value.ref h₁.objs.size))
  refine hQ _ S₃ L₃ ((i₁.trans (Imm.of_keeps (old _))).trans i₃) ⟨fx, _, _, g₃, (Obj.cls_mapFields _ _).trans hc, hd₃, by simpa using hz, .inr ⟨h₁.objs.size, _, _, by simp [hz], ⟨fresh_ge S₁.size, S₁.noH (fresh_ge (Nat.le_refl _)), S₁.noW (fresh_ge (Nat.le_refl _)), L₁.notOwn (fresh_ge (Nat.le_refl _))⟩, hne, k₃ _ _ hne hT, rfl, rfl, ?_⟩⟩ ⟨_, _, h₁.objs.size, g₃, hd₃, by simp [hz]⟩
  simp only [List.size_toArray, List.length_append, List.length_cons, List.length_nil]
  omega

theorem note_ok {Q : Unit → Shared → Prop} (hfr : A.frames = some (env :: outer)) (hf : env.frame = some F) (fi : FrIn (env :: outer) env H) (S : St P H W s.heap) (L : Loc P env sc H W s.heap m) (X : Exc P H W (Own env) s.heap x)
    (hQ : ∀ h', St P H W h' → Loc P env sc H W h' m → Imm s.heap h' → Exc P H W (Own env) h' x → Noted h' x → Q () { s with heap := h' }) :
    wpAny (model P.prog P.w) A (noteFrame (.ref x) env) Q E s := by
  obtain ⟨fx, oe, vs, he, hc, hd, hz, h1⟩ := id X
  unfold noteFrame
  simp only [hf]
  rcases h1 with h1 | ⟨T, oT, ts, h1, fT, hTx, hT, hTc, hdT, hzT⟩
  · refine wpAny_bind (wpAny_field he hd h1 ?_)
    rw [if_neg (by decide)]
    exact entry_ok hfr hf fi S L fx he hc hd hz hQ
  · refine wpAny_bind (wpAny_field he hd h1 ?_)
    rw [if_pos (show (Value.ref T != Value.none) = true from by simp)]
    refine wpAny_bind (wpAny_field hT hdT (Array.getElem?_eq_getElem hzT) ?_)
    by_cases hq : (ts[3] == rawInt F) = true
    · rw [if_pos hq]
      exact wpAny_pure (hQ s.heap S L (.refl _) X ⟨oe, vs, T, he, hd, h1⟩)
    · rw [if_neg hq]
      refine wpAny_bind (wpAny_setField hT hdT hzT ?_)
      obtain ⟨S₃, L₃, i₃, k₃, g₃⟩ := upd_free S L fT hT (notIm_tb hTc) (Obj.mapFields (·.setIfInBounds 3 Value.none)) (Obj.isFreed_of_fields (Obj.data_mapFields hdT _))
      exact entry_ok (s := { s with heap := _ }) hfr hf fi S₃ L₃ fx (k₃ x oe (Ne.symm hTx) he) hc hd hz fun h' a b c => hQ h' a b (i₃.trans c)

theorem flight_ok {fl : Option Addr} {Q : Unit → Shared → Prop} (S : St P H W s.heap) (L : Loc P env sc H W s.heap m) (X : Exc P H W (Own env) s.heap x)
    (hQ : ∀ h', St P H W h' → Loc P env sc H W h' m → Imm s.heap h' → Exc P H W (Own env) h' x → (Noted s.heap x → Noted h' x) → Q () { s with heap := h' }) :
    wpAny (model P.prog P.w) A (setFlight (.ref x) fl) Q E s := by
  obtain ⟨fx, oe, vs, he, hc, hd, hz, h1⟩ := id X
  unfold setFlight
  rcases h1 with h1 | ⟨T, oT, ts, h1, fT, hTx, hT, hTc, hdT, hzT⟩
  · refine wpAny_bind (wpAny_field he hd h1 ?_)
    rw [if_neg (by decide)]
    exact wpAny_pure (hQ s.heap S L (.refl _) X id)
  · refine wpAny_bind (wpAny_field he hd h1 ?_)
    rw [if_pos (show (Value.ref T != Value.none) = true from by simp)]
    refine wpAny_setField hT hdT hzT ?_
    obtain ⟨S₃, L₃, i₃, k₃, g₃⟩ := upd_free S L fT hT (notIm_tb hTc) (Obj.mapFields (·.setIfInBounds 3 (fl.elim Value.none fun f => rawInt f))) (Obj.isFreed_of_fields (Obj.data_mapFields hdT _))
    have he₃ := k₃ x oe (Ne.symm hTx) he
    exact hQ _ S₃ L₃ i₃ ⟨fx, oe, vs, he₃, hc, hd, hz, .inr ⟨T, _, _, h1, fT, hTx, g₃, (Obj.cls_mapFields _ _).trans hTc, Obj.data_mapFields hdT _, by simpa using hzT⟩⟩ fun _ => ⟨oe, vs, T, he₃, hd, h1⟩

theorem back_ok {E : Value → Shared → Prop} (S : St P H W s.heap) (L : Loc P env sc H W s.heap m) (X : Exc P H W (Own env) s.heap x) (N : Noted s.heap x)
    (hQ : ∀ h', St P H W h' → Loc P env sc H W h' m → Imm s.heap h' → Exc P H W (Own env) h' x → E (.ref x) { s with heap := h' }) : cameBackBy (model P.prog P.w) A env E (.ref x) s := by
  obtain ⟨oe, vs, T, he, hd, h1⟩ := id N
  unfold cameBackBy
  refine wpAny_bind (wpAny_field he hd h1 ?_)
  rw [if_neg (show ¬ ((Value.ref T == Value.none) = true) from by simp)]
  exact flight_ok S L X fun h' a b c d _ => hQ h' a b c d
end
end

theorem setv_names : ∀ {m : Vars} {x : Str} {v : AV}, x ∈ m.map (·.1) → (setv m x v).map (·.1) = m.map (·.1)
  | [], x, v, h => by simp at h
  | (y, u) :: r, x, v, h => by
    simp only [setv]
    by_cases e : x = y
    · rw [if_pos (by simpa using e)]; rfl
    · rw [if_neg (by simpa using e), List.map_cons, List.map_cons, setv_names]
      rw [List.map_cons, List.mem_cons] at h
      exact h.resolve_left e

section
variable {P : Px} {n : Nat} {env : Env} {sc : Names} {H : Hid} {m : Vars} {W : Store} {h h' : Heap}

theorem own_step (S : St P H W h) (L : Loc P env sc H W h m) {a : Addr} (ha : Own env a) (k : ∀ b o, b ≠ a → h.get? b = some o → h'.get? b = some o) (hz : h'.objs.size = h.objs.size) : St P H W h' ∧ Imm h h' := by
  have i : Imm h h' := fun b o e z => k b o (fun q => by
    subst q
    refine cps fun kk => ?_
    obtain ⟨o', e', ni, _⟩ := L.there ha
    refine kk ?_
    clear kk
    rw [e] at e'; cases e'; exact ni z) e
  have own := L.own a ha
  exact ⟨S.step (by rw [hz]; exact S.size) (· = a) W (fun b o e q => k b o q e) i (fun b q => q ▸ fresh_ge own.1) (fun b o o₁ e q => by have q : b = a := q; rw [q, own.2.1] at e; cases e) (fun b o e => (S.hid b o e).2.1) (fun b c e => .inr ⟨fun q => (by have q : b = a := q; rw [q, own.2.2] at e; cases e), e⟩), i⟩

theorem store_sound {A : Around} {E : Value → Shared → Prop} {s : Shared} {x : Str} {v : AV} {vv : Value} (hk : storeOk sc (m.map (·.1)) x = true) (eo : EnvOk env sc) (S : St P H W s.heap) (L : Loc P env sc H W s.heap m) (xv : VR s.heap vv v) {Q : Unit → Shared → Prop}
    (hQ : ∀ h' tk, St P H W h' → Loc P env sc H W h' (setv m x v) → Imm s.heap h' → (∀ b o, ¬ Own env b → s.heap.get? b = some o → h'.get? b = some o) → Q () { s with heap := h', toks := tk }) : wpAny (model P.prog P.w) A (storeName env x vv) Q E s := by
  simp only [storeOk, Bool.and_eq_true, Bool.or_eq_true, beq_iff_eq] at hk
  obtain ⟨hin, hk⟩ := hk
  refine cps fun kk => ?_
  obtain ⟨mm, hn, hm⟩ := L.ns
  refine kk ?_
  clear kk
  rcases hk with hk | hk
  · refine wpAny_storeName_local (eo.loc x hk) hn (fun h' n' hs => ?_) (by rw [eo.kind]; rfl)
    have k : ∀ b o, b ≠ env.locals → s.heap.get? b = some o → h'.get? b = some o := fun b o q e => hs.extBut b o q e
    obtain ⟨S', i⟩ := own_step S L (.inl rfl) k hs.1
    refine hQ h' _ S' ⟨L.own, ⟨_, n', fun y av e q => ?_⟩, fun y q => ?_, fun y c hc => ?_, L.apart⟩ i fun b o q e => k b o (fun z => q (.inl z)) e
    · rw [look_setv] at e
      by_cases hy : y = x
      · subst hy
        rw [if_pos rfl] at e; cases e
        exact ⟨vv, by simp, xv.imm i⟩
      · rw [if_neg hy] at e
        refine cps fun kk => ?_
        obtain ⟨w, ew, xw⟩ := hm y av e q
        refine kk ?_
        clear kk
        exact ⟨w, by simp [hy, ew], xw.imm i⟩
    · have hy : y ≠ x := fun e => by subst e; rw [hk] at q; rcases q with q | q <;> cases q
      refine cps fun kk => ?_
      obtain ⟨c, vo, e, z, f⟩ := L.cells y q
      refine kk ?_
      clear kk
      refine ⟨c, vo, e, ?_, fun av ea => ?_⟩
      · refine cps fun kk => ?_
        obtain ⟨o, eo', hd⟩ := z
        refine kk ?_
        clear kk
        refine ⟨o, k c o (fun q => ?_) eo', hd⟩
        refine cps fun kk => ?_
        obtain ⟨o', es, ep, e', hd', _⟩ := hn
        refine kk ?_
        clear kk
        rw [q, e'] at eo'; cases eo'; rw [hd] at hd'; cases hd'
      · rw [look_setv, if_neg hy] at ea
        refine cps fun kk => ?_
        obtain ⟨w, ew, xw⟩ := f av ea
        refine kk ?_
        clear kk
        exact ⟨w, ew, xw.imm i⟩
    · refine cps fun kk => ?_
      obtain ⟨vo, o, eo', hd⟩ := L.celli y c hc
      refine kk ?_
      clear kk
      refine ⟨vo, o, k c o (fun q => ?_) eo', hd⟩
      refine cps fun kk => ?_
      obtain ⟨o', es, ep, e', hd', _⟩ := hn
      refine kk ?_
      clear kk
      rw [q, e'] at eo'; cases eo'; rw [hd] at hd'; cases hd'
  · refine cps fun kk => ?_
    obtain ⟨c, vo, ec, z, f⟩ := L.cells x (.inl hk)
    refine kk ?_
    clear kk
    refine wpAny_storeName_cell eo.kind (eo.cel x hk) ec z fun h' z' hs => ?_
    have k : ∀ b o, b ≠ c → s.heap.get? b = some o → h'.get? b = some o := fun b o q e => hs.extBut b o q e
    have oc : Own env c := .inr ⟨x, lookup_mem ec⟩
    obtain ⟨S', i⟩ := own_step S L oc k hs.1
    have hcl : env.locals ≠ c := fun q => by
      refine cps fun kk => ?_
      obtain ⟨o, eo', hd⟩ := z
      refine kk ?_
      clear kk
      refine cps fun kk => ?_
      obtain ⟨o', es, ep, e', hd', _⟩ := hn
      refine kk ?_
      clear kk
      rw [← q, e'] at eo'; cases eo'; rw [hd] at hd'; cases hd'
    refine hQ h' s.toks S' ⟨L.own, ⟨mm, hn.at' fun o e => k _ o hcl e, fun y av e q => ?_⟩, fun y q => ?_, fun y c' hc => ?_, L.apart⟩ i fun b o q e => k b o (fun z => q (z ▸ oc)) e
    · have hy : y ≠ x := fun e => by subst e; rw [hk] at q; cases q
      rw [look_setv, if_neg hy] at e
      refine cps fun kk => ?_
      obtain ⟨w, ew, xw⟩ := hm y av e q
      refine kk ?_
      clear kk
      exact ⟨w, ew, xw.imm i⟩
    · by_cases hy : y = x
      · subst hy
        refine ⟨c, _, ec, z', fun av ea => ?_⟩
        rw [look_setv, if_pos rfl] at ea; cases ea
        exact ⟨vv, rfl, xv.imm i⟩
      · refine cps fun kk => ?_
        obtain ⟨c', vo', e, ⟨o, eo', hd⟩, f'⟩ := L.cells y q
        refine kk ?_
        clear kk
        refine ⟨c', vo', e, ⟨o, k c' o (cells_ne L.apart e ec hy) eo', hd⟩, fun av ea => ?_⟩
        rw [look_setv, if_neg hy] at ea
        refine cps fun kk => ?_
        obtain ⟨w, ew, xw⟩ := f' av ea
        refine kk ?_
        clear kk
        exact ⟨w, ew, xw.imm i⟩
    · by_cases q : c' = c
      · subst q; exact ⟨_, z'⟩
      · refine cps fun kk => ?_
        obtain ⟨vo', o, eo', hd⟩ := L.celli y c' hc
        refine kk ?_
        clear kk
        exact ⟨vo', o, k c' o q eo', hd⟩

theorem store_names {x : Str} {v : AV} (hk : storeOk sc (m.map (·.1)) x = true) : (setv m x v).map (·.1) = m.map (·.1) := by
  simp only [storeOk, Bool.and_eq_true] at hk
  exact setv_names (List.contains_iff_mem.mp hk.1)

theorem isTup3 {h : Heap} {v : Value} {p q r : AV} (x : VR h v (.tup [p, q, r])) : ∃ a y z u, v = .ref a ∧ h.IsTuple a #[y, z, u] ∧ VR h y p ∧ VR h z q ∧ VR h u r := by
  cases x with
  | tup t l =>
    rename_i a vs
    cases l with
    | cons xp l => cases l with
      | cons xq l => cases l with
        | cons xr l => cases l; exact ⟨a, _, _, _, rfl, t, xp, xq, xr⟩

theorem bindT2 {x y : Str} {px py tp : Pos} {kk : Nat} {v : AV} {k : Vars → Prop} (hq : bindT (.Tuple [.Name x px, .Name y py] kk tp) v m k) : ∃ p q, v = .tup [p, q] ∧ k (setv (setv m x p) y q) := by
  cases v <;> try exact hq.elim
  rename_i l
  match l, hq with
  | [p, q], hq => exact ⟨p, q, rfl, hq⟩
  | [], hq => exact hq.elim
  | [_], hq => exact hq.elim
  | _ :: _ :: _ :: _, hq => exact hq.elim
theorem bindT3 {x y z : Str} {px py pz tp : Pos} {kk : Nat} {v : AV} {k : Vars → Prop} (hq : bindT (.Tuple [.Name x px, .Name y py, .Name z pz] kk tp) v m k) : ∃ p q r, v = .tup [p, q, r] ∧ k (setv (setv (setv m x p) y q) z r) := by
  cases v <;> try exact hq.elim
  rename_i l
  match l, hq with
  | [p, q, r], hq => exact ⟨p, q, r, rfl, hq⟩
  | [], hq => exact hq.elim
  | [_], hq => exact hq.elim
  | [_, _], hq => exact hq.elim
  | _ :: _ :: _ :: _ :: _, hq => exact hq.elim

/-- a target takes a value -/
theorem bindT_sound {A : Around} {E : Value → Shared → Prop} {s : Shared} {t : PySem.Expr} {v : AV} {vv : Value} {k : Vars → Prop} (hh : A.handled = none) (hq : bindT t v m k) (hk : targetOk sc (m.map (·.1)) t = true) (eo : EnvOk env sc) (S : St P H W s.heap) (L : Loc P env sc H W s.heap m) (xv : VR s.heap vv v) {Q : Unit → Shared → Prop}
    (hQ : ∀ h' tk m', St P H W h' → Loc P env sc H W h' m' → Imm s.heap h' → m'.map (·.1) = m.map (·.1) → (∀ b o, ¬ Own env b → s.heap.get? b = some o → h'.get? b = some o) → k m' → Q () { s with heap := h', toks := tk }) : wpAny (model P.prog P.w) A (assign t env vv) Q E s := by
  cases t <;> try exact hq.elim
  · rename_i x p
    exact wpAny_assign_Name (store_sound hk eo S L xv fun h' tk S' L' i kk => hQ h' tk _ S' L' i (store_names hk) kk hq)
  · rename_i es kk tp
    simp only [targetOk] at hk
    split at hk <;> try cases hk
    · rename_i x px y py
      simp only [Bool.and_eq_true] at hk
      refine cps fun kk => ?_
      obtain ⟨p, q, rfl, hq⟩ := bindT2 hq
      refine kk ?_
      clear kk
      refine cps fun kk => ?_
      obtain ⟨a, y1, y2, rfl, ht, x1, x2⟩ := isTup2 xv
      refine kk ?_
      clear kk
      refine wpAny_assign_Tuple hh ht rfl rfl fun h₁ he₁ => ?_
      refine cps fun kk => ?_
      obtain ⟨S₁, L₁, i₁⟩ := free_step S L (· = s.heap.objs.size) (fun b o q e => he₁ b o q e) (fun b q => by have q : b = s.heap.objs.size := q; rw [q]; exact ⟨fresh_ge S.size, S.noH (fresh_ge (Nat.le_refl _)), S.noW (fresh_ge (Nat.le_refl _)), L.notOwn (fresh_ge (Nat.le_refl _))⟩) (fun b o q e => by have q : b = s.heap.objs.size := q; rw [q, fresh_ge (Nat.le_refl _)] at e; cases e)
      refine kk ?_
      clear kk
      show wpAny _ _ (assignInOrder [assign (.Name x px) env, assign (.Name y py) env] [y1, y2]) _ _ _
      refine assignInOrder_cons (wpAny_assign_Name (store_sound (s := { s with heap := h₁ }) hk.1.1 eo S₁ L₁ (x1.imm i₁) fun h₂ tk₂ S₂ L₂ i₂ k₂ => ?_))
      refine assignInOrder_cons (wpAny_assign_Name (store_sound (s := { s with heap := h₂, toks := tk₂ }) (by rw [store_names hk.1.1]; exact hk.1.2) eo S₂ L₂ ((x2.imm i₁).imm i₂) fun h₃ tk₃ S₃ L₃ i₃ k₃ => ?_))
      refine assignInOrder_nil (hQ h₃ tk₃ _ S₃ L₃ ((i₁.trans i₂).trans i₃) ?_ (fun b o q e => k₃ b o q (k₂ b o q (he₁ b o (Nat.ne_of_lt (Heap.lt_size e)) e))) hq)
      rw [store_names (by rw [store_names hk.1.1]; exact hk.1.2), store_names hk.1.1]
    · rename_i x px y py z pz
      simp only [Bool.and_eq_true] at hk
      refine cps fun kk => ?_
      obtain ⟨p, q, r, rfl, hq⟩ := bindT3 hq
      refine kk ?_
      clear kk
      refine cps fun kk => ?_
      obtain ⟨a, y1, y2, y3, rfl, ht, x1, x2, x3⟩ := isTup3 xv
      refine kk ?_
      clear kk
      refine wpAny_assign_Tuple hh ht rfl rfl fun h₁ he₁ => ?_
      refine cps fun kk => ?_
      obtain ⟨S₁, L₁, i₁⟩ := free_step S L (· = s.heap.objs.size) (fun b o q e => he₁ b o q e) (fun b q => by have q : b = s.heap.objs.size := q; rw [q]; exact ⟨fresh_ge S.size, S.noH (fresh_ge (Nat.le_refl _)), S.noW (fresh_ge (Nat.le_refl _)), L.notOwn (fresh_ge (Nat.le_refl _))⟩) (fun b o q e => by have q : b = s.heap.objs.size := q; rw [q, fresh_ge (Nat.le_refl _)] at e; cases e)
      refine kk ?_
      clear kk
      show wpAny _ _ (assignInOrder [assign (.Name x px) env, assign (.Name y py) env, assign (.Name z pz) env] [y1, y2, y3]) _ _ _
      refine assignInOrder_cons (wpAny_assign_Name (store_sound (s := { s with heap := h₁ }) hk.1.1 eo S₁ L₁ (x1.imm i₁) fun h₂ tk₂ S₂ L₂ i₂ k₂ => ?_))
      refine assignInOrder_cons (wpAny_assign_Name (store_sound (s := { s with heap := h₂, toks := tk₂ }) (by rw [store_names hk.1.1]; exact hk.1.2) eo S₂ L₂ ((x2.imm i₁).imm i₂) fun h₃ tk₃ S₃ L₃ i₃ k₃ => ?_))
      refine assignInOrder_cons (wpAny_assign_Name (store_sound (s := { s with heap := h₃, toks := tk₃ }) (by rw [store_names (by rw [store_names hk.1.1]; exact hk.1.2), store_names hk.1.1]; exact hk.2) eo S₃ L₃ (((x3.imm i₁).imm i₂).imm i₃) fun h₄ tk₄ S₄ L₄ i₄ k₄ => ?_))
      refine assignInOrder_nil (hQ h₄ tk₄ _ S₄ L₄ (((i₁.trans i₂).trans i₃).trans i₄) ?_ (fun b o q e => k₄ b o q (k₃ b o q (k₂ b o q (he₁ b o (Nat.ne_of_lt (Heap.lt_size e)) e)))) hq)
      rw [store_names (by rw [store_names (by rw [store_names hk.1.1]; exact hk.1.2), store_names hk.1.1]; exact hk.2), store_names (by rw [store_names hk.1.1]; exact hk.1.2), store_names hk.1.1]
end

inductive FR (h : Heap) : Flow → AFlow → Prop
  | next : FR h .next .next
  | brk : FR h .brk .brk
  | cont : FR h .cont .cont
  | ret {v : Value} {d : AV} : VR h v d → FR h (.ret v) (.ret d)

inductive SVp (P : Px) (env : Env) (sc : Names) (H : Hid) (s : Shared) (ns : List Str) (Q : AFlow → Vars → Store → Prop) (fl : Flow) (s' : Shared) : Prop
  | mk0 (m' : Vars) (W' : Store) (h' : Heap) (tk' : Nat) (a : AFlow) : s' = { s with heap := h', toks := tk' } → St P H W' h' → Loc P env sc H W' h' m' → Imm s.heap h' → m'.map (·.1) = ns → FR h' fl a → Q a m' W' → SVp P env sc H s ns Q fl s'
def SXp (P : Px) (env : Env) (sc : Names) (H : Hid) (s : Shared) (ns : List Str) (X : Store → Prop) : Value → Shared → Prop :=
  XPp P env sc H s fun m' W' => m'.map (·.1) = ns ∧ X W'
/-- a statement's triple -/
def SV (P : Px) (n : Nat) (env : Env) (sc : Names) (ns : List Str) (m : Vars) (W : Store) (t : Sem Flow) (Q : AFlow → Vars → Store → Prop) (X : Store → Prop) : Prop :=
  ∀ (A : Around) (H : Hid) (s : Shared) (outer : List Env), Rdy A n → A.frames = some (env :: outer) → FrIn (env :: outer) env H → (∃ F, env.frame = some F) → EnvOk env sc → St P H W s.heap → Loc P env sc H W s.heap m → m.map (·.1) = ns →
    wpAny (model P.prog P.w) A t (SVp P env sc H s ns Q) (SXp P env sc H s ns X) s

section
variable {P : Px} {n : Nat} {env : Env} {sc : Names} {ns : List Str} {m : Vars} {W : Store} {X : Store → Prop}

theorem SVp.mk {H : Hid} {s : Shared} {m' : Vars} {W' : Store} {h' : Heap} {tk' : Nat} {f : Flow} {a : AFlow} {Q : AFlow → Vars → Store → Prop} (S : St P H W' h') (L : Loc P env sc H W' h' m') (i : Imm s.heap h') (hm : m'.map (·.1) = ns) (r : FR h' f a) (q : Q a m' W') : SVp P env sc H s ns Q f { s with heap := h', toks := tk' } :=
  ⟨m', W', h', tk', a, rfl, S, L, i, hm, r, q⟩
theorem SVp.from {H : Hid} {s s₁ : Shared} {Q : AFlow → Vars → Store → Prop} {h₁ : Heap} {tk₁ : Nat} (e : s₁ = { s with heap := h₁, toks := tk₁ }) (i : Imm s.heap h₁) {f : Flow} {s' : Shared} (x : SVp P env sc H s₁ ns Q f s') : SVp P env sc H s ns Q f s' := by
  subst e
  refine cps fun kk => ?_
  obtain ⟨m', W', h', tk', a, rfl, S, L, i', hm, fr, q⟩ := x
  refine kk ?_
  clear kk
  exact ⟨m', W', h', tk', a, rfl, S, L, i.trans i', hm, fr, q⟩
theorem SXp.of {H : Hid} {s : Shared} (hm : m.map (·.1) = ns) {e : Value} {s' : Shared} (x : XPp P env sc H s (fun m' W' => m' = m ∧ X W') e s') : SXp P env sc H s ns X e s' := by
  refine cps fun kk => ?_
  obtain ⟨x, m', W', h', tk', e1, e2, S, L, i, E, rfl, q⟩ := x
  refine kk ?_
  clear kk
  exact ⟨x, m', W', h', tk', e1, e2, S, L, i, E, hm, q⟩
theorem SV.less {k : Nat} {t : Sem Flow} {Q : AFlow → Vars → Store → Prop} (h : SV P k env sc ns m W t Q X) (hk : k ≤ n) : SV P n env sc ns m W t Q X := fun A H s o a => h A H s o (a.less hk)
theorem sdone {H : Hid} {s : Shared} {Q : AFlow → Vars → Store → Prop} {f : Flow} {a : AFlow} (S : St P H W s.heap) (L : Loc P env sc H W s.heap m) (hm : m.map (·.1) = ns) (r : FR s.heap f a) (q : Q a m W) : SVp P env sc H s ns Q f s :=
  (SVp.mk S L (.refl _) hm r q)

theorem execs_nil_S {Q : AFlow → Vars → Store → Prop} (hq : Q .next m W) : SV P n env sc ns m W (execs [] env) Q X :=
  fun A H s o r fr fi hf eo S L hm => wpAny_execs_nil (sdone S L hm .next hq)
/-- what is asked behind a statement -/
def behind (k : Vars → Store → Prop) (Q : AFlow → Vars → Store → Prop) : AFlow → Vars → Store → Prop := fun f m W => match f with
  | .next => k m W
  | .brk => Q .brk m W
  | .cont => Q .cont m W
  | .ret v => Q (.ret v) m W
theorem execs_cons_S {st : Stmt} {rest : List Stmt} {Q : AFlow → Vars → Store → Prop} (k : Vars → Store → Prop) (h : SV P n env sc ns m W (exec st env) (behind k Q) X)
    (hr : ∀ m₁ W₁, m₁.map (·.1) = ns → k m₁ W₁ → SV P n env sc ns m₁ W₁ (execs rest env) Q X) : SV P n env sc ns m W (execs (st :: rest) env) Q X := fun A H s o r fr fi hf eo S L hm => by
  refine wpAny_execs_cons (wpAny_mono (h A H s o r fr fi hf eo S L hm) (fun fl s' z => ?_) fun _ _ z => z)
  refine cps fun kk => ?_
  obtain ⟨m₁, W₁, h₁, tk₁, a, rfl, S₁, L₁, i₁, hm₁, fr₁, q⟩ := z
  refine kk ?_
  clear kk
  cases fr₁ with
  | next => exact wpAny_mono (hr m₁ W₁ hm₁ q A H { s with heap := h₁, toks := tk₁ } o r fr fi hf eo S₁ L₁ hm₁) (fun _ _ z => z.from rfl i₁) fun _ _ z => z.from rfl i₁
  | brk => exact (SVp.mk S₁ L₁ i₁ hm₁ (.brk) q)
  | cont => exact (SVp.mk S₁ L₁ i₁ hm₁ (.cont) q)
  | ret x => exact (SVp.mk S₁ L₁ i₁ hm₁ (.ret x) q)

/-- a tree of the statement -/
theorem SV.tree {α : Type} {t : Sem α} {R : Heap → α → Store → Prop} {k : α → Sem Flow} {Q : AFlow → Vars → Store → Prop} {A : Around} {H : Hid} {s : Shared} {o : List Env} {K : α → Shared → Prop} (h : EV P n env sc m W t R X) (r : Rdy A n) (fr : A.frames = some (env :: o)) (fi : FrIn (env :: o) env H) (eo : EnvOk env sc) (S : St P H W s.heap) (L : Loc P env sc H W s.heap m) (hm : m.map (·.1) = ns)
    (kk : ∀ a W' h' tk', St P H W' h' → Loc P env sc H W' h' m → Imm s.heap h' → R h' a W' → K a { s with heap := h', toks := tk' }) : wpAny (model P.prog P.w) A t K (SXp P env sc H s ns X) s :=
  h.go r fr fi eo S L trivial (fun _ _ x => .of hm x) kk

theorem expr_S {e : PySem.Expr} {p : Pos} {Q : AFlow → Vars → Store → Prop} (hs : swapsWith e none p.line env = pure false) (h : EV P n env sc m W (eval e env) (Val fun v W₁ => v = .none ∧ Q .next m W₁) X) : SV P n env sc ns m W (exec (.Expr e p) env) Q X := by
  intro A H s o r fr fi hf eo S L hm
  refine wpAny_Expr ?_ (by unfold interactive; rw [eo.kind]; rfl) hs
  refine SV.tree (k := fun _ => pure .next) (Q := Q) h r fr fi eo S L hm fun v W₁ h₁ tk₁ S₁ L₁ i₁ ⟨d, xd, e, q⟩ => ?_
  subst e
  cases xd
  exact (SVp.mk S₁ L₁ i₁ hm (.next) q)
theorem ret_S {e : PySem.Expr} {p : Pos} {Q : AFlow → Vars → Store → Prop} (h : EV P n env sc m W (eval e env) (Val fun v W₁ => Q (.ret v) m W₁) X) : SV P n env sc ns m W (exec (.Return (some e) p) env) Q X := by
  intro A H s o r fr fi hf eo S L hm
  rw [arm_exec_Return]
  refine wpAny_bind (wpAny_standAt ?_)
  show wpAny _ A (do return Flow.ret (← eval e env)) _ _ s
  refine wpAny_bind (SV.tree (k := fun _ => pure .next) (Q := Q) h r fr fi eo S L hm fun v W₁ h₁ tk₁ S₁ L₁ i₁ ⟨d, xd, q⟩ => ?_)
  exact wpAny_pure (SVp.mk S₁ L₁ i₁ hm (.ret xd) q)
theorem retN_S {p : Pos} {Q : AFlow → Vars → Store → Prop} (h : Q (.ret .none) m W) : SV P n env sc ns m W (exec (.Return none p) env) Q X := by
  intro A H s o r fr fi hf eo S L hm
  rw [arm_exec_Return]
  exact wpAny_bind (wpAny_standAt (wpAny_pure (sdone S L hm (.ret .none) h)))
theorem if_S {c : PySem.Expr} {a b : List Stmt} {p : Pos} {Q : AFlow → Vars → Store → Prop} (h : EV P n env sc m W (isTrue c env (eval c env)) (Tst fun t W₁ => SV P n env sc ns m W₁ (if t then execs a env else execs b env) Q X) X) : SV P n env sc ns m W (exec (.If c a b p) env) Q X := by
  intro A H s o r fr fi hf eo S L hm
  refine wpAny_If (SV.tree (k := fun _ => pure .next) (Q := Q) h r fr fi eo S L hm fun t W₁ h₁ tk₁ S₁ L₁ i₁ q => ?_)
  have q : SV P n env sc ns m W₁ (if t then execs a env else execs b env) Q X := q
  cases t <;> exact wpAny_mono (q A H { s with heap := h₁, toks := tk₁ } o r fr fi hf eo S₁ L₁ hm) (fun _ _ z => z.from rfl i₁) fun _ _ z => z.from rfl i₁

theorem assignAttr_S (ok : PxOk P) {e o : PySem.Expr} {x : Str} {p p' : Pos} {Q : AFlow → Vars → Store → Prop} (hs : swapsWith e (some (.Attribute o x p')) p.line env = pure false)
    (h : EV P n env sc m W (eval e env) (Val fun v W₁ => EV P n env sc m W₁ (eval o env) (Val fun a W₂ => setAttrOk P a x v W₂ fun W₃ => Q .next m W₃) X) X) : SV P n env sc ns m W (exec (.Assign [.Attribute o x p'] e p) env) Q X := by
  intro A H s ou r fr fi hf eo S L hm
  rw [plainObj_exec_Assign_Attribute _ _ _ _ _ hs]
  refine wpAny_bind (wpAny_standAt (wpAny_bind (SV.tree (k := fun _ => pure .next) (Q := Q) h r fr fi eo S L hm fun vv W₁ h₁ tk₁ S₁ L₁ i₁ ⟨v, xv, q⟩ => ?_)))
  rw [assign_Attribute]
  refine wpAny_bind (wpAny_bind (wpAny_holding (EV.go q (s := { s with heap := h₁, toks := tk₁ }) r fr fi eo S₁ L₁ trivial (fun _ _ x => .of hm (x.from rfl i₁)) fun ov W₂ h₂ tk₂ S₂ L₂ i₂ ⟨a, xa, q⟩ => ?_)))
  refine wpAny_bind (wpAny_standAt (wpAny_bind (wpAny_holding ((setAttrOk_sound (n := n) (X := X) ok a x v q ov vv).go (s := { s with heap := h₂, toks := tk₂ }) r fr fi eo S₂ L₂ ⟨xa, xv.imm i₂⟩ (fun _ _ x => .of hm (x.from rfl (i₁.trans i₂))) fun _ W₃ h₃ tk₃ S₃ L₃ i₃ q => ?_))))
  exact wpAny_release (wpAny_pure (SVp.mk S₃ L₃ ((i₁.trans i₂).trans i₃) hm (.next) q))

theorem assignSub_S {e o i : PySem.Expr} {p p' : Pos} {Q : AFlow → Vars → Store → Prop} (hs : swapsWith e (some (.Subscript o i p')) p.line env = pure false)
    (h : EV P n env sc m W (eval e env) (Val fun v W₁ => EV P n env sc m W₁ (eval o env) (Val fun a W₂ => EV P n env sc m W₂ (eval i env) (Val fun b W₃ => setItemOk a b v W₃ fun W₄ => Q .next m W₄) X) X) X) : SV P n env sc ns m W (exec (.Assign [.Subscript o i p'] e p) env) Q X := by
  intro A H s ou r fr fi hf eo S L hm
  refine wpAny_Assign_Subscript (SV.tree (k := fun _ => pure .next) (Q := Q) h r fr fi eo S L hm fun vv W₁ h₁ tk₁ S₁ L₁ i₁ ⟨v, xv, q⟩ => ?_) hs
  refine EV.go q (s := { s with heap := h₁, toks := tk₁ }) r fr fi eo S₁ L₁ trivial (fun _ _ x => .of hm (x.from rfl i₁)) fun ov W₂ h₂ tk₂ S₂ L₂ i₂ ⟨a, xa, q⟩ => ?_
  refine EV.go q (s := { s with heap := h₂, toks := tk₂ }) r fr fi eo S₂ L₂ trivial (fun _ _ x => .of hm (x.from rfl (i₁.trans i₂))) fun iv W₃ h₃ tk₃ S₃ L₃ i₃ ⟨b, xb, q⟩ => ?_
  refine (setItemOk_sound (n := n) (X := X) a b v q ov iv vv).go (s := { s with heap := h₃, toks := tk₃ }) r fr fi eo S₃ L₃ ⟨xa.imm i₃, xb, (xv.imm i₂).imm i₃⟩ (fun _ _ x => .of hm (x.from rfl ((i₁.trans i₂).trans i₃))) fun _ W₄ h₄ tk₄ S₄ L₄ i₄ q => ?_
  exact (SVp.mk S₄ L₄ (((i₁.trans i₂).trans i₃).trans i₄) hm (.next) q)

theorem assignName_S {e : PySem.Expr} {x : Str} {p p' : Pos} {Q : AFlow → Vars → Store → Prop} (hs : swapsWith e (some (.Name x p')) p.line env = pure false) (hk : storeOk sc ns x = true)
    (h : EV P n env sc m W (eval e env) (Val fun v W₁ => Q .next (setv m x v) W₁) X) : SV P n env sc ns m W (exec (.Assign [.Name x p'] e p) env) Q X := by
  intro A H s ou r fr fi hf eo S L hm
  refine wpAny_Assign_Name (SV.tree (k := fun _ => pure .next) (Q := Q) h r fr fi eo S L hm fun vv W₁ h₁ tk₁ S₁ L₁ i₁ ⟨v, xv, q⟩ => ?_) hs
  refine store_sound (s := { s with heap := h₁, toks := tk₁ }) (by rw [hm]; exact hk) eo S₁ L₁ xv fun h₂ tk₂ S₂ L₂ i₂ _ => ?_
  exact (SVp.mk S₂ L₂ (i₁.trans i₂) ((store_names (by rw [hm]; exact hk)).trans hm) (.next) q)

theorem assignTup_S {e : PySem.Expr} {es : List PySem.Expr} {kk : Nat} {p p' : Pos} {Q : AFlow → Vars → Store → Prop} (hs : swapsWithSole [.Tuple es kk p'] e p.line env = pure false) (hw : swappedStores [.Tuple es kk p'] e env = pure none) (hk : targetOk sc ns (.Tuple es kk p') = true)
    (h : EV P n env sc m W (eval e env) (Val fun v W₁ => bindT (.Tuple es kk p') v m fun m₁ => Q .next m₁ W₁) X) : SV P n env sc ns m W (exec (.Assign [.Tuple es kk p'] e p) env) Q X := by
  intro A H s ou r fr fi hf eo S L hm
  refine Assign_Tuple (SV.tree (k := fun _ => pure .next) (Q := Q) h r fr fi eo S L hm fun vv W₁ h₁ tk₁ S₁ L₁ i₁ ⟨v, xv, q⟩ => ?_) hs hw
  refine bindT_sound (s := { s with heap := h₁, toks := tk₁ }) r.hand q (by rw [hm]; exact hk) eo S₁ L₁ xv fun h₂ tk₂ m₂ S₂ L₂ i₂ hm₂ _ q => ?_
  exact (SVp.mk S₂ L₂ (i₁.trans i₂) (hm₂.trans hm) (.next) q)

theorem aug_S (ok : PxOk P) {e : PySem.Expr} {x : Str} {p p' : Pos} {Q : AFlow → Vars → Store → Prop} (hk : storeOk sc ns x = true) (hkn : nameOk sc ns x = true)
    (h : nameV P m x W fun old W₀ => EV P n env sc m W₀ (eval e env) (Val fun v W₁ => ∃ a b : Int, old = .int a ∧ v = .int b ∧ Q .next (setv m x (.int (a + b))) W₁) X) : SV P n env sc ns m W (exec (.AugAssign (.Name x p') .Add e p) env) Q X := by
  intro A H s ou r fr fi hf eo S L hm
  refine wpAny_AugAssign_Name ?_
  refine (name_load (n := n) (X := X) ok (by rw [hm]; exact hkn) h).go r fr fi eo S L trivial (fun _ _ x => .of hm x) fun ov W₀ h₀ tk₀ S₀ L₀ i₀ ⟨old, xo, q⟩ => ?_
  refine EV.go q (s := { s with heap := h₀, toks := tk₀ }) r fr fi eo S₀ L₀ trivial (fun _ _ x => .of hm (x.from rfl i₀)) fun vv W₁ h₁ tk₁ S₁ L₁ i₁ ⟨v, xv, a, b, e1, e2, q2⟩ => ?_
  subst e1 e2
  cases xo; cases xv
  refine AutoIntOps.iadd_0 ?_
  refine store_sound (s := { s with heap := h₁, toks := tk₁ + 1 }) (v := .int (a + b)) (by rw [hm]; exact hk) eo S₁ L₁ (.int _ _) fun h₂ tk₂ S₂ L₂ i₂ _ => ?_
  exact (SVp.mk S₂ L₂ ((i₀.trans i₁).trans i₂) ((store_names (by rw [hm]; exact hk)).trans hm) (.next) q2)
end

def hide1 (I : Addr) (h : Heap) (H : Hid) : Hid := fun a => if a = I then h.get? I else H a
section
variable {P : Px} {n : Nat} {env : Env} {sc : Names} {ns : List Str} {m m' : Vars} {W W' : Store} {X : Store → Prop} {H : Hid} {h h' : Heap} {I : Addr} {o : Obj}
theorem hide1_in (S : St P H W h) (L : Loc P env sc H W h m) (f : Free P H W (Own env) I) (e : h.get? I = some o) : St P (hide1 I h H) W h ∧ Loc P env sc (hide1 I h H) W h m := by
  refine ⟨⟨S.size, S.keep, S.cell, fun a o' q => ?_⟩, L.keep (fun a o _ e => ⟨o, e, .refl o⟩) (.refl _) fun a ha => ⟨?_, (L.own a ha).2.2⟩⟩
  · unfold hide1 at q
    split at q
    · rename_i hI; subst hI; exact ⟨f.1, f.2.2.1, o', q, .refl _⟩
    · exact S.hid a o' q
  · unfold hide1
    rw [if_neg (fun q : a = I => f.2.2.2 (q ▸ ha))]; exact (L.own a ha).2.1
theorem hide1_out (f : Free P H W (Own env) I) (e : h.get? I = some o) (nd : ∀ es ep, o.data ≠ .dict es ep) (S : St P (hide1 I h H) W' h') (L : Loc P env sc (hide1 I h H) W' h' m') :
    St P H W' h' ∧ Loc P env sc H W' h' m' ∧ Free P H W' (Own env) I ∧ h'.get? I = some o := by
  refine cps fun kk => ?_
  obtain ⟨_, wI, o', e', l⟩ := S.hid I o (by unfold hide1; rw [if_pos rfl]; exact e)
  refine kk ?_
  clear kk
  rw [l.same nd] at e'
  refine ⟨S.lessH fun a o q => ⟨o, ?_, .refl o⟩, L.keep (fun a o _ e => ⟨o, e, .refl o⟩) (.refl _) fun a ha => ⟨?_, (L.own a ha).2.2⟩, ⟨f.1, f.2.1, wI, f.2.2.2⟩, e'⟩
  · unfold hide1
    rw [if_neg (fun z => by rw [z, f.2.1] at q; cases q)]; exact q
  · have := (L.own a ha).2.1
    unfold hide1 at this
    rwa [if_neg (fun q : a = I => f.2.2.2 (q ▸ ha))] at this
theorem hide1_Fr {Fs : List Env} (f : Free P H W (Own env) I) (fi : FrIn Fs env H) : FrIn Fs env (hide1 I h H) := fun e he => by
  refine cps fun kk => ?_
  obtain ⟨hk, F, hF, q⟩ := fi e he
  refine kk ?_
  clear kk
  refine ⟨hk, F, hF, q.imp id ?_⟩
  rintro ⟨o, e1, r⟩
  refine ⟨o, ?_, r⟩
  unfold hide1
  rw [if_neg (fun z => by rw [z, f.2.1] at e1; cases e1)]; exact e1
theorem hide1_Exc {x : Addr} (e : h.get? I = some o) (E : Exc P (hide1 I h H) W' (Own env) h' x) : Exc P H W' (Own env) h' x := by
  have fr : ∀ {a}, Free P (hide1 I h H) W' (Own env) a → Free P H W' (Own env) a := fun {a} ⟨z0, zH, r⟩ => ⟨z0, by
    unfold hide1 at zH
    split at zH
    · rename_i q; rw [e] at zH; cases zH
    · exact zH, r⟩
  refine cps fun kk => ?_
  obtain ⟨f, oe, vs, e1, e2, e3, e4, e5⟩ := E
  refine kk ?_
  clear kk
  refine ⟨fr f, oe, vs, e1, e2, e3, e4, e5.imp id ?_⟩
  rintro ⟨T, oT, ts, t1, t2, t3⟩
  exact ⟨T, oT, ts, t1, fr t2, t3⟩

inductive FInv (P : Px) (env : Env) (sc : Names) (ns : List Str) (H : Hid) (I : Addr) (It : Nat → Heap → Prop) (items : List AV) (okk : Store → Prop) (s : Shared) (K : List AV → Vars → Store → Prop) (k : Nat) (s' : Shared) : Prop
  | mk (h' : Heap) (tk i : Nat) (m' : Vars) (W' : Store) : s' = { s with heap := h', toks := tk } → k = items.length + 1 - i → i ≤ items.length → St P H W' h' → Loc P env sc H W' h' m' → It i h' → Free P H W' (Own env) I → okk W' →
      Imm s.heap h' → m'.map (·.1) = ns → K (items.drop i) m' W' → FInv P env sc ns H I It items okk s K k s'
theorem for_S (ok : PxOk P) {t it : PySem.Expr} {body : List Stmt} {p : Pos} {Q : AFlow → Vars → Store → Prop} {bnd : AV → Vars → (Vars → Prop) → Prop} {bodyV : Vars → Store → (AFlow → Vars → Store → Prop) → Prop} (hb : ∀ v m k, m.map (·.1) = ns → bnd v m k → bindT t v m k) (hset : notSet it = true) (hk : targetOk sc ns t = true)
    (h : EV P n env sc m W (eval it env) (Val fun src W₁ => ∃ items okk, Src W₁ src items okk ∧ forL bnd bodyV okk Q items m W₁) X)
    (ihB : ∀ m W Q, m.map (·.1) = ns → bodyV m W Q → SV P n env sc ns m W (execs body env) Q X) : SV P n env sc ns m W (exec (.For t it body [] p) env) Q X := by
  intro A H s ou r fr fi hf eo S L hm
  obtain ⟨F, hF⟩ := hf
  refine wpAny_For (SV.tree (k := fun _ => pure .next) (Q := Q) h r fr fi eo S L hm fun xv W₁ h₁ tk₁ S₁ L₁ i₁ ⟨src, xs, items, okk, hsrc, hL⟩ => ?_) (folded hset)
  refine iter_src ok (s := { s with heap := h₁, toks := tk₁ }) hsrc r.hand S₁ xs fun oI₀ It ir hit => ?_
  have old : ∀ b o', h₁.get? b = some o' → (h₁.push oI₀).get? b = some o' := fun b o' e => Heap.get?_push_of_some _ e
  have S₂ := S₁.more (h' := h₁.push oI₀) (by simp) old
  have L₂ := L₁.more (h' := h₁.push oI₀) old
  refine codeAny_forLoop_any (FInv P env sc ns H h₁.objs.size It items okk s (forL bnd bodyV okk Q)) ?_ (items.length + 1)
    (.mk _ tk₁ 0 m W₁ rfl rfl (Nat.zero_le _) S₂ L₂ hit ⟨fresh_ge S₁.size, S₁.noH (fresh_ge (Nat.le_refl _)), S₁.noW (fresh_ge (Nat.le_refl _)), L₁.notOwn (fresh_ge (Nat.le_refl _))⟩ (src_ok hsrc).1 (i₁.trans (Imm.of_keeps old)) hm hL)
  rintro k s' ⟨h', tk, i, m', W', rfl, rfl, hi, S', L', it', fI, ok', i', hm', hc⟩
  obtain ⟨oI, vI, eI, dI, nI⟩ := ir.there _ _ it'
  cases hgi : items[i]? with
  | none =>
    have : i = items.length := Nat.le_antisymm hi (List.getElem?_eq_none_iff.mp hgi)
    subst this
    rw [List.drop_length, forL] at hc
    refine ir.done A H W' _ _ _ r.hand it' S' ok' fun h₂ tk₂ hk₂ => ?_
    have zz1 := free_step S' L' (· = h₁.objs.size) hk₂ (fun b q => q ▸ fI) (fun b o q e => by subst q; rw [eI] at e; cases e; exact nI)
    have S2 := zz1.1
    have L2 := zz1.2.1
    have im2 := zz1.2.2
    exact wpAny_execs_nil ⟨m', W', h₂, tk₂, .next, rfl, S2, L2, i'.trans im2, hm', .next, hc⟩
  | some d =>
    have hlt : i < items.length := (List.getElem?_eq_some_iff.mp hgi).1
    rw [show items.drop i = d :: items.drop (i + 1) by rw [List.drop_eq_getElem_cons hlt]; congr 1; exact (List.getElem?_eq_some_iff.mp hgi).2, forL] at hc
    refine ir.item A H W' _ _ _ i d r.hand hgi it' S' ok' fun v h₂ tk₂ xv it₂ hk₂ => ?_
    have zz2 := free_step S' L' (· = h₁.objs.size) hk₂ (fun b q => q ▸ fI) (fun b o q e => by subst q; rw [eI] at e; cases e; exact nI)
    have S2 := zz2.1
    have L2 := zz2.2.1
    have im2 := zz2.2.2
    refine ir.letGo A _ _ _ (i + 1) t v it₂ ?_
    refine bindT_sound (s := { s with heap := h₂, toks := tk₂ }) r.hand (hb d m' _ hm' hc) (by rw [hm']; exact hk) eo S2 L2 (xv.imm im2) fun h₃ tk₃ m₃ S3 L3 im3 hm3 k3 hc => ?_
    rw [hm'] at hm3
    obtain ⟨oI2, vI2, eI2, dI2, nI2⟩ := ir.there _ _ it₂
    have eI3 : h₃.get? h₁.objs.size = some oI2 := k3 _ _ fI.2.2.2 eI2
    have it₃ := ir.keep _ _ _ it₂ (fun o e => k3 _ o fI.2.2.2 e) im3
    have nd : ∀ es ep, oI2.data ≠ .dict es ep := fun es ep q => by rw [dI2] at q; cases q
    have zz3 := hide1_in S3 L3 fI eI3
    have S3' := zz3.1
    have L3' := zz3.2
    refine wpAny_mono (ihB m₃ W' _ hm3 hc A _ { s with heap := h₃, toks := tk₃ } ou r fr (hide1_Fr fI fi) ⟨F, hF⟩ eo S3' L3' hm3) (fun fl s₄ z => ?_) (fun e s₄ z => ?_)
    · obtain ⟨m₄, W₄, h₄, tk₄, a, rfl, S4, L4, im4, hm4, fr4, q⟩ := z
      have zz4 := hide1_out fI eI3 nd S4 L4
      have S5 := zz4.1
      have L5 := zz4.2.1
      have fI5 := zz4.2.2.1
      have eI5 := zz4.2.2.2
      have it4 := ir.keep _ _ _ it₃ (fun o e => by rw [eI3] at e; cases e; exact eI5) im4
      have im := ((i'.trans im2).trans im3).trans im4
      cases fr4 with
      | next => exact ⟨items.length + 1 - (i + 1), by omega, .mk h₄ tk₄ (i + 1) m₄ W₄ rfl rfl hlt S5 L5 it4 fI5 q.1 im hm4 q.2⟩
      | cont => exact ⟨items.length + 1 - (i + 1), by omega, .mk h₄ tk₄ (i + 1) m₄ W₄ rfl rfl hlt S5 L5 it4 fI5 q.1 im hm4 q.2⟩
      | brk => exact ⟨m₄, W₄, h₄, tk₄, .next, rfl, S5, L5, im, hm4, .next, q⟩
      | ret x => exact ⟨m₄, W₄, h₄, tk₄, .ret _, rfl, S5, L5, im, hm4, .ret x, q⟩
    · obtain ⟨x, m₄, W₄, h₄, tk₄, rfl, rfl, S4, L4, im4, E4, hm4, q⟩ := z
      have zz5 := hide1_out fI eI3 nd S4 L4
      have S5 := zz5.1
      have L5 := zz5.2.1
      have fI5 := zz5.2.2.1
      have eI5 := zz5.2.2.2
      have im := ((i'.trans im2).trans im3).trans im4
      refine note_ok (s := { s with heap := h₄, toks := tk₄ }) fr hF fi S5 L5 (hide1_Exc eI3 E4) fun h₅ S6 L6 im6 E6 N6 => ?_
      refine back_ok (s := { s with heap := h₅, toks := tk₄ }) S6 L6 E6 N6 fun h₆ S7 L7 im7 E7 => ?_
      exact ⟨x, m₄, W₄, h₆, tk₄, rfl, rfl, S7, L7, (im.trans im6).trans im7, E7, hm4, q⟩
end

section
variable {P : Px} {n : Nat} {env : Env} {sc : Names} {ns : List Str} {m m' : Vars} {W W' : Store} {X : Store → Prop} {H : Hid} {h h' : Heap}

theorem look_glob {x : Str} (h : (m.map (·.1)).contains x = false) : m.lookup x = none := by
  cases e : m.lookup x with
  | none => rfl
  | some c => rw [some_of e] at h; cases h

theorem conf_name (ok : PxOk P) {p : Pos} (hk : nameOk sc ns (Str.ofString "ConfRefused") = true) (hn : ns.contains (Str.ofString "ConfRefused") = false) (hm : m.map (·.1) = ns) :
    EV P n env sc m W (eval (.Name (Str.ofString "ConfRefused") p) env) (Val fun v W₁ => v = .ref P.X ∧ W₁ = W) X := by
  refine name_sound ok (by rw [hm]; exact hk) ?_
  unfold nameV
  rw [look_glob (by rw [hm]; exact hn)]
  exact ⟨_, ok.globX, rfl, rfl⟩

theorem conf_any (ok : PxOk P) {p : Pos} (hk : nameOk sc ns (Str.ofString "ConfRefused") = true) (hn : ns.contains (Str.ofString "ConfRefused") = false) (hm : m.map (·.1) = ns) {A : Around} {s : Shared} {E : Value → Shared → Prop} {Q : Value → Shared → Prop} (eo : EnvOk env sc) (S : St P H W s.heap) (L : Loc P env sc H W s.heap m)
    (hQ : Q (.ref P.X) s) :
    wpAny (model P.prog P.w) A (eval (.Name (Str.ofString "ConfRefused") p) env) Q E s := by
  refine wpAny_Name (name_any (Q := fun v W₁ => v = .ref P.X) ok (by rw [hm]; exact hk) ?_ eo S L fun w d x e => ?_) (by decide)
  · unfold nameV
    rw [look_glob (by rw [hm]; exact hn)]
    exact ⟨_, ok.globX, rfl⟩
  · subst e; cases x; exact hQ

theorem raise_S (ok : PxOk P) {a : PySem.Expr} {np cpos p : Pos} {Q : AFlow → Vars → Store → Prop} (hk : nameOk sc ns (Str.ofString "ConfRefused") = true) (hn : ns.contains (Str.ofString "ConfRefused") = false) (hp : plainE a = true)
    (h : EV P n env sc m W (eval a env) (Val fun v W₁ => (∃ t, v = .str t) ∧ X W₁) X) : SV P n env sc ns m W (exec (.Raise (some (.Call (.Name (Str.ofString "ConfRefused") np) [a] [] cpos)) none p) env) Q X := by
  intro A H s ou r fr fi hf eo S L hm
  obtain ⟨mg, O⟩ := ok.exc
  refine cps fun kk => ?_
  obtain ⟨tl, N, nm, q, bs, hdct, sn, sub, ab, col, dd, k0, k1, k2, k3, k5, mN, hC, hN, hni, T⟩ := O.obj
  refine kk ?_
  clear kk
  have hpl : ([a] : List PySem.Expr).all plainE = true := by simp [hp]
  refine wpAny_Raise_call_subT (C := P.X) (nm := nm) (q := q) (N := N) (bs := bs) (bm := tl) (hdct := hdct) (sn := sn) (sub := sub) (ab := ab) (col := col) (dd := dd) (k0 := k0) (k1 := k1) (k2 := k2) (k3 := k3) (k5 := k5)
    PySem.F.excBase_Exception (mN := mN) (T.hasType PySem.F.excBase_Exception.hasBase) r.hand (any_star cpos hpl) hni ?_
  refine SV.tree (k := fun _ => pure .next) (Q := Q) (conf_name ok hk hn hm) r fr fi eo S L hm fun vf W₁ h₁ tk₁ S₁ L₁ i₁ ⟨d, xd, e1, e2⟩ => ?_
  subst e1 e2
  cases xd
  refine ⟨rfl, ?_⟩
  have hla : LOk P n env sc m X [a] (fun W' (Q' : List AV → Store → Prop) => EV P n env sc m W' (eval a env) (Val fun v W₂ => Q' [v] W₂) X) := LOk.cons hp (fun _ _ h => h) LOk.nil
  have hv : EV P n env sc m W₁ (eval a env) (Val fun v W₂ => (∃ t, [v] = [.str t]) ∧ X W₂) X := h.val fun v W₂ ⟨⟨t, e⟩, q⟩ => ⟨⟨t, by rw [e]⟩, q⟩
  refine (args_sound cpos (.ref P.X) hla (Q := fun vs W₂ => (∃ t, vs = [.str t]) ∧ X W₂) hv).go (s := { s with heap := h₁, toks := tk₁ }) r fr fi eo S₁ L₁ trivial (fun _ _ x => .of hm (x.from rfl i₁)) fun args W₂ h₂ tk₂ S₂ L₂ i₂ ⟨vs, ds, e, xs, ⟨t, ed⟩, hX⟩ => ?_
  subst e ed
  have hl := xs.length
  refine ⟨rfl, by show vs.length ≤ _; unfold sizeLine; simp only [List.length_singleton] at hl; omega, S₂.keep _ _ hC, Ns_keeps hN (S₂.keep _), T.keeps S₂.keep, fun h₃ x mx => ?_⟩
  refine cps fun kk => ?_
  obtain ⟨S₃, L₃, i₃⟩ := free_step S₂ L₂ (fun _ => False) (fun b o _ e => mx.keeps b o e) (fun _ q => q.elim) (fun _ _ q => q.elim)
  refine kk ?_
  clear kk
  refine cps fun kk => ?_
  obtain ⟨t', hx, _, _⟩ := mx.there
  refine kk ?_
  clear kk
  have fx : Free P H W₂ (Own env) x := by
    refine ⟨?_, S₂.noH mx.new, S₂.noW mx.new, L₂.notOwn mx.new⟩
    cases e : P.h₀.get? x with
    | none => rfl
    | some o => have := S₂.keep x o e; rw [mx.new] at this; cases this
  exact ⟨x, m, W₂, h₃, tk₂, rfl, rfl, S₃, L₃, (i₁.trans i₂).trans i₃, ⟨fx, _, _, hx, rfl, rfl, by simp, .inl rfl⟩, hm, hX⟩

theorem try_S (ok : PxOk P) {body : List Stmt} {np hp rp p : Pos} {re : PySem.Expr} {Q : AFlow → Vars → Store → Prop} (hre : isNone re = true) (hk : nameOk sc ns (Str.ofString "ConfRefused") = true) (hn : ns.contains (Str.ofString "ConfRefused") = false)
    (h : SV P n env sc ns m W (execs body env) Q fun W' => ∀ m', Q (.ret .none) m' W') :
    SV P n env sc ns m W (exec (.Try body [.ExceptHandler (some (.Name (Str.ofString "ConfRefused") np)) none [.Return (some re) rp] hp] [] [] p) env) Q X := by
  intro A H s ou r fr fi hf eo S L hm
  obtain ⟨F, hF⟩ := id hf
  refine wpAny_Try_except (wpAny_mono (h A H s ou r fr fi hf eo S L hm) (fun fl s₁ z => ?_) (fun e s₁ z => ?_))
  · refine cps fun kk => ?_
    obtain ⟨m₁, W₁, h₁, tk₁, a, e, S₁, L₁, i₁, hm₁, fr₁, q⟩ := z
    refine kk ?_
    clear kk
    subst e
    cases fr₁ with
    | next => exact wpAny_execs_nil ⟨m₁, W₁, h₁, tk₁, .next, rfl, S₁, L₁, i₁, hm₁, .next, q⟩
    | brk => exact ⟨m₁, W₁, h₁, tk₁, .brk, rfl, S₁, L₁, i₁, hm₁, .brk, q⟩
    | cont => exact ⟨m₁, W₁, h₁, tk₁, .cont, rfl, S₁, L₁, i₁, hm₁, .cont, q⟩
    | ret x => exact ⟨m₁, W₁, h₁, tk₁, .ret _, rfl, S₁, L₁, i₁, hm₁, .ret x, q⟩
  · refine cps fun kk => ?_
    obtain ⟨x, m₁, W₁, h₁, tk₁, rfl, rfl, S₁, L₁, i₁, E₁, hm₁, q⟩ := z
    refine kk ?_
    clear kk
    refine note_ok (s := { s with heap := h₁, toks := tk₁ }) fr hF fi S₁ L₁ E₁ fun h₂ S₂ L₂ i₂ E₂ N₂ => ?_
    refine flight_ok (s := { s with heap := h₂, toks := tk₁ }) S₂ L₂ E₂ fun h₃ S₃ L₃ i₃ E₃ _ => ?_
    obtain ⟨mg, O⟩ := ok.exc
    refine cps fun kk => ?_
    obtain ⟨tl, N, nm, q', bs, hdct, sn, sub, ab, col, dd, k0, k1, k2, k3, k5, mN, hC, hN, hni, T⟩ := O.obj
    refine kk ?_
    clear kk
    refine cps fun kk => ?_
    obtain ⟨fx, oe, vs, hxe, hxc, _⟩ := id E₃
    refine kk ?_
    clear kk
    refine wpAny_handleBy_cons (codeAny_handlers_test (conf_any (s := { s with heap := h₃, toks := tk₁ }) ok hk hn hm₁ eo S₃ L₃ ?_)) (by intro q; cases q)
    refine wpAny_excMatches_sub_self (S₃.keep _ _ hC) hxe hxc (T.hasType PySem.F.excBase_Exception.hasBase) (codeAny_handlers_suite ?_)
    refine flight_ok (s := { s with heap := h₃, toks := tk₁ }) S₃ L₃ E₃ fun h₄ S₄ L₄ i₄ E₄ _ => ?_
    cases re <;> first | cases hre | skip
    rename_i c k pp
    cases c <;> first | cases hre | skip
    refine wpAny_execs_cons ?_
    rw [arm_exec_Return]
    refine wpAny_bind (wpAny_standAt ?_)
    show wpAny _ _ (do return Flow.ret (← eval (.Constant .none k pp) env)) _ _ _
    refine wpAny_bind (wpAny_Constant_none (wpAny_pure ?_))
    exact ⟨m₁, W₁, h₄, tk₁, .ret .none, rfl, S₄, L₄, ((i₁.trans i₂).trans i₃).trans i₄, hm₁, .ret .none, q m₁⟩
end

section
variable {P : Px} {n : Nat} {env : Env} {sc : Names} {ns : List Str} {m : Vars} {W : Store} {X : Store → Prop}

theorem listAssign_S (ok : PxOk P) {elt it t : PySem.Expr} {ifs : List PySem.Expr} {scope : Scope} {pos spos py : Pos} {y : Str} {tstV : Vars → Store → (Bool → Store → Prop) → Prop} {eltV : Vars → Store → (AV → Store → Prop) → Prop} {Q : AFlow → Vars → Store → Prop}
    (hk : storeOk sc ns y = true) (T : CompTxt sc ns scope t) (hset : notSet it = true)
    (hIt : EV P n env sc m W (eval it env) (Val fun src W₁ => ∃ items okk, Src W₁ src items okk ∧ compL (fun v k => bindC t v m k) tstV eltV okk (fun ys W₂ => ys.length ≤ 1000 ∧ new W₂ (.list ys) fun v W₃ => Q .next (setv m y v) W₃) items [] W₁) X)
    (ihT : TstOk P n env scope (compNames t ++ ns) ifs tstV) (ihE : EltOk P n env scope (compNames t ++ ns) elt eltV) :
    SV P n env sc ns m W (exec (.Assign [.Name y py] (.ListComp elt [⟨t, it, ifs, 0⟩] scope pos) spos) env) Q X := by
  have hb : ∃ b, swapsWith (.ListComp elt [⟨t, it, ifs, 0⟩] scope pos) (some (.Name y py)) spos.line env = pure b := ⟨_, rfl⟩
  obtain ⟨b, hb⟩ := hb
  cases b with
  | false =>
    intro A H s ou r fr fi hf eo S L hm
    subst hm
    exact assignName_S hb hk (listComp_sound ok T hset hIt ihT ihE) A H s ou r fr fi hf eo S L rfl
  | true =>
    intro A H s ou r fr fi hf eo S L hm
    subst hm
    rw [exec_Assign_Name_used _ _ _ _ hb]
    refine wpAny_bind (wpAny_standAt (wpAny_bind ?_))
    show wpAny _ A (do let _ ← comprehension (.ListComp elt [⟨t, it, ifs, 0⟩] scope pos) scope env _ (newList []) false (eval it env) (some (assign (.Name y py) env))) _ _ s
    refine wpAny_bind (wpAny_mono (wpAny_comprehension_free (use := some (assign (.Name y py) env)) (Q := fun _ s' => SVp P env sc H s (m.map (·.1)) Q .next s') rfl (folded hset) (NestOk.closure T.nest L) T.kind (fun x hx hl => (T.loc x hx hl).1) ?_) (fun _ s' hq => wpAny_pure (wpAny_pure hq)) fun _ _ e => e)
    refine SV.tree (k := fun _ => pure .next) (Q := Q) hIt r fr fi eo S L rfl fun xv W₁ h₁ tk₁ S₁ L₁ i₁ ⟨src, xs, items, okk, hsrc, hL⟩ => ?_
    refine iter_src ok (s := { s with heap := h₁, toks := tk₁ }) hsrc r.hand S₁ xs fun o It ir hit => ?_
    have old : ∀ b o', h₁.get? b = some o' → (h₁.push o).get? b = some o' := fun b o' e => Heap.get?_push_of_some _ e
    have S₂ := S₁.more (h' := h₁.push o) (by simp) old
    have L₂ := L₁.more (h' := h₁.push o) old
    refine listBlock (s₂ := { s with heap := h₁.push o, toks := tk₁ }) ir (src_len hsrc) T r fr fi eo rfl S₂ L₂ hit ⟨fresh_ge S₁.size, S₁.noH (fresh_ge (Nat.le_refl _)), S₁.noW (fresh_ge (Nat.le_refl _)), L₁.notOwn (fresh_ge (Nat.le_refl _))⟩ (src_ok hsrc).1 ihT ihE hL ?_
    intro D C h' tk W' ys nn ds S' L' im fD fC hCD hg hv ⟨mm, hn⟩ ⟨hz, hq⟩
    show wpAny _ A (assign (.Name y py) env (.ref D)) _ _ _
    have S3 := S'.add fD.2.1 fD.1 (c := .list ds) ⟨nn, ys, hg, hv⟩
    have L3 := L'.add (c := .list ds) fD.2.2.2
    refine wpAny_assign_Name (store_sound (s := { s with heap := h', toks := tk }) hk eo S3 L3 (.ref D) fun h₄ tk₄ S4 L4 i4 k4 => ?_)
    refine ⟨mm, hn.at' fun o e => k4 _ o fC.2.2.2 e, fun h'' hs'' => ?_⟩
    refine cps fun kk => ?_
    obtain ⟨S5, L5, i5, _⟩ := left_behind S4 L4 ⟨fC.1, fC.2.1, by simp only [upd, hCD, if_false]; exact fC.2.2.1, fC.2.2.2⟩ (hn.at' fun o e => k4 _ o fC.2.2.2 e) hs''
    refine kk ?_
    clear kk
    exact ⟨_, _, h'', tk₄, .next, rfl, S5, L5, (((i₁.trans (Imm.of_keeps old)).trans im).trans i4).trans i5, store_names hk, .next, hq D fD.2.2.1⟩

theorem dictAssign_S (ok : PxOk P) {kx vx it : PySem.Expr} {tx : Str} {tp : Pos} {scope : Scope} {pos spos py : Pos} {y : Str} {kV vV : Vars → Store → (AV → Store → Prop) → Prop} {Q : AFlow → Vars → Store → Prop}
    (hk : storeOk sc ns y = true) (T : CompTxt sc ns scope (.Name tx tp)) (hset : notSet it = true)
    (hIt : EV P n env sc m W (eval it env) (Val fun src W₁ => ∃ items okk, Src W₁ src items okk ∧ ∀ D, W₁ D = none → dictL (fun v k => bindC (.Name tx tp) v m k) kV vV okk D (fun W₂ => Q .next (setv m y (.ref D)) W₂) items (upd W₁ D (.dict []))) X)
    (ihK : EltOk P n env scope (tx :: ns) kx kV) (ihV : EltOk P n env scope (tx :: ns) vx vV) :
    SV P n env sc ns m W (exec (.Assign [.Name y py] (.DictComp kx vx [⟨.Name tx tp, it, [], 0⟩] scope pos) spos) env) Q X := by
  have hb : ∃ b, swapsWith (.DictComp kx vx [⟨.Name tx tp, it, [], 0⟩] scope pos) (some (.Name y py)) spos.line env = pure b := ⟨_, rfl⟩
  obtain ⟨b, hb⟩ := hb
  cases b with
  | false =>
    intro A H s ou r fr fi hf eo S L hm
    subst hm
    exact assignName_S hb hk (dictComp_sound (Q := fun v W₂ => Q .next (setv m y v) W₂) ok T hset hIt ihK ihV) A H s ou r fr fi hf eo S L rfl
  | true =>
    intro A H s ou r fr fi hf eo S L hm
    subst hm
    rw [exec_Assign_Name_used _ _ _ _ hb]
    refine wpAny_bind (wpAny_standAt (wpAny_bind ?_))
    show wpAny _ A (do let _ ← comprehension (.DictComp kx vx [⟨.Name tx tp, it, [], 0⟩] scope pos) scope env _ newDict false (eval it env) (some (assign (.Name y py) env))) _ _ s
    refine wpAny_bind (wpAny_mono (wpAny_comprehension_free (use := some (assign (.Name y py) env)) (Q := fun _ s' => SVp P env sc H s (m.map (·.1)) Q .next s') rfl (folded hset) (NestOk.closure T.nest L) T.kind (fun x hx hl => (T.loc x hx hl).1) ?_) (fun _ s' hq => wpAny_pure (wpAny_pure hq)) fun _ _ e => e)
    refine SV.tree (k := fun _ => pure .next) (Q := Q) hIt r fr fi eo S L rfl fun xv W₁ h₁ tk₁ S₁ L₁ i₁ ⟨src, xs, items, okk, hsrc, hL⟩ => ?_
    refine iter_src ok (s := { s with heap := h₁, toks := tk₁ }) hsrc r.hand S₁ xs fun o It ir hit => ?_
    have old : ∀ b o', h₁.get? b = some o' → (h₁.push o).get? b = some o' := fun b o' e => Heap.get?_push_of_some _ e
    have S₂ := S₁.more (h' := h₁.push o) (by simp) old
    have L₂ := L₁.more (h' := h₁.push o) old
    refine dictBlock (s₂ := { s with heap := h₁.push o, toks := tk₁ }) (Qf := fun D W₂ => Q .next (setv m y (.ref D)) W₂) ir T r fr fi eo rfl S₂ L₂ hit ⟨fresh_ge S₁.size, S₁.noH (fresh_ge (Nat.le_refl _)), S₁.noW (fresh_ge (Nat.le_refl _)), L₁.notOwn (fresh_ge (Nat.le_refl _))⟩ (src_ok hsrc).2 ihK ihV hL ?_
    intro D C h' tk W' S' L' im fC ⟨mm, hn⟩ hq
    show wpAny _ A (assign (.Name y py) env (.ref D)) _ _ _
    refine wpAny_assign_Name (store_sound (s := { s with heap := h', toks := tk }) hk eo S' L' (.ref D) fun h₄ tk₄ S4 L4 i4 k4 => ?_)
    refine ⟨mm, hn.at' fun o e => k4 _ o fC.2.2.2 e, fun h'' hs'' => ?_⟩
    refine cps fun kk => ?_
    obtain ⟨S5, L5, i5, _⟩ := left_behind S4 L4 fC (hn.at' fun o e => k4 _ o fC.2.2.2 e) hs''
    refine kk ?_
    clear kk
    exact ⟨_, _, h'', tk₄, .next, rfl, S5, L5, (((i₁.trans (Imm.of_keeps old)).trans im).trans i4).trans i5, store_names hk, .next, hq⟩
end

section
variable {P : Px}
def notComp : PySem.Expr → Bool
  | .ListComp .. | .SetComp .. | .DictComp .. => false
  | _ => true
theorem swaps_no {e : PySem.Expr} {t : Option PySem.Expr} {l : Nat} {env : Env} (h : notComp e = true) : swapsWith e t l env = pure false := by
  cases e <;> first | rfl | cases h
theorem swaps_off {e t : PySem.Expr} {l : Nat} {env : Env} (h : isName t = false) : swapsWith e (some t) l env = pure false := by
  unfold swapsWith
  split
  · cases t <;> first | rfl | cases h
  · rfl
def isTupE : PySem.Expr → Bool
  | .Tuple .. => true
  | _ => false
theorem stores_off {e : PySem.Expr} {es : List PySem.Expr} {k : Nat} {p : Pos} {env : Env} (h : isTupE e = false) : swappedStores [.Tuple es k p] e env = pure none := by
  cases e <;> first | rfl | cases h

end
/-! ### conditions as combinators: one a node of the text -/
abbrev CE := (Store → Prop) → Vars → Store → (AV → Store → Prop) → Prop
abbrev CT := (Store → Prop) → Vars → Store → (Bool → Store → Prop) → Prop
abbrev CL := (Store → Prop) → Vars → Store → (List AV → Store → Prop) → Prop
abbrev CS := (Store → Prop) → Vars → Store → (AFlow → Vars → Store → Prop) → Prop
def getk : Vars → Nat → Option AV
  | [], _ => none
  | (_, u) :: _, 0 => u
  | _ :: r, i + 1 => getk r i
def setk : Vars → Nat → AV → Vars
  | [], _, _ => []
  | (x, _) :: r, 0, v => (x, some v) :: r
  | p :: r, i + 1, v => p :: setk r i v
def slotB (ns : List Str) (x : Str) (i : Nat) : Bool := ns[i]? == some x && !(ns.take i).contains x
theorem getk_lookup : ∀ {m : Vars} {x : Str} {i : Nat} {v : AV}, slotB (m.map (·.1)) x i = true → getk m i = some v → m.lookup x = some (some v)
  | [], x, i, v, _, h => by cases h
  | (y, u) :: r, x, 0, v, hs, h => by
    simp only [slotB, List.map_cons, Bool.and_eq_true, beq_iff_eq, List.getElem?_cons_zero, Option.some.injEq] at hs
    have h : u = some v := h
    rw [h, hs.1, List.lookup_cons, beq_self_eq_true]
  | (y, u) :: r, x, i + 1, v, hs, h => by
    simp only [slotB, List.map_cons, Bool.and_eq_true, beq_iff_eq, List.getElem?_cons_succ, List.take_succ_cons, List.contains_cons, Bool.not_or] at hs
    have hne : (x == y) = false := by simpa using hs.2.1
    rw [List.lookup_cons, hne]
    exact getk_lookup (by simp only [slotB, Bool.and_eq_true, beq_iff_eq]; exact ⟨hs.1, hs.2.2⟩) h
theorem setk_setv : ∀ {m : Vars} {x : Str} {i : Nat} {v : AV}, slotB (m.map (·.1)) x i = true → setk m i v = setv m x v
  | [], x, i, v, h => by simp [slotB] at h
  | (y, u) :: r, x, 0, v, hs => by
    simp only [slotB, List.map_cons, Bool.and_eq_true, beq_iff_eq, List.getElem?_cons_zero, Option.some.injEq] at hs
    show (y, some v) :: r = setv ((y, u) :: r) x v
    unfold setv
    rw [if_pos (by rw [hs.1]; exact beq_self_eq_true _)]
  | (y, u) :: r, x, i + 1, v, hs => by
    simp only [slotB, List.map_cons, Bool.and_eq_true, beq_iff_eq, List.getElem?_cons_succ, List.take_succ_cons, List.contains_cons, Bool.not_or] at hs
    have hne : (x == y) = false := by simpa using hs.2.1
    show (y, u) :: setk r i v = setv ((y, u) :: r) x v
    unfold setv
    rw [if_neg (by rw [hne]; simp), setk_setv (by simp only [slotB, Bool.and_eq_true, beq_iff_eq]; exact ⟨hs.1, hs.2.2⟩)]

structure SE (P : Px) (k : Nat) (sc : Names) (ns : List Str) (e : PySem.Expr) (c : CE) : Prop where
  ok : ∀ {X : Store → Prop} {env : Env} {m : Vars} {W : Store} {Q : AV → Store → Prop}, m.map (·.1) = ns → c X m W Q → EV P (k + 4) env sc m W (eval e env) (Val Q) X
structure TE (P : Px) (k : Nat) (sc : Names) (ns : List Str) (e : PySem.Expr) (c : CT) : Prop where
  ok : ∀ {X : Store → Prop} {env : Env} {m : Vars} {W : Store} {Q : Bool → Store → Prop}, m.map (·.1) = ns → c X m W Q → EV P (k + 4) env sc m W (isTrue e env (eval e env)) (Tst Q) X
structure LE (P : Px) (k : Nat) (sc : Names) (ns : List Str) (es : List PySem.Expr) (c : CL) : Prop where
  ok : ∀ {X : Store → Prop} {env : Env} {m : Vars}, m.map (·.1) = ns → LOk P (k + 4) env sc m X es (c X m)
structure SS (P : Px) (k : Nat) (sc : Names) (ns : List Str) (s : Stmt) (c : CS) : Prop where
  ok : ∀ {X : Store → Prop} {env : Env} {m : Vars} {W : Store} {Q : AFlow → Vars → Store → Prop}, m.map (·.1) = ns → c X m W Q → SV P (k + 4) env sc ns m W (exec s env) Q X
structure BS (P : Px) (k : Nat) (sc : Names) (ns : List Str) (b : List Stmt) (c : CS) : Prop where
  ok : ∀ {X : Store → Prop} {env : Env} {m : Vars} {W : Store} {Q : AFlow → Vars → Store → Prop}, m.map (·.1) = ns → c X m W Q → SV P (k + 4) env sc ns m W (execs b env) Q X

structure Attr (P : Px) (o : AV) (x : Str) (W : Store) (Q : AV → Store → Prop) : Prop where
  out : attrOk P o x W Q
structure SetA (P : Px) (o : AV) (x : Str) (v : AV) (W : Store) (Q : Store → Prop) : Prop where
  out : setAttrOk P o x v W Q
structure Meth (P : Px) (n : Nat) (o : AV) (x : Str) (l : Store → (List AV → Store → Prop) → Prop) (W : Store) (Q : AV → Store → Prop) (X : Store → Prop) : Prop where
  out : methAt P n o x l W Q X
/-! expressions -/
def cVal (v : AV) : CE := fun _ _ W Q => Q v W
def cStr : CE := fun _ _ W Q => ∀ s, Q (.str s) W
def cSlot (i : Nat) : CE := fun _ m W Q => match getk m i with | some v => Q v W | none => False
def cBin (op : Operator) (c d : CE) : CE := fun X m W Q => c X m W fun a W₁ => d X m W₁ fun b W₂ => binOk op a b W₂ Q
def cCmp (op : CmpOp) (c d : CE) : CE := fun X m W Q => c X m W fun a W₁ => d X m W₁ fun b W₂ => cmpOk op a b W₂ fun t W₃ => Q (.bool t) W₃
def cNot (c : CE) : CE := fun X m W Q => c X m W fun a W₁ => truOk a W₁ fun t W₂ => Q (.bool (!t)) W₂
def cAnd (c d : CE) : CE := fun X m W Q => c X m W fun v W₁ => truOk v W₁ fun t W₂ => (t = true → d X m W₂ Q) ∧ (t = false → Q v W₂)
def cTup (l : CL) : CE := fun X m W Q => l X m W fun vs W₁ => Q (.tup vs) W₁
def cLst (l : CL) : CE := fun X m W Q => l X m W fun vs W₁ => new W₁ (.list vs) Q
def cDict : CE := fun _ _ W Q => new W (.dict []) Q
def cAttr (P : Px) (c : CE) (x : Str) : CE := fun X m W Q => c X m W fun a W₁ => Attr P a x W₁ Q
def cSub (c d : CE) : CE := fun X m W Q => c X m W fun a W₁ => d X m W₁ fun b W₂ => subOk a b W₂ Q
def cSlice (P : Px) (c : CE) (hi : Option Nat) : CE := fun X m W Q => c X m W fun a W₁ => sliceOk P a hi W₁ Q
def cCall (P : Px) (k : Nat) (c : CE) (l : CL) : CE := fun X m W Q => c X m W fun a W₁ => l X m W₁ fun vs W₂ => Call P k a vs W₂ Q X
def cMeth (P : Px) (k : Nat) (c : CE) (x : Str) (l : CL) : CE := fun X m W Q => c X m W fun a W₁ => Meth P k a x (l X m) W₁ Q X
def cFstr (c : CE) : CE := fun X m W Q => c X m W fun a W₁ => ∃ i : Int, a = .int i ∧ 0 ≤ i ∧ i < 100 ∧ ∀ s, Q (.str s) W₁
/-- a condition that bears a weaker end -/
def wkE (c : CE) (X : Store → Prop) (m : Vars) (W : Store) (Q : AV → Store → Prop) : Prop := ∃ R, c X m W R ∧ ∀ v W', R v W' → Q v W'
def wkT (c : CT) (X : Store → Prop) (m : Vars) (W : Store) (Q : Bool → Store → Prop) : Prop := ∃ R, c X m W R ∧ ∀ v W', R v W' → Q v W'
def wkS (c : CS) (X : Store → Prop) (m : Vars) (W : Store) (Q : AFlow → Vars → Store → Prop) : Prop := ∃ R, c X m W R ∧ ∀ f m' W', R f m' W' → Q f m' W'
def noX : Store → Prop := fun _ => False
/-- a comprehension's target, its place left out -/
def tg1 (x : Str) : PySem.Expr := .Name x default
def tg2 (x y : Str) : PySem.Expr := .Tuple [.Name x default, .Name y default] 0 default
def SameT (t t' : PySem.Expr) : Prop := ∀ v m k, bindC t v m k = bindC t' v m k
def cComp (t : PySem.Expr) (it elt : CE) : CE := fun X m W Q => it X m W fun src W₁ => ∃ items ok, Src W₁ src items ok ∧
  compL (fun v k => bindC t v m k) (fun _ W' Q' => Q' true W') (wkE elt noX) ok (fun ys W₂ => ys.length ≤ 1000 ∧ new W₂ (.list ys) Q) items [] W₁
def cCompIf (t : PySem.Expr) (it : CE) (c : CT) (elt : CE) : CE := fun X m W Q => it X m W fun src W₁ => ∃ items ok, Src W₁ src items ok ∧
  compL (fun v k => bindC t v m k) (wkT c noX) (wkE elt noX) ok (fun ys W₂ => ys.length ≤ 1000 ∧ new W₂ (.list ys) Q) items [] W₁
def cDComp (t : PySem.Expr) (it kx vx : CE) : CE := fun X m W Q => it X m W fun src W₁ => ∃ items ok, Src W₁ src items ok ∧ ∀ D, W₁ D = none →
  dictL (fun v k => bindC t v m k) (wkE kx noX) (wkE vx noX) ok D (fun W₂ => Q (.ref D) W₂) items (upd W₁ D (.dict []))
/-! tests -/
def tVal (c : CE) : CT := fun X m W Q => c X m W fun a W₁ => truOk a W₁ Q
def tNot (c : CT) : CT := fun X m W Q => c X m W fun t W₁ => Q (!t) W₁
def tAnd (c d : CT) : CT := fun X m W Q => c X m W fun t W₁ => (t = true → d X m W₁ Q) ∧ (t = false → Q false W₁)
def tOr (c d : CT) : CT := fun X m W Q => c X m W fun t W₁ => (t = true → Q true W₁) ∧ (t = false → d X m W₁ Q)
def tCmp (op : CmpOp) (c d : CE) : CT := fun X m W Q => c X m W fun a W₁ => d X m W₁ fun b W₂ => cmpOk op a b W₂ Q
/-! lists -/
def lNil : CL := fun _ _ W Q => Q [] W
def lCons (c : CE) (l : CL) : CL := fun X m W Q => c X m W fun v W₁ => l X m W₁ fun vs W₂ => Q (v :: vs) W₂
/-! statements -/
def sExpr (c : CE) : CS := fun X m W Q => c X m W fun v W₁ => v = .none ∧ Q .next m W₁
def sPass : CS := fun _ m W Q => Q .next m W
def sCont : CS := fun _ m W Q => Q .cont m W
def sRet (c : CE) : CS := fun X m W Q => c X m W fun v W₁ => Q (.ret v) m W₁
def sRetN : CS := fun _ m W Q => Q (.ret .none) m W
def sAsg (i : Nat) (c : CE) : CS := fun X m W Q => c X m W fun v W₁ => Q .next (setk m i v) W₁
def sAsg2 (i j : Nat) (c : CE) : CS := fun X m W Q => c X m W fun v W₁ => ∃ a b, v = .tup [a, b] ∧ Q .next (setk (setk m i a) j b) W₁
def sAsg3 (i j l : Nat) (c : CE) : CS := fun X m W Q => c X m W fun v W₁ => ∃ a b d, v = .tup [a, b, d] ∧ Q .next (setk (setk (setk m i a) j b) l d) W₁
def sSetA (P : Px) (c o : CE) (x : Str) : CS := fun X m W Q => c X m W fun v W₁ => o X m W₁ fun a W₂ => SetA P a x v W₂ fun W₃ => Q .next m W₃
def sSetI (c o i : CE) : CS := fun X m W Q => c X m W fun v W₁ => o X m W₁ fun a W₂ => i X m W₂ fun b W₃ => setItemOk a b v W₃ fun W₄ => Q .next m W₄
def sAug (i : Nat) (c : CE) : CS := fun X m W Q => match getk m i with
  | some old => c X m W fun v W₁ => ∃ a b : Int, old = .int a ∧ v = .int b ∧ Q .next (setk m i (.int (a + b))) W₁
  | none => False
def sIf (c : CT) (a b : CS) : CS := fun X m W Q => ∃ R : Bool → Store → Prop, c X m W R ∧ ∀ t W₁, R t W₁ → (t = true → a X m W₁ Q) ∧ (t = false → b X m W₁ Q)
def sFor1 (i : Nat) (it : CE) (body : CS) : CS := fun X m W Q => it X m W fun src W₁ => ∃ items ok, Src W₁ src items ok ∧ forL (fun v m k => k (setk m i v)) (wkS body X) ok Q items m W₁
def sFor2 (i j : Nat) (it : CE) (body : CS) : CS := fun X m W Q => it X m W fun src W₁ => ∃ items ok, Src W₁ src items ok ∧ forL (fun v m k => ∃ a b, v = .tup [a, b] ∧ k (setk (setk m i a) j b)) (wkS body X) ok Q items m W₁
def sRaise (c : CE) : CS := fun X m W _ => c X m W fun v W₁ => (∃ t, v = .str t) ∧ X W₁
def sNever : CS := fun _ _ _ _ => False
def sTry (body : CS) : CS := fun _ m W Q => body (fun W' => ∀ m', Q (.ret .none) m' W') m W Q
def bNil : CS := fun _ m W Q => Q .next m W
def bCons (c r : CS) : CS := fun X m W Q => ∃ R : Vars → Store → Prop, c X m W (behind R Q) ∧ ∀ m₁ W₁, R m₁ W₁ → r X m₁ W₁ Q

section
variable {P : Px} {k : Nat} {sc : Names} {ns : List Str}
def nameB (sc : Names) (ns : List Str) (x : Str) (i : Nat) : Bool := nameOk sc ns x && slotB ns x i
def storeB (sc : Names) (ns : List Str) (x : Str) (i : Nat) : Bool := storeOk sc ns x && slotB ns x i
theorem e_none {kk : Nat} {p : Pos} : SE P k sc ns (.Constant .none kk p) (cVal .none) := ⟨fun _ h => const_sound h⟩
theorem e_bool {b : Bool} {kk : Nat} {p : Pos} : SE P k sc ns (.Constant (.bool b) kk p) (cVal (.bool b)) := ⟨fun _ h => const_sound h⟩
theorem e_int {i : Int} {kk : Nat} {p : Pos} : SE P k sc ns (.Constant (.int i) kk p) (cVal (.int i)) := ⟨fun _ h => const_sound h⟩
theorem e_str {s : Str} {kk : Nat} {p : Pos} : SE P k sc ns (.Constant (.str s) kk p) cStr := ⟨fun {X env m W Q} _ h => const_sound (c := .str s) (Q := Q) (h s)⟩
theorem e_bytes {b : List UInt8} {kk : Nat} {p : Pos} : SE P k sc ns (.Constant (.bytes b) kk p) (cVal (.bytes b.toArray)) := ⟨fun _ h => const_sound h⟩
theorem e_slot (ok : PxOk P) {x : Str} {p : Pos} (i : Nat) (hb : nameB sc ns x i = true) : SE P k sc ns (.Name x p) (cSlot i) := ⟨fun {X env m W Q} hm h => by
  simp only [nameB, Bool.and_eq_true] at hb
  subst hm
  refine name_sound ok hb.1 ?_
  unfold cSlot at h
  cases e : getk m i with
  | none => rw [e] at h; exact h.elim
  | some v =>
    rw [e] at h
    unfold nameV
    rw [getk_lookup hb.2 e]
    exact h⟩
theorem e_glob (ok : PxOk P) {x : Str} {p : Pos} {v : AV} (hg : P.glob x = some v) (hb : (nameOk sc ns x && !ns.contains x) = true) : SE P k sc ns (.Name x p) (cVal v) := ⟨fun {X env m W Q} hm h => by
  simp only [Bool.and_eq_true, Bool.not_eq_true'] at hb
  subst hm
  refine name_sound ok hb.1 ?_
  unfold nameV
  rw [look_glob hb.2]
  exact ⟨v, hg, h⟩⟩
theorem e_bin {l r : PySem.Expr} {op : Operator} {p : Pos} {c d : CE} (hl : SE P k sc ns l c) (hr : SE P k sc ns r d) : SE P k sc ns (.BinOp l op r p) (cBin op c d) :=
  ⟨fun hm h => bin_sound ((hl.ok hm h).val fun _ _ q => hr.ok hm q)⟩
theorem e_cmp (ok : PxOk P) {l r : PySem.Expr} {op : CmpOp} {p : Pos} {c d : CE} (hb : behindInMarks op r = false) (hl : SE P k sc ns l c) (hr : SE P k sc ns r d) : SE P k sc ns (.Compare l [op] [r] p) (cCmp op c d) :=
  ⟨fun hm h => cmp_sound ok hb (by omega) ((hl.ok hm h).val fun _ _ q => hr.ok hm q)⟩
theorem e_not {x : PySem.Expr} {p : Pos} {c : CE} (hx : SE P k sc ns x c) : SE P k sc ns (.UnaryOp .Not x p) (cNot c) := ⟨fun hm h => not_sound (hx.ok hm h)⟩
theorem e_neg {i : Int} {kk : Nat} {p p' : Pos} : SE P k sc ns (.UnaryOp .USub (.Constant (.int i) kk p) p') (cVal (.int (-i))) :=
  ⟨fun hm h => neg_sound ((e_int.ok hm (Q := fun a W => a = .int i ∧ (cVal (.int (-i))) (fun _ => False) [] W _) ⟨rfl, h⟩).val fun a W q => ⟨i, q.1, q.2⟩)⟩
theorem e_and {a b : PySem.Expr} {p : Pos} {c d : CE} (ha : SE P k sc ns a c) (hb : SE P k sc ns b d) : SE P k sc ns (.BoolOp .And [a, b] p) (cAnd c d) :=
  ⟨fun hm h => boolop_sound ((ha.ok hm h).val fun v W₁ q => truOk_mono q fun t W₂ q => by cases t <;> first | exact q.2 rfl | exact hb.ok hm (q.1 rfl))⟩
theorem e_tuple {es : List PySem.Expr} {kk : Nat} {p : Pos} {l : CL} (hz : es.length ≤ 100) (hl : LE P k sc ns es l) : SE P k sc ns (.Tuple es kk p) (cTup l) := ⟨fun hm h => tuple_sound (hl.ok hm) hz h⟩
theorem e_list {es : List PySem.Expr} {p : Pos} {l : CL} (hz : es.length ≤ 100) (hl : LE P k sc ns es l) : SE P k sc ns (.List es p) (cLst l) := ⟨fun hm h => list_sound (hl.ok hm) hz h⟩
theorem e_dict {p : Pos} : SE P k sc ns (.Dict [] [] p) cDict := ⟨fun _ h => dict_nil h⟩
theorem e_attr (ok : PxOk P) {o : PySem.Expr} {x : Str} {p : Pos} {c : CE} (hn : noCallE o = true) (ho : SE P k sc ns o c) : SE P k sc ns (.Attribute o x p) (cAttr P c x) := ⟨fun hm h => attr_sound ok hn ((ho.ok hm h).val fun _ _ q => q.out)⟩
theorem e_sub {o i : PySem.Expr} {p : Pos} {c d : CE} (ho : SE P k sc ns o c) (hi : SE P k sc ns i d) : SE P k sc ns (.Subscript o i p) (cSub c d) :=
  ⟨fun hm h => sub_sound ((ho.ok hm h).val fun _ _ q => hi.ok hm q)⟩
theorem e_slice {o i : PySem.Expr} {p : Pos} {c : CE} (hi : Option Nat) (hs : isSlice i = some hi) (ho : SE P k sc ns o c) : SE P k sc ns (.Subscript o i p) (cSlice P c hi) := ⟨fun hm h => subSlice_sound hs (ho.ok hm h)⟩
theorem e_call (ok : PxOk P) {x : Str} {es : List PySem.Expr} {np p : Pos} {c : CE} {l : CL} (hf : SE P k sc ns (.Name x np) c) (hl : LE P k sc ns es l) : SE P k sc ns (.Call (.Name x np) es [] p) (cCall P k c l) :=
  ⟨fun hm h => callName_sound ok (k := k) (by omega) (hl.ok hm) (hf.ok hm h)⟩
theorem e_meth (ok : PxOk P) {o : PySem.Expr} {x : Str} {es : List PySem.Expr} {ap p : Pos} {c : CE} {l : CL} (hb : (noCallE o && ap.endLine == p.line && decide (es.length < 30)) = true) (ho : SE P k sc ns o c) (hl : LE P k sc ns es l) : SE P k sc ns (.Call (.Attribute o x ap) es [] p) (cMeth P k c x l) :=
  ⟨fun hm h => by
    simp only [Bool.and_eq_true, decide_eq_true_eq] at hb
    exact callMeth_sound ok (hl.ok hm) hb.2 hb.1.2 hb.1.1 (k := k) (by omega) ((ho.ok hm h).val fun _ _ q => q.out)⟩
theorem e_fstr {s : Str} {v : PySem.Expr} {kk : Nat} {p p' p'' : Pos} {c : CE} (hz : s.length ≤ 1000) (hv : SE P k sc ns v c) : SE P k sc ns (.JoinedStr [.Constant (.str s) kk p, .FormattedValue v (-1) none p'] p'') (cFstr c) := ⟨fun hm h => joined_sound hz (hv.ok hm h)⟩
theorem tg1_ok {x : Str} {p : Pos} : SameT (.Name x p) (tg1 x) := fun _ _ _ => rfl
theorem tg2_ok {x y : Str} {p p' p'' : Pos} {kk : Nat} : SameT (.Tuple [.Name x p, .Name y p'] kk p'') (tg2 x y) := fun v m k => by
  unfold tg2 bindC
  rcases v with _ | _ | _ | _ | _ | l | _ | _ | _ | _
  case tup => rcases l with _ | ⟨a, _ | ⟨b, _ | ⟨c, r⟩⟩⟩ <;> rfl
  all_goals rfl
theorem sameT {t t' : PySem.Expr} (h : SameT t t') (m : Vars) : (fun v k => bindC t' v m k) = fun v k => bindC t v m k := funext fun v => funext fun k => (h v m k).symm
theorem wkE_ok {env : Env} {m : Vars} {W : Store} {Q : AV → Store → Prop} {e : PySem.Expr} {c : CE} {X : Store → Prop} (h : SE P k sc ns e c) (hm : m.map (·.1) = ns) (q : wkE c X m W Q) : EV P (k + 4) env sc m W (eval e env) (Val Q) X := by
  refine cps fun kk => ?_
  obtain ⟨R, a, b⟩ := q
  refine kk ?_
  clear kk
  exact (h.ok hm a).val b
theorem wkT_ok {env : Env} {m : Vars} {W : Store} {Q : Bool → Store → Prop} {e : PySem.Expr} {c : CT} {X : Store → Prop} (h : TE P k sc ns e c) (hm : m.map (·.1) = ns) (q : wkT c X m W Q) : EV P (k + 4) env sc m W (isTrue e env (eval e env)) (Tst Q) X := by
  refine cps fun kk => ?_
  obtain ⟨R, a, b⟩ := q
  refine kk ?_
  clear kk
  exact (h.ok hm a).tst b
theorem e_comp (ok : PxOk P) {elt it t t' : PySem.Expr} {scope : Scope} {p : Pos} {ci ce : CE} (ht : SameT t t') (hb : compOk sc ns scope it t = true) (hi : SE P k sc ns it ci) (he : SE P k scope.names (compNames t ++ ns) elt ce) : SE P k sc ns (.ListComp elt [⟨t, it, [], 0⟩] scope p) (cComp t' ci ce) :=
  ⟨fun {X env m W Q} hm h => by
    subst hm
    unfold cComp at h
    simp only [sameT ht] at h
    obtain ⟨T, hs⟩ := compTxt hb
    exact listComp_sound ok T hs (hi.ok rfl h) (fun C m' W' Q' _ hq' A H s Fs r fr fi eo S L _ => tests_nil ⟨W', s.heap, s.toks, rfl, S, L, .refl _, hq'⟩) (fun C m' W' Q' hm' hq' => wkE_ok he hm' hq')⟩
theorem e_compIf (ok : PxOk P) {elt it t t' cc : PySem.Expr} {scope : Scope} {p : Pos} {ci ce : CE} {ct : CT} (ht : SameT t t') (hb : compOk sc ns scope it t = true) (hi : SE P k sc ns it ci) (hc : TE P k scope.names (compNames t ++ ns) cc ct) (he : SE P k scope.names (compNames t ++ ns) elt ce) : SE P k sc ns (.ListComp elt [⟨t, it, [cc], 0⟩] scope p) (cCompIf t' ci ct ce) :=
  ⟨fun {X env m W Q} hm h => by
    subst hm
    unfold cCompIf at h
    simp only [sameT ht] at h
    obtain ⟨T, hs⟩ := compTxt hb
    exact listComp_sound ok T hs (hi.ok rfl h) (fun C m' W' Q' hm' hq' A H s Fs r fr fi eo S L _ => tests_one (wkT_ok hc hm' hq' A H s Fs r fr fi eo S L trivial)) (fun C m' W' Q' hm' hq' => wkE_ok he hm' hq')⟩
theorem e_dcomp (ok : PxOk P) {kx vx it : PySem.Expr} {x : Str} {tp : Pos} {scope : Scope} {p : Pos} {ci ck cv : CE} (hb : compOk sc ns scope it (.Name x tp) = true) (hi : SE P k sc ns it ci) (hk : SE P k scope.names (x :: ns) kx ck) (hv : SE P k scope.names (x :: ns) vx cv) : SE P k sc ns (.DictComp kx vx [⟨.Name x tp, it, [], 0⟩] scope p) (cDComp (tg1 x) ci ck cv) :=
  ⟨fun hm h => by
    subst hm
    obtain ⟨T, hs⟩ := compTxt hb
    exact dictComp_sound ok T hs (hi.ok rfl h) (fun C m' W' Q' hm' hq' => wkE_ok hk hm' hq') (fun C m' W' Q' hm' hq' => wkE_ok hv hm' hq')⟩
theorem l_nil : LE P k sc ns [] lNil := ⟨fun _ => LOk.nil⟩
theorem l_cons {e : PySem.Expr} {r : List PySem.Expr} {c : CE} {l : CL} (hp : plainE e = true) (he : SE P k sc ns e c) (hl : LE P k sc ns r l) : LE P k sc ns (e :: r) (lCons c l) := ⟨fun hm => LOk.cons hp (fun _ _ q => he.ok hm q) (hl.ok hm)⟩
/-! tests -/
theorem t_not {x : PySem.Expr} {p : Pos} {c : CT} (h : TE P k sc ns x c) : TE P k sc ns (.UnaryOp .Not x p) (tNot c) := ⟨fun hm q => notT_sound (h.ok hm q)⟩
theorem t_and {a b : PySem.Expr} {p : Pos} {c d : CT} (ha : TE P k sc ns a c) (hb : TE P k sc ns b d) : TE P k sc ns (.BoolOp .And [a, b] p) (tAnd c d) :=
  ⟨fun hm h => boolT_sound ((ha.ok hm h).tst fun t W₁ q => by cases t <;> first | exact q.2 rfl | exact hb.ok hm (q.1 rfl))⟩
theorem t_or {a b : PySem.Expr} {p : Pos} {c d : CT} (ha : TE P k sc ns a c) (hb : TE P k sc ns b d) : TE P k sc ns (.BoolOp .Or [a, b] p) (tOr c d) :=
  ⟨fun hm h => boolT_sound ((ha.ok hm h).tst fun t W₁ q => by cases t <;> first | exact q.1 rfl | exact hb.ok hm (q.2 rfl))⟩
theorem t_cmp (ok : PxOk P) {l r : PySem.Expr} {op : CmpOp} {p : Pos} {c d : CE} (hb : behindInMarks op r = false) (hl : SE P k sc ns l c) (hr : SE P k sc ns r d) : TE P k sc ns (.Compare l [op] [r] p) (tCmp op c d) :=
  ⟨fun hm h => cmpT_sound ok hb (by omega) ((hl.ok hm h).val fun _ _ q => hr.ok hm q)⟩
theorem t_name {x : Str} {p : Pos} {c : CE} (h : SE P k sc ns (.Name x p) c) : TE P k sc ns (.Name x p) (tVal c) := ⟨fun hm q => isTrue_val rfl (h.ok hm q)⟩
theorem t_attr {o : PySem.Expr} {x : Str} {p : Pos} {c : CE} (h : SE P k sc ns (.Attribute o x p) c) : TE P k sc ns (.Attribute o x p) (tVal c) := ⟨fun hm q => isTrue_val rfl (h.ok hm q)⟩
theorem t_sub {o i : PySem.Expr} {p : Pos} {c : CE} (h : SE P k sc ns (.Subscript o i p) c) : TE P k sc ns (.Subscript o i p) (tVal c) := ⟨fun hm q => isTrue_val rfl (h.ok hm q)⟩
theorem t_call {f : PySem.Expr} {es : List PySem.Expr} {ks : List Keyword} {p : Pos} {c : CE} (h : SE P k sc ns (.Call f es ks p) c) : TE P k sc ns (.Call f es ks p) (tVal c) := ⟨fun hm q => isTrue_val rfl (h.ok hm q)⟩
/-! statements -/
theorem s_expr {e : PySem.Expr} {p : Pos} {c : CE} (hn : notComp e = true) (h : SE P k sc ns e c) : SS P k sc ns (.Expr e p) (sExpr c) := ⟨fun hm q => expr_S (swaps_no hn) (h.ok hm q)⟩
theorem s_pass {p : Pos} : SS P k sc ns (.Pass p) sPass := ⟨fun _ q _ _ _ _ _ _ _ _ _ S L hm => wpAny_Pass (sdone S L hm .next q)⟩
theorem s_cont {p : Pos} : SS P k sc ns (.Continue p) sCont := ⟨fun _ q _ _ _ _ _ _ _ _ _ S L hm => wpAny_Continue (sdone S L hm .cont q)⟩
theorem s_ret {e : PySem.Expr} {p : Pos} {c : CE} (h : SE P k sc ns e c) : SS P k sc ns (.Return (some e) p) (sRet c) := ⟨fun hm q => ret_S (h.ok hm q)⟩
theorem s_retN {p : Pos} : SS P k sc ns (.Return none p) sRetN := ⟨fun _ q => retN_S q⟩
theorem s_asg {e : PySem.Expr} {x : Str} {p p' : Pos} {c : CE} (i : Nat) (hb : storeB sc ns x i = true) (hn : notComp e = true) (h : SE P k sc ns e c) : SS P k sc ns (.Assign [.Name x p'] e p) (sAsg i c) :=
  ⟨fun hm q => by
    simp only [storeB, Bool.and_eq_true] at hb
    refine assignName_S (swaps_no hn) hb.1 ((h.ok hm q).val fun v W₁ q => ?_)
    rw [setk_setv (by rw [hm]; exact hb.2)] at q; exact q⟩
theorem s_asgC (ok : PxOk P) {elt it t t' : PySem.Expr} {scope : Scope} {pp p p' : Pos} {x : Str} {ci ce : CE} (i : Nat) (hs : storeB sc ns x i = true) (ht : SameT t t') (hb : compOk sc ns scope it t = true) (hi : SE P k sc ns it ci) (he : SE P k scope.names (compNames t ++ ns) elt ce) : SS P k sc ns (.Assign [.Name x p'] (.ListComp elt [⟨t, it, [], 0⟩] scope pp) p) (sAsg i (cComp t' ci ce)) :=
  ⟨fun {X env m W Q} hm h => by
    simp only [storeB, Bool.and_eq_true] at hs
    have e : ∀ v, setk m i v = setv m x v := fun v => setk_setv (by rw [hm]; exact hs.2)
    obtain ⟨T, hset⟩ := compTxt hb
    unfold sAsg cComp at h
    simp only [e, sameT ht] at h
    exact listAssign_S ok hs.1 T hset (hi.ok hm h) (fun C m' W' Q' _ hq' A H s Fs r fr fi eo S L _ => tests_nil ⟨W', s.heap, s.toks, rfl, S, L, .refl _, hq'⟩) (fun C m' W' Q' hm' hq' => wkE_ok he hm' hq')⟩
theorem s_asgCI (ok : PxOk P) {elt it t t' cc : PySem.Expr} {scope : Scope} {pp p p' : Pos} {x : Str} {ci ce : CE} {ct : CT} (i : Nat) (hs : storeB sc ns x i = true) (ht : SameT t t') (hb : compOk sc ns scope it t = true) (hi : SE P k sc ns it ci) (hc : TE P k scope.names (compNames t ++ ns) cc ct) (he : SE P k scope.names (compNames t ++ ns) elt ce) : SS P k sc ns (.Assign [.Name x p'] (.ListComp elt [⟨t, it, [cc], 0⟩] scope pp) p) (sAsg i (cCompIf t' ci ct ce)) :=
  ⟨fun {X env m W Q} hm h => by
    simp only [storeB, Bool.and_eq_true] at hs
    have e : ∀ v, setk m i v = setv m x v := fun v => setk_setv (by rw [hm]; exact hs.2)
    obtain ⟨T, hset⟩ := compTxt hb
    unfold sAsg cCompIf at h
    simp only [e, sameT ht] at h
    exact listAssign_S ok hs.1 T hset (hi.ok hm h) (fun C m' W' Q' hm' hq' A H s Fs r fr fi eo S L _ => tests_one (wkT_ok hc hm' hq' A H s Fs r fr fi eo S L trivial)) (fun C m' W' Q' hm' hq' => wkE_ok he hm' hq')⟩
theorem s_asgD (ok : PxOk P) {kx vx it : PySem.Expr} {y x : Str} {tp : Pos} {scope : Scope} {pp p p' : Pos} {ci ck cv : CE} (i : Nat) (hs : storeB sc ns x i = true) (hb : compOk sc ns scope it (.Name y tp) = true) (hi : SE P k sc ns it ci) (hk : SE P k scope.names (y :: ns) kx ck) (hv : SE P k scope.names (y :: ns) vx cv) : SS P k sc ns (.Assign [.Name x p'] (.DictComp kx vx [⟨.Name y tp, it, [], 0⟩] scope pp) p) (sAsg i (cDComp (tg1 y) ci ck cv)) :=
  ⟨fun {X env m W Q} hm h => by
    simp only [storeB, Bool.and_eq_true] at hs
    have e : ∀ v, setk m i v = setv m x v := fun v => setk_setv (by rw [hm]; exact hs.2)
    obtain ⟨T, hset⟩ := compTxt hb
    unfold sAsg cDComp at h
    simp only [e] at h
    exact dictAssign_S ok hs.1 T hset (hi.ok hm h) (fun C m' W' Q' hm' hq' => wkE_ok hk hm' hq') (fun C m' W' Q' hm' hq' => wkE_ok hv hm' hq')⟩
end
section
variable {P : Px} {k : Nat} {sc : Names} {ns : List Str}
theorem slot_store {x : Str} {i : Nat} (h : storeB sc ns x i = true) : storeOk sc ns x = true ∧ slotB ns x i = true := by
  unfold storeB at h; rwa [Bool.and_eq_true] at h
theorem setv_in {m : Vars} {x : Str} {v : AV} (hm : m.map (·.1) = ns) (h : storeOk sc ns x = true) : (setv m x v).map (·.1) = ns := by
  subst hm; exact store_names h
theorem setk_in {m : Vars} {x : Str} {i : Nat} {v : AV} (hm : m.map (·.1) = ns) (h : storeB sc ns x i = true) : setk m i v = setv m x v ∧ (setk m i v).map (·.1) = ns := by
  have e : setk m i v = setv m x v := setk_setv (by rw [hm]; exact (slot_store h).2)
  exact ⟨e, by rw [e]; exact setv_in hm (slot_store h).1⟩
theorem tgt2 {x y : Str} {px py tp : Pos} {kk : Nat} {i j : Nat} {m : Vars} {v : AV} {K : Vars → Prop} (hx : storeB sc ns x i = true) (hy : storeB sc ns y j = true) (hm : m.map (·.1) = ns)
    (h : ∃ a b, v = .tup [a, b] ∧ K (setk (setk m i a) j b)) : bindT (.Tuple [.Name x px, .Name y py] kk tp) v m K := by
  refine cps fun kk => ?_
  obtain ⟨a, b, rfl, q⟩ := h
  refine kk ?_
  clear kk
  have e := setk_in (v := a) hm hx
  rw [(setk_in e.2 hy).1, e.1] at q
  exact q
theorem tgt3 {x y z : Str} {px py pz tp : Pos} {kk : Nat} {i j l : Nat} {m : Vars} {v : AV} {K : Vars → Prop} (hx : storeB sc ns x i = true) (hy : storeB sc ns y j = true) (hz : storeB sc ns z l = true) (hm : m.map (·.1) = ns)
    (h : ∃ a b d, v = .tup [a, b, d] ∧ K (setk (setk (setk m i a) j b) l d)) : bindT (.Tuple [.Name x px, .Name y py, .Name z pz] kk tp) v m K := by
  refine cps fun kk => ?_
  obtain ⟨a, b, d, rfl, q⟩ := h
  refine kk ?_
  clear kk
  have e := setk_in (v := a) hm hx
  have e' := setk_in (v := b) e.2 hy
  rw [(setk_in e'.2 hz).1, e'.1, e.1] at q
  exact q
theorem tgtOk2 {x y : Str} {px py tp : Pos} {kk i j : Nat} (hx : storeB sc ns x i = true) (hy : storeB sc ns y j = true) (hxy : (x != y) = true) : targetOk sc ns (.Tuple [.Name x px, .Name y py] kk tp) = true := by
  show (storeOk sc ns x && storeOk sc ns y && x != y) = true
  rw [(slot_store hx).1, (slot_store hy).1]; exact hxy
theorem s_asg2 {e : PySem.Expr} {x y : Str} {px py tp p : Pos} {kk : Nat} {c : CE} (i j : Nat) (hx : storeB sc ns x i = true) (hy : storeB sc ns y j = true) (hxy : (x != y) = true) (hn : isTupE e = false) (h : SE P k sc ns e c) : SS P k sc ns (.Assign [.Tuple [.Name x px, .Name y py] kk tp] e p) (sAsg2 i j c) :=
  ⟨fun {X env m W Q} hm q => assignTup_S (by unfold swapsWithSole; exact swaps_off rfl) (stores_off hn) (tgtOk2 hx hy hxy) ((h.ok hm q).val fun _ _ q => tgt2 hx hy hm q)⟩
theorem s_asg3 {e : PySem.Expr} {x y z : Str} {px py pz tp p : Pos} {kk : Nat} {c : CE} (i j l : Nat) (hx : storeB sc ns x i = true) (hy : storeB sc ns y j = true) (hz : storeB sc ns z l = true) (hn : isTupE e = false) (h : SE P k sc ns e c) : SS P k sc ns (.Assign [.Tuple [.Name x px, .Name y py, .Name z pz] kk tp] e p) (sAsg3 i j l c) :=
  ⟨fun {X env m W Q} hm q => assignTup_S (by unfold swapsWithSole; exact swaps_off rfl) (stores_off hn) (by show (storeOk sc ns x && storeOk sc ns y && storeOk sc ns z) = true; rw [(slot_store hx).1, (slot_store hy).1, (slot_store hz).1]; rfl) ((h.ok hm q).val fun _ _ q => tgt3 hx hy hz hm q)⟩
theorem s_setA (ok : PxOk P) {e o : PySem.Expr} {x : Str} {p p' : Pos} {c d : CE} (he : SE P k sc ns e c) (ho : SE P k sc ns o d) : SS P k sc ns (.Assign [.Attribute o x p'] e p) (sSetA P c d x) :=
  ⟨fun hm q => assignAttr_S ok (swaps_off rfl) ((he.ok hm q).val fun _ _ q => (ho.ok hm q).val fun _ _ q => q.out)⟩
theorem s_setI {e o i : PySem.Expr} {p p' : Pos} {c d b : CE} (he : SE P k sc ns e c) (ho : SE P k sc ns o d) (hi : SE P k sc ns i b) : SS P k sc ns (.Assign [.Subscript o i p'] e p) (sSetI c d b) :=
  ⟨fun hm q => assignSub_S (swaps_off rfl) ((he.ok hm q).val fun _ _ q => (ho.ok hm q).val fun _ _ q => hi.ok hm q)⟩
theorem s_aug (ok : PxOk P) {e : PySem.Expr} {x : Str} {p p' : Pos} {c : CE} (i : Nat) (hx : storeB sc ns x i = true) (hn : nameOk sc ns x = true) (he : SE P k sc ns e c) : SS P k sc ns (.AugAssign (.Name x p') .Add e p) (sAug i c) :=
  ⟨fun {X env m W Q} hm q => by
    refine aug_S ok (slot_store hx).1 hn ?_
    unfold sAug at q
    cases e' : getk m i with
    | none => rw [e'] at q; exact q.elim
    | some v =>
      rw [e'] at q
      unfold nameV
      rw [getk_lookup (by rw [hm]; exact (slot_store hx).2) e']
      exact (he.ok hm q).val fun w W₁ ⟨a, b, e1, e2, q⟩ => ⟨a, b, e1, e2, by rw [(setk_in hm hx).1] at q; exact q⟩⟩
theorem s_if {c : PySem.Expr} {a b : List Stmt} {p : Pos} {ct : CT} {ca cb : CS} (hc : TE P k sc ns c ct) (ha : BS P k sc ns a ca) (hb : BS P k sc ns b cb) : SS P k sc ns (.If c a b p) (sIf ct ca cb) :=
  ⟨fun hm ⟨R, q, g⟩ => if_S ((hc.ok hm q).tst fun t W₁ r => by
    cases t with
    | true => exact ha.ok hm ((g true W₁ r).1 rfl)
    | false => exact hb.ok hm ((g false W₁ r).2 rfl))⟩
theorem wkS_ok {env : Env} {b : List Stmt} {c : CS} {X : Store → Prop} (h : BS P k sc ns b c) (m : Vars) (W : Store) (Q : AFlow → Vars → Store → Prop) (hm : m.map (·.1) = ns) (q : wkS c X m W Q) : SV P (k + 4) env sc ns m W (execs b env) Q X := by
  refine cps fun kk => ?_
  obtain ⟨R, q, g⟩ := q
  refine kk ?_
  clear kk
  exact fun A H s o r fr fi hf eo S L hm' => wpAny_mono (h.ok hm q A H s o r fr fi hf eo S L hm') (fun _ _ ⟨m', W', h', tk', a, e, S', L', i, hm'', fr', z⟩ => ⟨m', W', h', tk', a, e, S', L', i, hm'', fr', g _ _ _ z⟩) fun _ _ z => z
theorem s_for1 (ok : PxOk P) {x : Str} {it : PySem.Expr} {body : List Stmt} {tp p : Pos} {c : CE} {cb : CS} (i : Nat) (hx : storeB sc ns x i = true) (hset : notSet it = true) (hi : SE P k sc ns it c) (hb : BS P k sc ns body cb) : SS P k sc ns (.For (.Name x tp) it body [] p) (sFor1 i c cb) :=
  ⟨fun hm q => for_S ok (fun v m K hm (q : K (setk m i v)) => by rw [(setk_in hm hx).1] at q; exact q) hset (slot_store hx).1 (hi.ok hm q) (wkS_ok hb)⟩
theorem s_for2 (ok : PxOk P) {x y : Str} {it : PySem.Expr} {body : List Stmt} {px py tp p : Pos} {kk : Nat} {c : CE} {cb : CS} (i j : Nat) (hx : storeB sc ns x i = true) (hy : storeB sc ns y j = true) (hxy : (x != y) = true) (hset : notSet it = true) (hi : SE P k sc ns it c) (hb : BS P k sc ns body cb) : SS P k sc ns (.For (.Tuple [.Name x px, .Name y py] kk tp) it body [] p) (sFor2 i j c cb) :=
  ⟨fun hm q => for_S ok (fun v m K hm q => tgt2 hx hy hm q) hset (tgtOk2 hx hy hxy) (hi.ok hm q) (wkS_ok hb)⟩
theorem s_raise (ok : PxOk P) {a : PySem.Expr} {np cpos p : Pos} {c : CE} (hk : (nameOk sc ns (Str.ofString "ConfRefused") && !ns.contains (Str.ofString "ConfRefused") && plainE a) = true) (ha : SE P k sc ns a c) : SS P k sc ns (.Raise (some (.Call (.Name (Str.ofString "ConfRefused") np) [a] [] cpos)) none p) (sRaise c) :=
  ⟨fun hm q => by
    simp only [Bool.and_eq_true, Bool.not_eq_true'] at hk
    exact raise_S ok hk.1.1 hk.1.2 hk.2 (ha.ok hm q)⟩
theorem s_never {s : Stmt} : SS P k sc ns s sNever := ⟨fun _ q => q.elim⟩
theorem s_try (ok : PxOk P) {body : List Stmt} {np hp rp p : Pos} {re : PySem.Expr} {c : CS} (hk : (nameOk sc ns (Str.ofString "ConfRefused") && !ns.contains (Str.ofString "ConfRefused") && isNone re) = true) (hb : BS P k sc ns body c) :
    SS P k sc ns (.Try body [.ExceptHandler (some (.Name (Str.ofString "ConfRefused") np)) none [.Return (some re) rp] hp] [] [] p) (sTry c) :=
  ⟨fun hm q => by
    simp only [Bool.and_eq_true, Bool.not_eq_true'] at hk
    exact try_S ok hk.2 hk.1.1 hk.1.2 (hb.ok hm q)⟩
theorem b_nil : BS P k sc ns [] bNil := ⟨fun _ q => execs_nil_S q⟩
theorem b_cons {s : Stmt} {r : List Stmt} {c d : CS} (hs : SS P k sc ns s c) (hr : BS P k sc ns r d) : BS P k sc ns (s :: r) (bCons c d) :=
  ⟨fun hm ⟨R, q, g⟩ => execs_cons_S R (hs.ok hm q) fun m₁ W₁ hm₁ z => hr.ok hm₁ (g m₁ W₁ z)⟩
end

def zipm : List Str → List AV → Vars
  | x :: xs, v :: vs => (x, some v) :: zipm xs vs
  | _, _ => []
def start (xs ys : List Str) (args : List AV) : Vars := zipm xs args ++ ys.map fun y => (y, none)

theorem zipm_names : ∀ {xs : List Str} {vs : List AV}, xs.length = vs.length → (zipm xs vs).map (·.1) = xs
  | [], [], _ => rfl
  | x :: xs, v :: vs, h => by
    simp only [zipm, List.map_cons]
    rw [zipm_names (by simpa using h)]
  | [], _ :: _, h => by simp at h
  | _ :: _, [], h => by simp at h
theorem start_names {xs ys : List Str} {args : List AV} (h : xs.length = args.length) : (start xs ys args).map (·.1) = xs ++ ys := by
  simp only [start, List.map_append, zipm_names h, List.map_map]
  congr 1
  induction ys with
  | nil => rfl
  | cons y r ih => simp [ih]
theorem start_look {xs ys : List Str} {args : List AV} {x : Str} {av : AV} (h : look (start xs ys args) x = some av) : (zipm xs args).lookup x = some (some av) := by
  have none' : ∀ l : List Str, ((l.map fun y => (y, (none : Option AV))).lookup x).join = none := fun l => by
    induction l with
    | nil => rfl
    | cons y r ih =>
      simp only [List.map_cons, List.lookup_cons]
      cases x == y <;> simp [ih]
  unfold start look at h
  generalize zipm xs args = z at *
  induction z with
  | nil => simp only [List.nil_append] at h; rw [none' ys] at h; cases h
  | cons p r ih =>
    obtain ⟨y, o⟩ := p
    simp only [List.cons_append, List.lookup_cons] at h ⊢
    cases hx : x == y with
    | true => rw [hx] at h; simpa using h
    | false => rw [hx] at h; exact ih h

theorem bindL_not {kindOf : Str → Option NameKind} {x : Str} : ∀ {binds : List (Str × Value)} {m : Str → Option Value}, x ∉ binds.map (·.1) → bindL kindOf binds m x = m x
  | [], m, _ => rfl
  | (n, v) :: r, m, h => by
    simp only [List.map_cons, List.mem_cons, not_or] at h
    unfold bindL
    rw [bindL_not h.2]
    split
    · simp [h.1]
    · rfl
theorem bindC_not {kindOf : Str → Option NameKind} {x : Str} : ∀ {binds : List (Str × Value)} {m : Str → Option Value}, x ∉ binds.map (·.1) → PySem.bindC kindOf binds m x = m x
  | [], m, _ => rfl
  | (n, v) :: r, m, h => by
    simp only [List.map_cons, List.mem_cons, not_or] at h
    unfold PySem.bindC
    rw [bindC_not h.2]
    split
    · rfl
    · simp [h.1]
theorem zip_names {xs : List Str} {vs : List Value} {x : Str} (h : x ∈ (xs.zip vs).map (·.1)) : x ∈ xs := by
  refine cps fun kk => ?_
  obtain ⟨⟨a, b⟩, hm, e⟩ := List.mem_map.mp h
  refine kk ?_
  clear kk
  simp only at e; subst e
  exact (List.of_mem_zip hm).1
theorem bindL_get {kindOf : Str → Option NameKind} {h : Heap} {x : Str} {av : AV} (hk : kindOf x = some .local) : ∀ {xs : List Str} {vs : List Value} {ds : List AV} {m : Str → Option Value}, VRs h vs ds → distinct xs = true →
    (zipm xs ds).lookup x = some (some av) → ∃ v, bindL kindOf (xs.zip vs) m x = some v ∧ VR h v av
  | [], _, _, _, _, _, e => by simp [zipm] at e
  | y :: xs, _, _, _, .nil, _, e => by simp [zipm] at e
  | y :: xs, _, _, m, .cons (v := v) (d := d) a r, hd, e => by
    obtain ⟨h1, h2⟩ := distinct_cons hd
    simp only [zipm, List.lookup_cons] at e
    simp only [List.zip_cons_cons, bindL]
    by_cases hx : x = y
    · subst hx
      simp at e; subst e
      rw [bindL_not (fun q => h1 (zip_names q)), if_pos hk]
      exact ⟨v, by simp, a⟩
    · rw [beq_eq_false_iff_ne.mpr hx] at e
      exact bindL_get hk r h2 e
theorem bindC_get {kindOf : Str → Option NameKind} {h : Heap} {x : Str} {av : AV} (hk : kindOf x ≠ some .local) : ∀ {xs : List Str} {vs : List Value} {ds : List AV} {m : Str → Option Value}, VRs h vs ds → distinct xs = true →
    (zipm xs ds).lookup x = some (some av) → ∃ v, PySem.bindC kindOf (xs.zip vs) m x = some v ∧ VR h v av
  | [], _, _, _, _, _, e => by simp [zipm] at e
  | y :: xs, _, _, _, .nil, _, e => by simp [zipm] at e
  | y :: xs, _, _, m, .cons (v := v) (d := d) a r, hd, e => by
    obtain ⟨h1, h2⟩ := distinct_cons hd
    simp only [zipm, List.lookup_cons] at e
    simp only [List.zip_cons_cons, PySem.bindC]
    by_cases hx : x = y
    · subst hx
      simp at e; subst e
      rw [bindC_not (fun q => h1 (zip_names q)), if_neg hk]
      exact ⟨v, by simp, a⟩
    · rw [beq_eq_false_iff_ne.mpr hx] at e
      exact bindC_get hk r h2 e

theorem cellsFrom_names : ∀ (names : List (Str × NameKind)) (n k : Nat) (a b : List (Str × Addr)), a.map (·.1) = b.map (·.1) → (cellsFrom n names a).map (·.1) = (cellsFrom k names b).map (·.1)
  | [], _, _, _, _, h => h
  | (x, j) :: r, n, k, a, b, h => by
    unfold cellsFrom
    split
    · exact cellsFrom_names r _ _ _ _ (by simp [h])
    · exact cellsFrom_names r _ _ _ _ h
theorem lookup_distinct {x : Str} {c : Addr} : ∀ {l : List (Str × Addr)}, distinct (l.map (·.1)) = true → (x, c) ∈ l → l.lookup x = some c
  | (y, d) :: r, h, hm => by
    obtain ⟨h1, h2⟩ := distinct_cons (x := y) (r := r.map (·.1)) (by simpa using h)
    rw [List.lookup_cons]
    rcases List.mem_cons.mp hm with q | q
    · cases q; simp
    · by_cases e : x = y
      · subst e; exact (h1 (List.mem_map.mpr ⟨_, q, rfl⟩)).elim
      · rw [beq_eq_false_iff_ne.mpr e]; exact lookup_distinct h2 q

/-- what is looked at in the text of a function -/
structure FunTxt (K : Frag) (fd : FuncData) (body : List Stmt) (xs ys : List Str) : Prop where
  body : fd.body = .stmts body
  clo : fd.closure = []
  glb : fd.globals = mainGlobals
  blt : fd.builtins = builtinsNs
  code : codeIn K fd.code fd.qualname = true
  kind : fd.scope.kind = .function
  co : fd.scope.isCoroutine = false
  gen : fd.scope.isGenerator = false
  nofree : ∀ p ∈ fd.scope.names, p.2 ≠ .free
  params : ∀ x ∈ xs, fd.scope.names.lookup x = some .local ∨ fd.scope.names.lookup x = some .cell
  dist : distinct xs = true
  cells : distinct ((cellsFrom 0 fd.scope.names []).map (·.1)) = true
  binds : ∀ vs : List Value, vs.length = xs.length → bindArgs fd ⟨vs, []⟩ = pure (xs.zip vs)

def retQ (Q : AV → Store → Prop) : AFlow → Vars → Store → Prop := fun fl _ W => match fl with
  | .ret v => Q v W
  | .next => Q .none W
  | _ => False

/-- a call, as a code -/
def CodeOk (P : Px) (n : Nat) (f : Addr) (args : List AV) (W : Store) (Q : AV → Store → Prop) (X : Store → Prop) : Prop :=
  ∀ (A : Around) (H : Hid) (s : Shared) (Fs : List Env) (vs : List Value), Rdy A n → A.frames = some Fs → FrH Fs H → St P H W s.heap → VRs s.heap vs args →
    codeAny (model P.prog P.w) A (.call (.ref f) ⟨vs, []⟩) (fun r s' => match r with
      | .ok (.ret v) => CVp P H s Q v s'
      | .ok _ => False
      | .error e => CXp P H s X e s') s
theorem CodeOk.call {P : Px} {n k : Nat} {f : Addr} {args : List AV} {W : Store} {Q : AV → Store → Prop} {X : Store → Prop} (h : CodeOk P n f args W Q X) (hk : n ≤ k) : CallOk P k f args W Q X :=
  ⟨fun A H s Fs vs r fr fh S xv => wpAny_call (codeAny_mono (h A H s Fs vs (r.less hk) fr fh S xv) fun r s' z => by
    cases r with
    | ok f => cases f <;> exact z
    | error e => exact z)⟩

section
variable {P : Px}
theorem fun_ok (ok : PxOk P) {f : Addr} {fd : FuncData} {body : List Stmt} {xs ys : List Str} {oc : Value} {od : Option Addr} {osl : Array (Option Value)} {k : Nat} {c : CS} {args : List AV} {W : Store} {Q : AV → Store → Prop} {X : Store → Prop}
    (ho : P.K.lookup f = some ⟨oc, od, .func fd, osl⟩) (T : FunTxt P.K fd body xs ys) (hl : xs.length = args.length) (hb : BS P k fd.scope.names (xs ++ ys) body c)
    (hq : c X (start xs ys args) W (retQ Q)) : CodeOk P (k + 5) f args W Q X := by
  intro A H s Fs vs r fr fh S xv
  have hvl := xv.length
  have hX := ok.inK.keeps S.keep
  have hroom : A.depth < recursionLimit := by have := r.depth; omega
  have hkinds : ∀ x ∈ xs.zip vs, fd.scope.names.lookup x.1 = some .local ∨ (fd.scope.names.lookup x.1 = some .cell ∧ ((cellsFrom (s.heap.objs.size + 1) fd.scope.names []).lookup x.1).isSome = true) := fun x hx => by
    rcases T.params x.1 (List.of_mem_zip hx).1 with q | q
    · exact .inl q
    · exact .inr ⟨q, cellsFrom_some _ _ _ (.inl q)⟩
  refine codeAny_call_cells hroom (hX _ _ ho) rfl (ok.nolimit.keeps S.keep) (codeRec_of hX T.code) T.body (T.binds vs (by omega)) T.clo hkinds (fun s₁ x => ?_) T.co T.gen T.kind
  generalize henv : callEnvC fd s.heap.objs.size f = env at x
  have eo : EnvOk env fd.scope.names := by
    subst henv
    exact ⟨T.kind, T.glb, T.blt, fun _ h => h, fun _ h => h, fun _ h => .inr h, fun _ h => h⟩
  have eL : env.locals = s.heap.objs.size := by subst henv; rfl
  have eF : env.frame = some env.locals := by subst henv; rfl
  have eK : env.kindOf = fun x => fd.scope.names.lookup x := by subst henv; rfl
  have eC : env.cells = cellsFrom (s.heap.objs.size + 1) fd.scope.names [] := by subst henv; rfl
  refine cps fun kk => ?_
  obtain ⟨⟨⟨h₁, tk₁, rfl⟩, hn, hkp, hfr⟩, hcell, hap, hab⟩ := x
  refine kk ?_
  clear kk
  have hkp : ∀ b o, s.heap.get? b = some o → h₁.get? b = some o := hkp
  have i₁ : Imm s.heap h₁ := Imm.of_keeps hkp
  have hsz : s.heap.objs.size < h₁.objs.size := by rw [← eL]; exact hn.lt
  have S₁ : St P H W h₁ := S.more (Nat.le_of_lt hsz) hkp
  have ownge : ∀ a, Own env a → s.heap.objs.size ≤ a := fun a ha => by
    rcases ha with rfl | ⟨x, hm⟩
    · exact Nat.le_of_eq eL.symm
    · have := hab x a hm
      rw [eL] at this
      exact Nat.le_of_lt this
  have L₁ : Loc P env fd.scope.names H W h₁ (start xs ys args) := by
    refine ⟨fun a ha => ⟨Nat.le_trans S.size (ownge a ha), S.noH (fresh_ge (ownge a ha)), S.noW (fresh_ge (ownge a ha))⟩, ⟨_, hn, fun x av e q => ?_⟩, fun x q => ?_, fun x c hm => ?_, hap⟩
    · exact bindL_get (by rw [eK]; exact q) (xv.imm i₁) T.dist (start_look e)
    · have q : fd.scope.names.lookup x = some .cell := q.resolve_right fun z => T.nofree _ (lookup_mem z) rfl
      have := cellsFrom_some (x := x) fd.scope.names (s.heap.objs.size + 1) [] (.inl q)
      rw [← eC] at this
      obtain ⟨c, hc⟩ := Option.isSome_iff_exists.mp this
      refine ⟨c, _, hc, hcell x c hc, fun av e => ?_⟩
      exact bindC_get (by rw [eK]; simp only [q]; decide) (xv.imm i₁) T.dist (start_look e)
    · have hd : distinct (env.cells.map (·.1)) = true := by
        rw [eC, cellsFrom_names fd.scope.names (s.heap.objs.size + 1) 0 [] [] rfl]; exact T.cells
      exact ⟨_, hcell x c (lookup_distinct hd hm)⟩
  have r' : Rdy (A.deeper env) (k + 4) := ⟨r.hand, by show A.depth + 1 + (k + 4) < _; have := r.depth; omega, by show A.units + 3 + 24 * (k + 4) < _; have := r.units; omega⟩
  have fr' : (A.deeper env).frames = some (env :: Fs) := by
    show A.frames.map _ = _
    rw [fr]; rfl
  have fi : FrIn (env :: Fs) env H := fun e he => by
    rcases List.mem_cons.mp he with rfl | he
    · exact ⟨by rw [eo.kind]; decide, _, eF, .inl rfl⟩
    · refine cps fun kk => ?_
      obtain ⟨hk, F, o, hF, e1, r⟩ := fh e he
      refine kk ?_
      clear kk
      exact ⟨hk, F, hF, .inr ⟨o, e1, r⟩⟩
  subst henv
  have hm := start_names (ys := ys) hl
  refine wpAny_mono (hb.ok hm hq (A.deeper _) H { s with heap := h₁, toks := tk₁ } Fs r' fr' fi ⟨_, eF⟩ eo S₁ L₁ hm) (fun fl s' z => ?_) (fun e s' z => ?_)
  · refine cps fun kk => ?_
    obtain ⟨m', W', h', tk', a, rfl, S', L', i', hm', fr₁, q⟩ := z
    refine kk ?_
    clear kk
    cases fr₁ with
    | next => exact ⟨W', h', tk', rfl, S', i₁.trans i', _, .none, q⟩
    | brk => exact q.elim
    | cont => exact q.elim
    | ret x => exact ⟨W', h', tk', rfl, S', i₁.trans i', _, x, q⟩
  · refine cps fun kk => ?_
    obtain ⟨x, m', W', h', tk', rfl, rfl, S', L', i', E', hm', q⟩ := z
    refine kk ?_
    clear kk
    unfold leaving
    refine wpAny_bind (note_ok (s := { s with heap := h', toks := tk' }) fr' eF fi S' L' E' fun h₂ S₂ L₂ i₂ E₂ N₂ => ?_)
    refine flight_ok (s := { s with heap := h₂, toks := tk' }) S₂ L₂ E₂ fun h₃ S₃ L₃ i₃ E₃ _ => ?_
    refine ⟨x, W', h₃, tk', rfl, rfl, S₃, ((i₁.trans i').trans i₂).trans i₃, ?_, q⟩
    refine cps fun kk => ?_
    obtain ⟨⟨f1, f2, f3, _⟩, oe, vs', e1, e2, e3, e4, e5⟩ := E₃
    refine kk ?_
    clear kk
    refine ⟨⟨f1, f2, f3, id⟩, oe, vs', e1, e2, e3, e4, e5.imp id ?_⟩
    rintro ⟨T', oT, ts, t1, ⟨t2, t3, t4, _⟩, t5⟩
    exact ⟨T', oT, ts, t1, ⟨t2, t3, t4, id⟩, t5⟩
end
section
variable {P : Px}
theorem cls_ok (ok : PxOk P) {C fI : Addr} {n : Nat} {args : List AV} {W : Store} {Q : AV → Store → Prop} {X : Store → Prop} (hm : makesIn P.K C = true) (hi : findIn P.K (.ref C) "__init__" = some (some (.ref fI))) (hf : isFn P.K (.ref fI) = true)
    (h : ∀ x d, W x = none → W d = none → x ≠ d → CodeOk P n fI (.ref x :: args) (upd (upd W d (.attrs [])) x (.inst C d)) (fun v W' => v = .none ∧ Q (.ref x) W') X) : CodeOk P (n + 1) C args W Q X := by
  intro A H s Fs vs r fr fh S xv
  have hX := ok.inK.keeps S.keep
  refine cps fun kk => ?_
  obtain ⟨hh, g, d, t, os⟩ := s
  refine kk ?_
  clear kk
  have S : St P H W hh := S
  have xv : VRs hh vs args := xv
  have old : ∀ b o, hh.get? b = some o → ((hh.push emptyDict).push (instObj C hh.objs.size)).get? b = some o := fun b o e => Heap.get?_push_of_some _ (Heap.get?_push_of_some _ e)
  have hsz : (hh.push emptyDict).objs.size = hh.objs.size + 1 := by simp
  have i₁ := Imm.of_keeps old
  have gd : ((hh.push emptyDict).push (instObj C hh.objs.size)).get? hh.objs.size = some (dictOf [] 0) := Heap.get?_push_of_some _ (Heap.get?_push_size _ rfl)
  have gx : ((hh.push emptyDict).push (instObj C hh.objs.size)).get? (hh.objs.size + 1) = some (instObj C hh.objs.size) := by
    have := Heap.get?_push_size (hh.push emptyDict) (o := instObj C hh.objs.size) rfl
    rw [hsz] at this; exact this
  have fd := fresh_ge (h := hh) (Nat.le_refl _)
  have fx := fresh_ge (h := hh) (a := hh.objs.size + 1) (Nat.le_succ _)
  have S₁ : St P H (upd W hh.objs.size (.attrs [])) ((hh.push emptyDict).push (instObj C hh.objs.size)) :=
    (S.more (by simp only [Heap.size_push]; omega) old).add (S.noH fd) (fresh_ge S.size) ⟨[], 0, gd, .nil, by decide⟩
  have S₂ : St P H (upd (upd W hh.objs.size (.attrs [])) (hh.objs.size + 1) (.inst C hh.objs.size)) ((hh.push emptyDict).push (instObj C hh.objs.size)) :=
    S₁.add (S.noH fx) (fresh_ge (Nat.le_succ_of_le S.size)) gx
  refine make_core (makes_of hX hm) (looks_findIn hX hi) (fun self => bind_fn hX self (beq_iff_eq.mp hf)) (.inl rfl) ?_
  have hw : (Code.builtin "type.__call__" ⟨.ref C :: vs, []⟩).weight = 1 := by rfl
  have hu : (Code.builtin "type.__call__" ⟨.ref C :: vs, []⟩).cUnits = 1 := by rfl
  have r' : Rdy (A.under (.builtin "type.__call__" ⟨.ref C :: vs, []⟩)) n := ⟨r.hand, by
      show A.depth + (Code.builtin "type.__call__" ⟨.ref C :: vs, []⟩).weight + n < _
      rw [hw]; have := r.depth; omega, by
      show A.units + (Code.builtin "type.__call__" ⟨.ref C :: vs, []⟩).cUnits + 24 * n < _
      rw [hu]; have := r.units; omega⟩
  refine codeAny_mono (h (hh.objs.size + 1) hh.objs.size (S.noW fx) (S.noW fd) (Nat.succ_ne_self _) _ H ⟨_, g, d, t, os⟩ Fs (.ref (hh.objs.size + 1) :: vs) r' fr fh S₂ (.cons (.ref _) (xv.imm i₁))) fun rr s' z => ?_
  cases rr with
  | ok f =>
    cases f <;> first | exact z.elim | skip
    refine cps fun kk => ?_
    obtain ⟨W', h', tk', rfl, S', i', dd, xd, rfl, q⟩ := z
    refine kk ?_
    clear kk
    cases xd
    exact ⟨rfl, W', h', tk', rfl, S', i₁.trans i', _, .ref _, q⟩
  | error e =>
    refine cps fun kk => ?_
    obtain ⟨x, W', h', tk', rfl, rfl, S', i', E', q⟩ := z
    refine kk ?_
    clear kk
    exact ⟨x, W', h', tk', rfl, rfl, S', i₁.trans i', E', q⟩
end

theorem zip_lookup : ∀ {xs : List Str} {vs : List Value}, distinct xs = true → vs.length = xs.length → ∀ (pre : List (Str × Value)), (∀ x ∈ xs, x ∉ pre.map (·.1)) → (xs.filterMap fun n => ((pre ++ xs.zip vs).lookup n).map (n, ·)) = xs.zip vs
  | [], _, _, _, _, _ => by simp
  | x :: xs, v :: vs, hd, hl, pre, hp => by
    obtain ⟨h1, h2⟩ := distinct_cons hd
    have hx : (pre ++ (x :: xs).zip (v :: vs)).lookup x = some v := by
      rw [List.zip_cons_cons]
      have : x ∉ pre.map (·.1) := hp x (.head _)
      clear hp
      induction pre with
      | nil => simp
      | cons q r ih =>
        obtain ⟨a, b⟩ := q
        simp only [List.map_cons, List.mem_cons, not_or] at this
        rw [List.cons_append, List.lookup_cons, beq_eq_false_iff_ne.mpr this.1]
        exact ih this.2
    rw [List.filterMap_cons, hx]
    simp only [Option.map_some, List.zip_cons_cons, List.cons.injEq, true_and]
    have := zip_lookup h2 (by simpa using hl) (pre ++ [(x, v)]) fun y hy => by
      simp only [List.map_append, List.map_cons, List.map_nil, List.mem_append, List.mem_singleton, not_or]
      exact ⟨hp y (.tail _ hy), fun e => h1 (e ▸ hy)⟩
    simpa [List.append_assoc] using this
  | x :: xs, [], _, hl, _, _ => by simp at hl

def paramsB (p : Arguments) (xs : List Str) : Bool := p.posonlyargs.isEmpty && p.vararg.isNone && p.kwonlyargs.isEmpty && p.kwarg.isNone && p.args.map (·.arg) == xs
theorem zip_isNone {xs : List Str} {vs : List Value} (hx : distinct xs = true) (hl : vs.length = xs.length) : (xs.filter fun n => ((xs.zip vs).lookup n).isNone) = [] := by
  have hz := zip_lookup hx hl [] (fun _ _ h => nomatch h)
  simp only [List.nil_append] at hz
  have key : ∀ l : List Str, (l.filterMap fun n => ((xs.zip vs).lookup n).map (n, ·)).length = l.length → ∀ x ∈ l, ((xs.zip vs).lookup x).isNone = false := fun l => by
    induction l with
    | nil => intro _ _ h; cases h
    | cons y r ih =>
      intro hl x hx
      rw [List.filterMap_cons] at hl
      cases q : (xs.zip vs).lookup y with
      | none =>
        rw [q] at hl
        exact absurd (List.length_filterMap_le (fun n => ((xs.zip vs).lookup n).map (n, ·)) r) (Nat.not_le.mpr (Nat.lt_of_lt_of_eq (Nat.lt_succ_self r.length) hl.symm))
      | some w =>
        rw [q] at hl
        rcases List.mem_cons.mp hx with e | hx
        · subst e; rw [q]; rfl
        · exact ih (Nat.succ.inj hl) x hx
  rw [List.filter_eq_nil_iff]
  intro x hm hn
  rw [key xs (by rw [hz, List.length_zip, hl, Nat.min_self]) x hm] at hn; cases hn
theorem bind_shape (fd : FuncData) (xs : List Str) (vs : List Value) (h1 : fd.params.posonlyargs = []) (h2 : fd.params.vararg = none) (h3 : fd.params.kwonlyargs = []) (h4 : fd.params.kwarg = none) (h5 : fd.params.args.map (·.arg) = xs) (hd : fd.defaults = .none) :
    ∃ (A B : Sem (List (Str × Value))) (f : (Str × Value) → List (Str × Value) → Sem (ForInStep (List (Str × Value)))), bindArgs fd ⟨vs, []⟩ =
      if (decide (vs.length > xs.length) && true) = true then A else if (!((xs.take (xs.length - (([] : List Value).drop (0 - xs.length)).length)).filter fun n => ((xs.zip vs).lookup n).isNone).isEmpty) = true then B
        else forIn ((xs.drop (xs.length - (([] : List Value).drop (0 - xs.length)).length)).zip (([] : List Value).drop (0 - xs.length))) (xs.zip vs) f >>= fun sl => pure (xs.append [] |>.filterMap fun n => (sl.lookup n).map (n, ·)) := by
  obtain ⟨name, qualname, ⟨po, as, va, ko, kd, kwa, de⟩, body, scope, globals, closure, defaults, kwdefaults, doc, pyModule, annotations, code, closureTuple, builtins⟩ := fd
  cases h1; cases h2; cases h3; cases h4; cases h5; cases hd
  exact ⟨_, _, _, rfl⟩
theorem bind_plain {fd : FuncData} {xs : List Str} (hp : paramsB fd.params xs = true) (hd : fd.defaults = .none) (hx : distinct xs = true) (vs : List Value) (hl : vs.length = xs.length) : bindArgs fd ⟨vs, []⟩ = pure (xs.zip vs) := by
  simp only [paramsB, Bool.and_eq_true, List.isEmpty_iff, Option.isNone_iff_eq_none, beq_iff_eq] at hp
  obtain ⟨⟨⟨⟨h1, h2⟩, h3⟩, h4⟩, h5⟩ := hp
  obtain ⟨A, B, f, e⟩ := bind_shape fd xs vs h1 h2 h3 h4 h5 hd
  rw [e, List.drop_nil, List.length_nil, Nat.sub_zero, List.take_length, zip_isNone hx hl, List.zip_nil_right, hl, if_neg (by simp), if_neg (by simp), List.forIn_nil, pure_bind]
  have hz := zip_lookup hx hl [] (fun _ _ h => nomatch h)
  rw [show xs.append [] = xs from List.append_nil xs]
  exact congrArg pure hz

def fdOf (K : Frag) (a : Addr) : FuncData := match K.lookup a with
  | some ⟨_, _, .func fd, _⟩ => fd
  | _ => default
def bodyOf (K : Frag) (a : Addr) : List Stmt := match (fdOf K a).body with
  | .stmts b => b
  | _ => []
def isStmts : FuncBody → Bool
  | .stmts _ => true
  | _ => false
def isFun : ScopeKind → Bool
  | .function => true
  | _ => false
def isNoneV : Value → Bool
  | .none => true
  | _ => false
/-- the look at a function of the text -/
def funB (K : Frag) (a : Addr) (xs : List Str) : Bool :=
  fnIn K a && isStmts (fdOf K a).body && (fdOf K a).closure.isEmpty && (fdOf K a).globals == mainGlobals && (fdOf K a).builtins == builtinsNs && codeIn K (fdOf K a).code (fdOf K a).qualname &&
  isFun (fdOf K a).scope.kind && !(fdOf K a).scope.isCoroutine && !(fdOf K a).scope.isGenerator && (fdOf K a).scope.names.all (fun p => p.2 != .free) &&
  xs.all (fun x => (fdOf K a).scope.names.lookup x == some .local || (fdOf K a).scope.names.lookup x == some .cell) && distinct xs && distinct ((cellsFrom 0 (fdOf K a).scope.names []).map (·.1)) &&
  paramsB (fdOf K a).params xs && isNoneV (fdOf K a).defaults

theorem fn_at {K : Frag} {a : Addr} (h : fnIn K a = true) : ∃ oc od osl, K.lookup a = some ⟨oc, od, .func (fdOf K a), osl⟩ := by
  unfold fnIn at h
  split at h
  · rename_i oc od fd osl e
    refine ⟨oc, od, osl, ?_⟩
    have : fdOf K a = fd := by unfold fdOf; rw [e]
    rw [this, e]
  · cases h

theorem fun_txt {K : Frag} {a : Addr} {xs ys : List Str} (h : funB K a xs = true) : (∃ oc od osl, K.lookup a = some ⟨oc, od, .func (fdOf K a), osl⟩) ∧ FunTxt K (fdOf K a) (bodyOf K a) xs ys := by
  simp only [funB, Bool.and_eq_true, Bool.not_eq_true', beq_iff_eq, List.isEmpty_iff] at h
  refine cps fun kk => ?_
  obtain ⟨⟨⟨⟨⟨⟨⟨⟨⟨⟨⟨⟨⟨⟨h1, h2⟩, h3⟩, h4⟩, h5⟩, h6⟩, h7⟩, h8⟩, h9⟩, h10⟩, h11⟩, h12⟩, h13⟩, h14⟩, h15⟩ := h
  refine kk ?_
  clear kk
  have hx : ∀ x ∈ xs, (fdOf K a).scope.names.lookup x = some .local ∨ (fdOf K a).scope.names.lookup x = some .cell := fun x hx => by
    have := List.all_eq_true.mp h11 x hx
    simpa [Bool.or_eq_true, beq_iff_eq] using this
  have hd : (fdOf K a).defaults = .none := by
    revert h15
    cases (fdOf K a).defaults <;> first | exact fun _ => rfl | exact fun h => (by cases h)
  refine ⟨fn_at h1, ?_, h3, h4, h5, h6, ?_, h8, h9, fun p hp => ?_, hx, h12, h13, fun vs hl => bind_plain h14 hd h12 vs hl⟩
  · unfold bodyOf
    revert h2
    cases (fdOf K a).body <;> first | exact fun _ => rfl | exact fun h => (by cases h)
  · revert h7
    cases (fdOf K a).scope.kind <;> first | exact fun _ => rfl | exact fun h => (by cases h)
  · have := List.all_eq_true.mp h10 p hp
    simpa using this

section
variable {P : Px}
theorem fun_call (ok : PxOk P) {a : Addr} {k : Nat} {xs ys : List Str} {sc : Names} {body : List Stmt} {c : CS} {args : List AV} {W : Store} {Q : AV → Store → Prop} {X : Store → Prop} (hB : funB P.K a xs = true) (ht : (bodyOf P.K a, (fdOf P.K a).scope.names) = (body, sc)) (hb : BS P k sc (xs ++ ys) body c) (hl : xs.length = args.length)
    (hq : c X (start xs ys args) W (retQ Q)) : CodeOk P (k + 5) a args W Q X := by
  refine cps fun kk => ?_
  obtain ⟨⟨oc, od, osl, ho⟩, T⟩ := fun_txt (ys := ys) hB
  refine kk ?_
  clear kk
  cases ht
  exact fun_ok ok ho T hl hb hq
end

/-! ### classes -/
def clsB (K : Frag) (C : Addr) : Bool :=
  findIn K (.ref C) "__getattribute__" == some (some (.builtin "object.__getattribute__")) && findIn K (.ref C) "__getattr__" == some none && findIn K (.ref C) "__setattr__" == some (some (.builtin "object.__setattr__")) &&
  plainOver K C && hasDictIn K C && makesIn K C
theorem cls_of {K : Frag} {C : Addr} (h : clsB K C = true) : ClsOk K C := by
  simp only [clsB, Bool.and_eq_true, beq_iff_eq] at h
  refine cps fun kk => ?_
  obtain ⟨⟨⟨⟨⟨h1, h2⟩, h3⟩, h4⟩, h5⟩, h6⟩ := h
  refine kk ?_
  clear kk
  exact ⟨h1, h2, h3, h4, h5, h6⟩
def fieldB (K : Frag) (C : Addr) (x : Str) : Bool := findIn K (.ref C) x == some none && takerIn K C x == some none && !copiedNames.contains x
theorem field_of {K : Frag} {C : Addr} {x : Str} (h : fieldB K C x = true) : FieldOk K C x := by
  simp only [fieldB, Bool.and_eq_true, beq_iff_eq, Bool.not_eq_true'] at h
  exact ⟨h.1.1, h.1.2, h.2⟩
def methB (K : Frag) (C : Addr) (x : Str) (f : Addr) : Bool := findIn K (.ref C) x == some (some (.ref f)) && fnIn K f && isFn K (.ref f)
theorem meth_of {K : Frag} {C : Addr} {x : Str} {f : Addr} (h : methB K C x f = true) : MethOk K C x f := by
  simp only [methB, Bool.and_eq_true, beq_iff_eq] at h
  exact ⟨h.1.1, h.1.2, h.2⟩

/-! ### what the text's own top names hold -/
def relB (K : Frag) : Nat → Value → AV → Bool
  | 0, _, _ => false
  | n + 1, v, d => match d with
    | .int i => (match v with | .int j _ => i == j | _ => false)
    | .ref a => (match v with | .ref b => a == b | _ => false)
    | .ty t => (match v with | .type u => t == u | _ => false)
    | .blt t => (match v with | .builtin u => t == u && (withoutEnding? u "#data").isNone | _ => false)
    | .tup l => (match v with
      | .ref a => (match K.lookup a with
        | some ⟨.type "tuple", _, .seq xs _, _⟩ => relL (relB K n) xs.toList l
        | _ => false)
      | _ => false)
    | _ => false
where relL (f : Value → AV → Bool) : List Value → List AV → Bool
  | [], [] => true
  | v :: vs, d :: ds => f v d && relL f vs ds
  | _, _ => false
theorem relB_sound {K : Frag} {h : Heap} (X : K.In h) : ∀ (n : Nat) (v : Value) (d : AV), relB K n v d = true → VR h v d
  | 0, v, d, e => by simp [relB] at e
  | n + 1, v, d, e => by
    unfold relB at e
    split at e
    · split at e
      · rw [beq_iff_eq.mp e]; exact .int _ _
      · cases e
    · split at e
      · rw [beq_iff_eq.mp e]; exact .ref _
      · cases e
    · split at e
      · rw [beq_iff_eq.mp e]; exact .ty _
      · cases e
    · split at e
      · rw [Bool.and_eq_true] at e
        rw [beq_iff_eq.mp e.1]; exact .blt _ e.2
      · cases e
    · split at e
      · split at e
        · rename_i a _ od xs k sl ho
          have key : ∀ (vs : List Value) (ds : List AV), relB.relL (relB K n) vs ds = true → VRs h vs ds := fun vs => by
            induction vs with
            | nil => intro ds q; cases ds <;> first | exact .nil | (simp [relB.relL] at q)
            | cons v vs ih =>
              intro ds q
              cases ds with
              | nil => simp [relB.relL] at q
              | cons d ds =>
                simp only [relB.relL, Bool.and_eq_true] at q
                exact .cons (relB_sound X n v d q.1) (ih ds q.2)
          exact .tup (vs := xs.toList) ⟨_, X _ _ ho, rfl, k, by simp⟩ (key _ _ e)
        · cases e
      · cases e
    · cases e

def globB (K : Frag) (l : List (Str × AV)) : Bool := l.all fun p => match nsIn K mainGlobals p.1 with
  | some (some v) => relB K 4 v p.2
  | some none => p.1 != Str.ofString "__name__" && (match bootBuiltins p.1 with | some v => relB K 4 v p.2 | none => false)
  | none => false
theorem glob_sound {K : Frag} {h : Heap} (X : K.In h) {mg mb : Str → Option Value} (g : h.Ns mainGlobals mg) (hb : ∀ x : Str, x ≠ "__name__" → mb x = bootBuiltins x) {l : List (Str × AV)} (e : globB K l = true) :
    ∀ x av, l.lookup x = some av → ∃ v, (mg x = some v ∨ (mg x = none ∧ mb x = some v)) ∧ VR h v av := fun x av q => by
  have := List.all_eq_true.mp e (x, av) (lookup_mem q)
  simp only at this
  split at this
  · rename_i v hv
    exact ⟨v, .inl (mg_of X g hv), relB_sound X _ _ _ this⟩
  · rename_i hn
    rw [Bool.and_eq_true, bne_iff_ne] at this
    split at this
    · rename_i v hv
      exact ⟨v, .inr ⟨ns_none_of X g hn, (hb x this.1).trans hv⟩, relB_sound X _ _ _ this.2⟩
    · cases this.2
  · cases this

/-! ### the top's run at once, over a tree -/
def topRunT (tb : String → Option Builtin) (p : Program) (w : World) (n₀ : Nat) (ann : Option Value) : Nat → SharedT → Thread → Option SharedT
  | 0, _, _ => none
  | n + 1, s, t => match through t with
    | true => some s
    | false => match stepOk n₀ ann t with
      | false => none
      | true => match stepT (denote tb) p w s t with
        | some (s', t') => topRunT tb p w n₀ ann n s' t'
        | none => none
theorem topRun_of {tb : String → Option Builtin} {p : Program} {w : World} {n₀ : Nat} {ann : Option Value} : ∀ {n : Nat} {s s' : SharedT} {t : Thread}, topRunT tb p w n₀ ann n s t = some s' → topRun tb p w n₀ ann n s.abs t = some s'.abs
  | 0, _, _, _, h => by cases h
  | n + 1, s, s', t, h => by
    unfold topRunT at h
    unfold topRun
    cases ht : through t with
    | true => rw [ht] at h; cases h; rfl
    | false =>
      rw [ht] at h
      cases hk : stepOk n₀ ann t with
      | false => rw [hk] at h; cases h
      | true =>
        rw [hk] at h
        cases hs : stepT (denote tb) p w s t with
        | none => rw [hs] at h; cases h
        | some r => obtain ⟨s₂, t₂⟩ := r; rw [hs] at h; rw [stepT_spec hs]; exact topRun_of h
/-- the same by the library's quick twins -/
noncomputable def topRunF (p : Program) (w : World) (n₀ : Nat) (ann : Option Value) : Nat → SharedT → Thread → Option SharedT
  | 0, _, _ => none
  | n + 1, s, t => match through t with
    | true => some s
    | false => match PySem.W.Fast.tw6613529449190102663 n₀ ann t with
      | false => none
      | true => match PySem.W.Fast.tw10156331382660048174 (PySem.W.Fast.tw11892475500146522536 PySem.W.Fast.tw14364793385576792824) p w s t with
        | some (s', t') => topRunF p w n₀ ann n s' t'
        | none => none
theorem topRunF_eq {p : Program} {w : World} {n₀ : Nat} {ann : Option Value} : ∀ (n : Nat) (s : SharedT) (t : Thread), topRunT treeTable p w n₀ ann n s t = topRunF p w n₀ ann n s t
  | 0, _, _ => rfl
  | n + 1, s, t => by
    unfold topRunT topRunF
    rw [PySem.W.Fast.te6613529449190102663, PySem.W.Fast.te10156331382660048174, PySem.W.Fast.te11892475500146522536, PySem.W.Fast.te14364793385576792824]
    cases through t with
    | true => rfl
    | false =>
      cases PySem.W.Fast.tw6613529449190102663 n₀ ann t with
      | false => rfl
      | true =>
        dsimp only
        cases PySem.W.Fast.tw10156331382660048174 (PySem.W.Fast.tw11892475500146522536 PySem.W.Fast.tw14364793385576792824) p w s t with
        | none => rfl
        | some r =>
          obtain ⟨s', t'⟩ := r
          dsimp only
          rw [← PySem.W.Fast.te14364793385576792824]
          exact topRunF_eq n s' t'
/-- where the top starts -/
noncomputable def bootTree (P : Params) : BT := (((((((((((BT.nil.ins 0 (boot_o_0 P)).ins 1 (boot_o_1 P)).ins 2 (boot_o_2 P)).ins 3 (boot_o_3 P)).ins 4 (boot_o_4 P)).ins 5 (boot_o_5 P)).ins 6 (boot_o_6 P)).ins 7 (boot_o_7 P)).ins 8 (boot_o_8 P)).ins 9 (boot_o_9 P)).ins 10 (boot_o_10 P))
noncomputable def boot0 (w : World) (os : OsState) : SharedT := ⟨bootTree w.params, 11, (boot_heap w.params).life, Array.mk [], boot_drawn, boot_toks, os⟩
theorem boot_abs (P : Params) : absHeap (bootTree P) 11 (boot_heap P).life = boot_heap P := rfl
theorem boot_size (w : World) : ((boot_heap w.params).isNs mainGlobals && (Array.mk [] : Array GenState).size == 0, (boot_heap w.params).objs.size, (boot_heap w.params).nsMap mainGlobals "__annotations__") = (true, 11, some (.ref 6)) := by kernel_rfl

/-! ### what stands at the end -/
def treeAt (s : SharedT) (a : Addr) : Option Obj := match Nat.blt a s.n with
  | true => match s.tree.get a with
    | some o => alive o
    | none => alive default
  | false => none
theorem abs_treeAt (s : SharedT) (a : Addr) : s.abs.heap.get? a = treeAt s a := by
  show (absHeap s.tree s.n s.life).get? a = _
  unfold treeAt
  cases e : Nat.blt a s.n with
  | false => exact abs_get_none fun h => by rw [show Nat.blt a s.n = true from Nat.ble_eq_true_of_le h] at e; cases e
  | true =>
    have lt : a < s.n := Nat.le_of_ble_eq_true e
    cases g : s.tree.get a with
    | some o => exact abs_get lt g
    | none =>
      unfold Heap.get?
      rw [absHeap_at, if_pos lt, g]
      rfl
def fragH (n : Nat) (h : Heap) : Frag := (List.range n).filterMap fun a => (h.get? a).map fun o => (a, o)
def fragT (n : Nat) (s : SharedT) : Frag := (List.range n).filterMap fun a => (treeAt s a).map fun o => (a, o)
theorem frag_abs (n : Nat) (s : SharedT) : fragH n s.abs.heap = fragT n s := by
  unfold fragH fragT
  congr 1
  funext a
  rw [abs_treeAt]
theorem lookup_in {α : Type} : ∀ {l : List (Addr × α)} {a : Addr} {o : α}, l.lookup a = some o → (a, o) ∈ l
  | (b, x) :: l, a, o, h => by
    rw [List.lookup_cons] at h
    cases e : a == b with
    | true => rw [e] at h; cases h; rw [beq_iff_eq.mp e]; exact .head _
    | false => rw [e] at h; exact .tail _ (lookup_in h)
theorem frag_in (n : Nat) (h : Heap) : (fragH n h).In h := fun a o e => by
  obtain ⟨b, _, hb⟩ := List.mem_filterMap.mp (lookup_in e)
  obtain ⟨o', ho, e'⟩ := Option.map_eq_some_iff.mp hb
  cases e'
  exact ho
theorem left_of {p q : Program} {loose : List Str} {Xt : Shared → Bool} {Ya : World → Frag} {N M z : Nat} {g0 : Bool}
    (open_ : ∀ w : World, (fencedOpening treeTable p w N).map (fun s => (s.heap, s.gens, s.drawn, s.toks)) = some (boot_heap w.params, Array.mk [], boot_drawn, boot_toks)) (le : Nat.ble M N = true)
    (run : ∀ (w : World) (os : OsState), (topRunF p w 11 (some (.ref 6)) M (boot0 w os) (topStub p)).map (fun s =>
      ((staticsOk (importedModules p.main.body) (boot_heap w.params) s.abs.heap && namesBound p s.abs.heap && gensDone s.abs && laidKept (boot_heap w.params) s.abs.heap),
        openSeen q loose (importedModules p.main.body) Xt g0 s.abs, fragT z s)) = some (true, openGood q loose, Ya w)) : LeftO p q loose Xt (fun s => fragH z s.heap) Ya N g0 := fun w => by
  obtain ⟨⟨h, gs, d, k, os⟩, e, e'⟩ := Option.map_eq_some_iff.mp (open_ w)
  obtain ⟨rfl, rfl, rfl, rfl⟩ : h = boot_heap w.params ∧ gs = Array.mk [] ∧ d = boot_drawn ∧ k = boot_toks := by simpa using e'
  obtain ⟨z1, z2, z3⟩ : _ ∧ _ ∧ _ := by simpa only [Prod.mk.injEq] using boot_size w
  obtain ⟨s', hr, hs⟩ := Option.map_eq_some_iff.mp (run w os)
  obtain ⟨l1, l2, l3⟩ : _ ∧ _ ∧ _ := by simpa only [Prod.mk.injEq] using hs
  rw [← topRunF_eq] at hr
  have r0 := topRun_of hr
  have r := topRun_mono (N - M) _ _ _ _ r0
  rw [show M + (N - M) = N by have := Nat.le_of_ble_eq_true le; omega] at r
  have ea : (boot0 w os).abs = ⟨boot_heap w.params, Array.mk [], boot_drawn, boot_toks, os⟩ := by
    exact congrArg (fun H => Shared.mk H (Array.mk []) boot_drawn boot_toks os) (boot_abs w.params)
  rw [ea] at r
  have t : topFrom treeTable p w N ⟨boot_heap w.params, Array.mk [], boot_drawn, boot_toks, os⟩ = some s'.abs := by
    unfold topFrom
    dsimp only
    rw [z1, z2, z3, r]
    show (match staticsOk (importedModules p.main.body) (boot_heap w.params) s'.abs.heap && namesBound p s'.abs.heap && gensDone s'.abs && laidKept (boot_heap w.params) s'.abs.heap with | true => _ | false => _) = _
    rw [l1]
  unfold openEnds
  rw [e]
  show (topFrom treeTable p w N _).map _ = _
  rw [t]
  exact congrArg some (Prod.ext l2 ((frag_abs z s').trans l3))
noncomputable abbrev PW : Program := PySem.Challenge.pw_xm0847_01
noncomputable def QV : Program := view PW [47]
def others : List Str := ["KeepError", "RaftError", "ConfRefused", "LogPanic", "NONE", "NO_LIMIT", "ADD_NODE", "REMOVE_NODE", "UPDATE_NODE", "ADD_LEARNER", "AUTO", "IMPLICIT", "EXPLICIT", "rising", "ConfState", "ConfChange", "VOTE_PENDING", "VOTE_LOST", "VOTE_WON",
  "majority_index", "majority_vote", "joint_index", "joint_vote", "Config", "config_of", "added", "without", "count_apart", "Changer", "apply_change", "_law_IDS", "_law_KINDS", "_law_draw", "_law_state", "_law_row", "_law_steps", "_law_after", "_law_heard", "_law_holds", "_law_spoil", "_law_counts", "_law_tells", "_law_ask"].map Str.ofString
theorem open_pw : ∀ w : World, (fencedOpening treeTable PW w 7000).map (fun s => (s.heap, s.gens, s.drawn, s.toks)) = some (boot_heap w.params, Array.mk [], boot_drawn, boot_toks) :=
  boot_open (by kernel_rfl) (by decide) (fun s => by kernel_rfl)
noncomputable def finalT (w : World) : SharedT := (topRunF PW w 11 (some (.ref 6)) 3600 (boot0 w {}) (topStub PW)).getD (boot0 w {})
@[irreducible] noncomputable def KK (w : World) : Frag := fragT 440 (finalT w)
theorem run_pw : ∀ (w : World) (os : OsState), (topRunF PW w 11 (some (.ref 6)) 3600 (boot0 w os) (topStub PW)).map (fun s =>
      ((staticsOk (importedModules PW.main.body) (boot_heap w.params) s.abs.heap && namesBound PW s.abs.heap && gensDone s.abs && laidKept (boot_heap w.params) s.abs.heap),
       PySem.W.Fast.tw4187177175401517315 QV others (importedModules PW.main.body) (fun _ => true) true s.abs, fragT 440 s)) = some (true, openGood QV others, KK w) := by
  intro w os
  kernel_rfl
theorem left_pw : LeftO PW QV others (fun _ => true) (fun s => fragH 440 s.heap) KK 7000 :=
  left_of (M := 3600) open_pw rfl (by rw [PySem.W.Fast.te4187177175401517315]; exact run_pw)
noncomputable def globL : List (Str × AV) := [(Str.ofString "sorted", .blt "sorted"), (Str.ofString "rising", .ref 70), (Str.ofString "tuple", .ty "tuple"), (Str.ofString "ConfState", .ref 101), (Str.ofString "AUTO", .int 0), (Str.ofString "IMPLICIT", .int 1), (Str.ofString "EXPLICIT", .int 2), (Str.ofString "LogPanic", .ref 61), (Str.ofString "len", .blt "len"), (Str.ofString "NO_LIMIT", .int 18446744073709551615), (Str.ofString "VOTE_WON", .int 3), (Str.ofString "VOTE_PENDING", .int 1), (Str.ofString "VOTE_LOST", .int 2), (Str.ofString "majority_index", .ref 150), (Str.ofString "majority_vote", .ref 157), (Str.ofString "Config", .ref 251), (Str.ofString "joint_index", .ref 164), (Str.ofString "joint_vote", .ref 171), (Str.ofString "NONE", .int 0), (Str.ofString "ConfRefused", .ref 49), (Str.ofString "count_apart", .ref 281), (Str.ofString "ADD_NODE", .int 0), (Str.ofString "ADD_LEARNER", .int 3), (Str.ofString "REMOVE_NODE", .int 1), (Str.ofString "UPDATE_NODE", .int 2), (Str.ofString "without", .ref 274), (Str.ofString "added", .ref 269), (Str.ofString "Changer", .ref 354), (Str.ofString "range", .ty "range"), (Str.ofString "_law_IDS", .tup [.int 1, .int 2, .int 3, .int 4, .int 5, .int 6]), (Str.ofString "_law_KINDS", .tup [.int 0, .int 1, .int 3, .int 0, .int 3, .int 1, .int 4, .int 2]), (Str.ofString "min", .blt "min"), (Str.ofString "max", .blt "max"), (Str.ofString "_law_row", .ref 386), (Str.ofString "_law_counts", .ref 422), (Str.ofString "config_of", .ref 262), (Str.ofString "_law_spoil", .ref 417), (Str.ofString "apply_change", .ref 365), (Str.ofString "_law_state", .ref 381), (Str.ofString "_law_draw", .ref 374), (Str.ofString "_law_steps", .ref 393), (Str.ofString "ConfChange", .ref 141), (Str.ofString "_law_heard", .ref 405), (Str.ofString "_law_tells", .ref 427), (Str.ofString "_law_after", .ref 398), (Str.ofString "_law_ask", .ref 434), (Str.ofString "_law_holds", .ref 410)]
noncomputable def keepL : List Addr := [70, 101, 141, 150, 157, 164, 171, 251, 262, 269, 274, 281, 354, 365, 374, 381, 386, 393, 398, 405, 410, 417, 422, 427, 434, 439]
noncomputable def looks : List (Frag → Bool) := [
  fun K => funB K 70 [Str.ofString "ids"],
  fun K => funB K 84 [Str.ofString "self", Str.ofString "voters", Str.ofString "learners", Str.ofString "outgoing", Str.ofString "learners_next", Str.ofString "auto_leave"],
  fun K => funB K 91 [Str.ofString "self"],
  fun K => funB K 98 [Str.ofString "self"],
  fun K => funB K 117 [Str.ofString "self", Str.ofString "transition", Str.ofString "changes", Str.ofString "context"],
  fun K => funB K 124 [Str.ofString "self"],
  fun K => funB K 131 [Str.ofString "self"],
  fun K => funB K 138 [Str.ofString "self"],
  fun K => funB K 150 [Str.ofString "ids", Str.ofString "acked"],
  fun K => funB K 157 [Str.ofString "ids", Str.ofString "votes"],
  fun K => funB K 164 [Str.ofString "a", Str.ofString "b", Str.ofString "acked"],
  fun K => funB K 171 [Str.ofString "a", Str.ofString "b", Str.ofString "votes"],
  fun K => funB K 185 [Str.ofString "self", Str.ofString "voters", Str.ofString "outgoing", Str.ofString "learners", Str.ofString "learners_next", Str.ofString "auto_leave"],
  fun K => funB K 192 [Str.ofString "self"],
  fun K => funB K 199 [Str.ofString "self"],
  fun K => funB K 206 [Str.ofString "self"],
  fun K => funB K 213 [Str.ofString "self"],
  fun K => funB K 220 [Str.ofString "self"],
  fun K => funB K 227 [Str.ofString "self", Str.ofString "acked"],
  fun K => funB K 234 [Str.ofString "self", Str.ofString "votes"],
  fun K => funB K 241 [Str.ofString "self"],
  fun K => funB K 248 [Str.ofString "self"],
  fun K => funB K 262 [Str.ofString "conf"],
  fun K => funB K 269 [Str.ofString "ids", Str.ofString "nid"],
  fun K => funB K 274 [Str.ofString "ids", Str.ofString "nid"],
  fun K => funB K 281 [Str.ofString "a", Str.ofString "b"],
  fun K => funB K 295 [Str.ofString "self", Str.ofString "config"],
  fun K => funB K 302 [Str.ofString "self", Str.ofString "auto_leave", Str.ofString "changes"],
  fun K => funB K 309 [Str.ofString "self"],
  fun K => funB K 316 [Str.ofString "self", Str.ofString "changes"],
  fun K => funB K 323 [Str.ofString "self"],
  fun K => funB K 330 [Str.ofString "self", Str.ofString "made", Str.ofString "changes"],
  fun K => funB K 337 [Str.ofString "self", Str.ofString "made", Str.ofString "nid"],
  fun K => funB K 344 [Str.ofString "self", Str.ofString "made", Str.ofString "nid"],
  fun K => funB K 351 [Str.ofString "self", Str.ofString "made", Str.ofString "nid"],
  fun K => funB K 365 [Str.ofString "config", Str.ofString "change"],
  fun K => funB K 374 [Str.ofString "nums", Str.ofString "i"],
  fun K => funB K 381 [Str.ofString "x", Str.ofString "joint"],
  fun K => funB K 386 [Str.ofString "state"],
  fun K => funB K 393 [Str.ofString "x"],
  fun K => funB K 398 [Str.ofString "state", Str.ofString "what", Str.ofString "flag", Str.ofString "steps"],
  fun K => funB K 405 [Str.ofString "x"],
  fun K => funB K 410 [Str.ofString "halves", Str.ofString "acked", Str.ofString "mark"],
  fun K => funB K 417 [Str.ofString "parts"],
  fun K => funB K 422 [Str.ofString "config", Str.ofString "row", Str.ofString "votes", Str.ofString "acked"],
  fun K => funB K 427 [Str.ofString "config", Str.ofString "state", Str.ofString "votes", Str.ofString "acked"],
  fun K => funB K 434 [Str.ofString "changer", Str.ofString "config", Str.ofString "way", Str.ofString "flag", Str.ofString "steps", Str.ofString "change"],
  fun K => funB K 439 [Str.ofString "script"],
  fun K => globB K globL,
  fun K => excIn K 49 [.type "Exception", .type "BaseException", .type "object"] "Exception.__new__",
  fun K => nsIn K mainGlobals (Str.ofString "ConfRefused") == some (some (.ref 49)),
  fun K => nsIn K mainGlobals (Str.ofString "law") == some (some (.ref 439)),
  fun K => clsB K 101,
  fun K => makesIn K 101 && (findIn K (.ref 101) "__init__" == some (some (.ref 84)) && isFn K (.ref 84)),
  fun K => fieldB K 101 (Str.ofString "voters"),
  fun K => fieldB K 101 (Str.ofString "learners"),
  fun K => fieldB K 101 (Str.ofString "outgoing"),
  fun K => fieldB K 101 (Str.ofString "learners_next"),
  fun K => fieldB K 101 (Str.ofString "auto_leave"),
  fun K => methB K 101 (Str.ofString "row") 91,
  fun K => methB K 101 (Str.ofString "copy") 98,
  fun K => clsB K 141,
  fun K => makesIn K 141 && (findIn K (.ref 141) "__init__" == some (some (.ref 117)) && isFn K (.ref 117)),
  fun K => fieldB K 141 (Str.ofString "transition"),
  fun K => fieldB K 141 (Str.ofString "changes"),
  fun K => fieldB K 141 (Str.ofString "context"),
  fun K => methB K 141 (Str.ofString "row") 124,
  fun K => methB K 141 (Str.ofString "enter_joint") 131,
  fun K => methB K 141 (Str.ofString "leave_joint") 138,
  fun K => clsB K 251,
  fun K => makesIn K 251 && (findIn K (.ref 251) "__init__" == some (some (.ref 185)) && isFn K (.ref 185)),
  fun K => fieldB K 251 (Str.ofString "voters"),
  fun K => fieldB K 251 (Str.ofString "learners"),
  fun K => fieldB K 251 (Str.ofString "outgoing"),
  fun K => fieldB K 251 (Str.ofString "learners_next"),
  fun K => fieldB K 251 (Str.ofString "auto_leave"),
  fun K => methB K 251 (Str.ofString "row") 192,
  fun K => methB K 251 (Str.ofString "copy") 199,
  fun K => methB K 251 (Str.ofString "joint") 206,
  fun K => methB K 251 (Str.ofString "all_voters") 213,
  fun K => methB K 251 (Str.ofString "members") 220,
  fun K => methB K 251 (Str.ofString "committed") 227,
  fun K => methB K 251 (Str.ofString "vote") 234,
  fun K => methB K 251 (Str.ofString "conf_state") 241,
  fun K => methB K 251 (Str.ofString "check") 248,
  fun K => clsB K 354,
  fun K => makesIn K 354 && (findIn K (.ref 354) "__init__" == some (some (.ref 295)) && isFn K (.ref 295)),
  fun K => fieldB K 354 (Str.ofString "config"),
  fun K => methB K 354 (Str.ofString "enter_joint") 302,
  fun K => methB K 354 (Str.ofString "leave_joint") 309,
  fun K => methB K 354 (Str.ofString "simple") 316,
  fun K => methB K 354 (Str.ofString "checked_copy") 323,
  fun K => methB K 354 (Str.ofString "do_changes") 330,
  fun K => methB K 354 (Str.ofString "make_voter") 337,
  fun K => methB K 354 (Str.ofString "make_learner") 344,
  fun K => methB K 354 (Str.ofString "remove") 351,
  fun K => keepL.all fun a => keepIn K (.ref a),
  fun K => K.all fun q => q.2.cls != .type "list"]
noncomputable def fT (i : Nat) : List Stmt × Names := match PW.main.body[i]? with
  | some (.FunctionDef _ _ b _ _ _ sc ..) => (b, sc.names)
  | _ => ([], [])
noncomputable def mT (i j : Nat) : List Stmt × Names := match PW.main.body[i]? with
  | some (.ClassDef _ _ _ b ..) => match b[j]? with
    | some (.FunctionDef _ _ b _ _ _ sc ..) => (b, sc.names)
    | _ => ([], [])
  | _ => ([], [])
/-- one run of the kernel for all looks and all texts -/
theorem looks_texts (w : World) : (looks.all fun f => f (KK w)) = true ∧ ([70, 84, 91, 98, 117, 124, 131, 138, 150, 157, 164, 171, 185, 192, 199, 206, 213, 220, 227, 234, 241, 248, 262, 269, 274, 281, 295, 302, 309, 316, 323, 330, 337, 344, 351, 365, 374, 381, 386, 393, 398, 405, 410, 417, 422, 427, 434, 439] : List Addr).map (fun a => (bodyOf (KK w) a, (fdOf (KK w) a).scope.names)) = [fT 15, mT 16 0, mT 16 1, mT 16 2, mT 17 0, mT 17 1, mT 17 2, mT 17 3, fT 22, fT 23, fT 24, fT 25, mT 26 0, mT 26 1, mT 26 2, mT 26 3, mT 26 4, mT 26 5, mT 26 6, mT 26 7, mT 26 8, mT 26 9, fT 27, fT 28, fT 29, fT 30, mT 31 0, mT 31 1, mT 31 2, mT 31 3, mT 31 4, mT 31 5, mT 31 6, mT 31 7, mT 31 8, fT 32, fT 36, fT 37, fT 38, fT 39, fT 40, fT 41, fT 42, fT 43, fT 44, fT 45, fT 46, fT 47] := ⟨by kernel_rfl, by kernel_rfl⟩
theorem looks_ok (w : World) : (looks.all fun f => f (KK w)) = true := (looks_texts w).1
theorem look_at (w : World) (i : Nat) (f : Frag → Bool) (h : looks[i]? = some f) : f (KK w) = true :=
  List.all_eq_true.mp (looks_ok w) f (List.mem_of_getElem? h)
theorem init_of {K : Frag} {C f : Addr} (h : (makesIn K C && (findIn K (.ref C) "__init__" == some (some (.ref f)) && isFn K (.ref f))) = true) : makesIn K C = true ∧ findIn K (.ref C) "__init__" = some (some (.ref f)) ∧ isFn K (.ref f) = true := by
  rwa [Bool.and_eq_true, Bool.and_eq_true, beq_iff_eq] at h
theorem f_70 (w : World) : funB (KK w) 70 [Str.ofString "ids"] = true := look_at w 0 (fun K => funB K 70 [Str.ofString "ids"]) rfl
theorem f_84 (w : World) : funB (KK w) 84 [Str.ofString "self", Str.ofString "voters", Str.ofString "learners", Str.ofString "outgoing", Str.ofString "learners_next", Str.ofString "auto_leave"] = true := look_at w 1 (fun K => funB K 84 [Str.ofString "self", Str.ofString "voters", Str.ofString "learners", Str.ofString "outgoing", Str.ofString "learners_next", Str.ofString "auto_leave"]) rfl
theorem f_91 (w : World) : funB (KK w) 91 [Str.ofString "self"] = true := look_at w 2 (fun K => funB K 91 [Str.ofString "self"]) rfl
theorem f_98 (w : World) : funB (KK w) 98 [Str.ofString "self"] = true := look_at w 3 (fun K => funB K 98 [Str.ofString "self"]) rfl
theorem f_117 (w : World) : funB (KK w) 117 [Str.ofString "self", Str.ofString "transition", Str.ofString "changes", Str.ofString "context"] = true := look_at w 4 (fun K => funB K 117 [Str.ofString "self", Str.ofString "transition", Str.ofString "changes", Str.ofString "context"]) rfl
theorem f_124 (w : World) : funB (KK w) 124 [Str.ofString "self"] = true := look_at w 5 (fun K => funB K 124 [Str.ofString "self"]) rfl
theorem f_131 (w : World) : funB (KK w) 131 [Str.ofString "self"] = true := look_at w 6 (fun K => funB K 131 [Str.ofString "self"]) rfl
theorem f_138 (w : World) : funB (KK w) 138 [Str.ofString "self"] = true := look_at w 7 (fun K => funB K 138 [Str.ofString "self"]) rfl
theorem f_150 (w : World) : funB (KK w) 150 [Str.ofString "ids", Str.ofString "acked"] = true := look_at w 8 (fun K => funB K 150 [Str.ofString "ids", Str.ofString "acked"]) rfl
theorem f_157 (w : World) : funB (KK w) 157 [Str.ofString "ids", Str.ofString "votes"] = true := look_at w 9 (fun K => funB K 157 [Str.ofString "ids", Str.ofString "votes"]) rfl
theorem f_164 (w : World) : funB (KK w) 164 [Str.ofString "a", Str.ofString "b", Str.ofString "acked"] = true := look_at w 10 (fun K => funB K 164 [Str.ofString "a", Str.ofString "b", Str.ofString "acked"]) rfl
theorem f_171 (w : World) : funB (KK w) 171 [Str.ofString "a", Str.ofString "b", Str.ofString "votes"] = true := look_at w 11 (fun K => funB K 171 [Str.ofString "a", Str.ofString "b", Str.ofString "votes"]) rfl
theorem f_185 (w : World) : funB (KK w) 185 [Str.ofString "self", Str.ofString "voters", Str.ofString "outgoing", Str.ofString "learners", Str.ofString "learners_next", Str.ofString "auto_leave"] = true := look_at w 12 (fun K => funB K 185 [Str.ofString "self", Str.ofString "voters", Str.ofString "outgoing", Str.ofString "learners", Str.ofString "learners_next", Str.ofString "auto_leave"]) rfl
theorem f_192 (w : World) : funB (KK w) 192 [Str.ofString "self"] = true := look_at w 13 (fun K => funB K 192 [Str.ofString "self"]) rfl
theorem f_199 (w : World) : funB (KK w) 199 [Str.ofString "self"] = true := look_at w 14 (fun K => funB K 199 [Str.ofString "self"]) rfl
theorem f_206 (w : World) : funB (KK w) 206 [Str.ofString "self"] = true := look_at w 15 (fun K => funB K 206 [Str.ofString "self"]) rfl
theorem f_213 (w : World) : funB (KK w) 213 [Str.ofString "self"] = true := look_at w 16 (fun K => funB K 213 [Str.ofString "self"]) rfl
theorem f_220 (w : World) : funB (KK w) 220 [Str.ofString "self"] = true := look_at w 17 (fun K => funB K 220 [Str.ofString "self"]) rfl
theorem f_227 (w : World) : funB (KK w) 227 [Str.ofString "self", Str.ofString "acked"] = true := look_at w 18 (fun K => funB K 227 [Str.ofString "self", Str.ofString "acked"]) rfl
theorem f_234 (w : World) : funB (KK w) 234 [Str.ofString "self", Str.ofString "votes"] = true := look_at w 19 (fun K => funB K 234 [Str.ofString "self", Str.ofString "votes"]) rfl
theorem f_241 (w : World) : funB (KK w) 241 [Str.ofString "self"] = true := look_at w 20 (fun K => funB K 241 [Str.ofString "self"]) rfl
theorem f_248 (w : World) : funB (KK w) 248 [Str.ofString "self"] = true := look_at w 21 (fun K => funB K 248 [Str.ofString "self"]) rfl
theorem f_262 (w : World) : funB (KK w) 262 [Str.ofString "conf"] = true := look_at w 22 (fun K => funB K 262 [Str.ofString "conf"]) rfl
theorem f_269 (w : World) : funB (KK w) 269 [Str.ofString "ids", Str.ofString "nid"] = true := look_at w 23 (fun K => funB K 269 [Str.ofString "ids", Str.ofString "nid"]) rfl
theorem f_274 (w : World) : funB (KK w) 274 [Str.ofString "ids", Str.ofString "nid"] = true := look_at w 24 (fun K => funB K 274 [Str.ofString "ids", Str.ofString "nid"]) rfl
theorem f_281 (w : World) : funB (KK w) 281 [Str.ofString "a", Str.ofString "b"] = true := look_at w 25 (fun K => funB K 281 [Str.ofString "a", Str.ofString "b"]) rfl
theorem f_295 (w : World) : funB (KK w) 295 [Str.ofString "self", Str.ofString "config"] = true := look_at w 26 (fun K => funB K 295 [Str.ofString "self", Str.ofString "config"]) rfl
theorem f_302 (w : World) : funB (KK w) 302 [Str.ofString "self", Str.ofString "auto_leave", Str.ofString "changes"] = true := look_at w 27 (fun K => funB K 302 [Str.ofString "self", Str.ofString "auto_leave", Str.ofString "changes"]) rfl
theorem f_309 (w : World) : funB (KK w) 309 [Str.ofString "self"] = true := look_at w 28 (fun K => funB K 309 [Str.ofString "self"]) rfl
theorem f_316 (w : World) : funB (KK w) 316 [Str.ofString "self", Str.ofString "changes"] = true := look_at w 29 (fun K => funB K 316 [Str.ofString "self", Str.ofString "changes"]) rfl
theorem f_323 (w : World) : funB (KK w) 323 [Str.ofString "self"] = true := look_at w 30 (fun K => funB K 323 [Str.ofString "self"]) rfl
theorem f_330 (w : World) : funB (KK w) 330 [Str.ofString "self", Str.ofString "made", Str.ofString "changes"] = true := look_at w 31 (fun K => funB K 330 [Str.ofString "self", Str.ofString "made", Str.ofString "changes"]) rfl
theorem f_337 (w : World) : funB (KK w) 337 [Str.ofString "self", Str.ofString "made", Str.ofString "nid"] = true := look_at w 32 (fun K => funB K 337 [Str.ofString "self", Str.ofString "made", Str.ofString "nid"]) rfl
theorem f_344 (w : World) : funB (KK w) 344 [Str.ofString "self", Str.ofString "made", Str.ofString "nid"] = true := look_at w 33 (fun K => funB K 344 [Str.ofString "self", Str.ofString "made", Str.ofString "nid"]) rfl
theorem f_351 (w : World) : funB (KK w) 351 [Str.ofString "self", Str.ofString "made", Str.ofString "nid"] = true := look_at w 34 (fun K => funB K 351 [Str.ofString "self", Str.ofString "made", Str.ofString "nid"]) rfl
theorem f_365 (w : World) : funB (KK w) 365 [Str.ofString "config", Str.ofString "change"] = true := look_at w 35 (fun K => funB K 365 [Str.ofString "config", Str.ofString "change"]) rfl
theorem f_374 (w : World) : funB (KK w) 374 [Str.ofString "nums", Str.ofString "i"] = true := look_at w 36 (fun K => funB K 374 [Str.ofString "nums", Str.ofString "i"]) rfl
theorem f_381 (w : World) : funB (KK w) 381 [Str.ofString "x", Str.ofString "joint"] = true := look_at w 37 (fun K => funB K 381 [Str.ofString "x", Str.ofString "joint"]) rfl
theorem f_386 (w : World) : funB (KK w) 386 [Str.ofString "state"] = true := look_at w 38 (fun K => funB K 386 [Str.ofString "state"]) rfl
theorem f_393 (w : World) : funB (KK w) 393 [Str.ofString "x"] = true := look_at w 39 (fun K => funB K 393 [Str.ofString "x"]) rfl
theorem f_398 (w : World) : funB (KK w) 398 [Str.ofString "state", Str.ofString "what", Str.ofString "flag", Str.ofString "steps"] = true := look_at w 40 (fun K => funB K 398 [Str.ofString "state", Str.ofString "what", Str.ofString "flag", Str.ofString "steps"]) rfl
theorem f_405 (w : World) : funB (KK w) 405 [Str.ofString "x"] = true := look_at w 41 (fun K => funB K 405 [Str.ofString "x"]) rfl
theorem f_410 (w : World) : funB (KK w) 410 [Str.ofString "halves", Str.ofString "acked", Str.ofString "mark"] = true := look_at w 42 (fun K => funB K 410 [Str.ofString "halves", Str.ofString "acked", Str.ofString "mark"]) rfl
theorem f_417 (w : World) : funB (KK w) 417 [Str.ofString "parts"] = true := look_at w 43 (fun K => funB K 417 [Str.ofString "parts"]) rfl
theorem f_422 (w : World) : funB (KK w) 422 [Str.ofString "config", Str.ofString "row", Str.ofString "votes", Str.ofString "acked"] = true := look_at w 44 (fun K => funB K 422 [Str.ofString "config", Str.ofString "row", Str.ofString "votes", Str.ofString "acked"]) rfl
theorem f_427 (w : World) : funB (KK w) 427 [Str.ofString "config", Str.ofString "state", Str.ofString "votes", Str.ofString "acked"] = true := look_at w 45 (fun K => funB K 427 [Str.ofString "config", Str.ofString "state", Str.ofString "votes", Str.ofString "acked"]) rfl
theorem f_434 (w : World) : funB (KK w) 434 [Str.ofString "changer", Str.ofString "config", Str.ofString "way", Str.ofString "flag", Str.ofString "steps", Str.ofString "change"] = true := look_at w 46 (fun K => funB K 434 [Str.ofString "changer", Str.ofString "config", Str.ofString "way", Str.ofString "flag", Str.ofString "steps", Str.ofString "change"]) rfl
theorem f_439 (w : World) : funB (KK w) 439 [Str.ofString "script"] = true := look_at w 47 (fun K => funB K 439 [Str.ofString "script"]) rfl
theorem glob_ok (w : World) : globB (KK w) globL = true := look_at w 48 (fun K => globB K globL) rfl
theorem exc_ok (w : World) : excIn (KK w) 49 [.type "Exception", .type "BaseException", .type "object"] "Exception.__new__" = true := look_at w 49 (fun K => excIn K 49 [.type "Exception", .type "BaseException", .type "object"] "Exception.__new__") rfl
theorem exc_ns (w : World) : nsIn (KK w) mainGlobals (Str.ofString "ConfRefused") = some (some (.ref 49)) := beq_iff_eq.mp (look_at w 50 (fun K => nsIn K mainGlobals (Str.ofString "ConfRefused") == some (some (.ref 49))) rfl)
theorem law_ns (w : World) : nsIn (KK w) mainGlobals (Str.ofString "law") = some (some (.ref 439)) := beq_iff_eq.mp (look_at w 51 (fun K => nsIn K mainGlobals (Str.ofString "law") == some (some (.ref 439))) rfl)
theorem c_101 (w : World) : ClsOk (KK w) 101 := cls_of (look_at w 52 (fun K => clsB K 101) rfl)
theorem i_101 (w : World) : makesIn (KK w) 101 = true ∧ findIn (KK w) (.ref 101) "__init__" = some (some (.ref 84)) ∧ isFn (KK w) (.ref 84) = true := init_of (look_at w 53 (fun K => makesIn K 101 && (findIn K (.ref 101) "__init__" == some (some (.ref 84)) && isFn K (.ref 84))) rfl)
theorem d_101_voters (w : World) : FieldOk (KK w) 101 (Str.ofString "voters") := field_of (look_at w 54 (fun K => fieldB K 101 (Str.ofString "voters")) rfl)
theorem d_101_learners (w : World) : FieldOk (KK w) 101 (Str.ofString "learners") := field_of (look_at w 55 (fun K => fieldB K 101 (Str.ofString "learners")) rfl)
theorem d_101_outgoing (w : World) : FieldOk (KK w) 101 (Str.ofString "outgoing") := field_of (look_at w 56 (fun K => fieldB K 101 (Str.ofString "outgoing")) rfl)
theorem d_101_learners_next (w : World) : FieldOk (KK w) 101 (Str.ofString "learners_next") := field_of (look_at w 57 (fun K => fieldB K 101 (Str.ofString "learners_next")) rfl)
theorem d_101_auto_leave (w : World) : FieldOk (KK w) 101 (Str.ofString "auto_leave") := field_of (look_at w 58 (fun K => fieldB K 101 (Str.ofString "auto_leave")) rfl)
theorem m_91 (w : World) : MethOk (KK w) 101 (Str.ofString "row") 91 := meth_of (look_at w 59 (fun K => methB K 101 (Str.ofString "row") 91) rfl)
theorem m_98 (w : World) : MethOk (KK w) 101 (Str.ofString "copy") 98 := meth_of (look_at w 60 (fun K => methB K 101 (Str.ofString "copy") 98) rfl)
theorem c_141 (w : World) : ClsOk (KK w) 141 := cls_of (look_at w 61 (fun K => clsB K 141) rfl)
theorem i_141 (w : World) : makesIn (KK w) 141 = true ∧ findIn (KK w) (.ref 141) "__init__" = some (some (.ref 117)) ∧ isFn (KK w) (.ref 117) = true := init_of (look_at w 62 (fun K => makesIn K 141 && (findIn K (.ref 141) "__init__" == some (some (.ref 117)) && isFn K (.ref 117))) rfl)
theorem d_141_transition (w : World) : FieldOk (KK w) 141 (Str.ofString "transition") := field_of (look_at w 63 (fun K => fieldB K 141 (Str.ofString "transition")) rfl)
theorem d_141_changes (w : World) : FieldOk (KK w) 141 (Str.ofString "changes") := field_of (look_at w 64 (fun K => fieldB K 141 (Str.ofString "changes")) rfl)
theorem d_141_context (w : World) : FieldOk (KK w) 141 (Str.ofString "context") := field_of (look_at w 65 (fun K => fieldB K 141 (Str.ofString "context")) rfl)
theorem m_124 (w : World) : MethOk (KK w) 141 (Str.ofString "row") 124 := meth_of (look_at w 66 (fun K => methB K 141 (Str.ofString "row") 124) rfl)
theorem m_131 (w : World) : MethOk (KK w) 141 (Str.ofString "enter_joint") 131 := meth_of (look_at w 67 (fun K => methB K 141 (Str.ofString "enter_joint") 131) rfl)
theorem m_138 (w : World) : MethOk (KK w) 141 (Str.ofString "leave_joint") 138 := meth_of (look_at w 68 (fun K => methB K 141 (Str.ofString "leave_joint") 138) rfl)
theorem c_251 (w : World) : ClsOk (KK w) 251 := cls_of (look_at w 69 (fun K => clsB K 251) rfl)
theorem i_251 (w : World) : makesIn (KK w) 251 = true ∧ findIn (KK w) (.ref 251) "__init__" = some (some (.ref 185)) ∧ isFn (KK w) (.ref 185) = true := init_of (look_at w 70 (fun K => makesIn K 251 && (findIn K (.ref 251) "__init__" == some (some (.ref 185)) && isFn K (.ref 185))) rfl)
theorem d_251_voters (w : World) : FieldOk (KK w) 251 (Str.ofString "voters") := field_of (look_at w 71 (fun K => fieldB K 251 (Str.ofString "voters")) rfl)
theorem d_251_learners (w : World) : FieldOk (KK w) 251 (Str.ofString "learners") := field_of (look_at w 72 (fun K => fieldB K 251 (Str.ofString "learners")) rfl)
theorem d_251_outgoing (w : World) : FieldOk (KK w) 251 (Str.ofString "outgoing") := field_of (look_at w 73 (fun K => fieldB K 251 (Str.ofString "outgoing")) rfl)
theorem d_251_learners_next (w : World) : FieldOk (KK w) 251 (Str.ofString "learners_next") := field_of (look_at w 74 (fun K => fieldB K 251 (Str.ofString "learners_next")) rfl)
theorem d_251_auto_leave (w : World) : FieldOk (KK w) 251 (Str.ofString "auto_leave") := field_of (look_at w 75 (fun K => fieldB K 251 (Str.ofString "auto_leave")) rfl)
theorem m_192 (w : World) : MethOk (KK w) 251 (Str.ofString "row") 192 := meth_of (look_at w 76 (fun K => methB K 251 (Str.ofString "row") 192) rfl)
theorem m_199 (w : World) : MethOk (KK w) 251 (Str.ofString "copy") 199 := meth_of (look_at w 77 (fun K => methB K 251 (Str.ofString "copy") 199) rfl)
theorem m_206 (w : World) : MethOk (KK w) 251 (Str.ofString "joint") 206 := meth_of (look_at w 78 (fun K => methB K 251 (Str.ofString "joint") 206) rfl)
theorem m_213 (w : World) : MethOk (KK w) 251 (Str.ofString "all_voters") 213 := meth_of (look_at w 79 (fun K => methB K 251 (Str.ofString "all_voters") 213) rfl)
theorem m_220 (w : World) : MethOk (KK w) 251 (Str.ofString "members") 220 := meth_of (look_at w 80 (fun K => methB K 251 (Str.ofString "members") 220) rfl)
theorem m_227 (w : World) : MethOk (KK w) 251 (Str.ofString "committed") 227 := meth_of (look_at w 81 (fun K => methB K 251 (Str.ofString "committed") 227) rfl)
theorem m_234 (w : World) : MethOk (KK w) 251 (Str.ofString "vote") 234 := meth_of (look_at w 82 (fun K => methB K 251 (Str.ofString "vote") 234) rfl)
theorem m_241 (w : World) : MethOk (KK w) 251 (Str.ofString "conf_state") 241 := meth_of (look_at w 83 (fun K => methB K 251 (Str.ofString "conf_state") 241) rfl)
theorem m_248 (w : World) : MethOk (KK w) 251 (Str.ofString "check") 248 := meth_of (look_at w 84 (fun K => methB K 251 (Str.ofString "check") 248) rfl)
theorem c_354 (w : World) : ClsOk (KK w) 354 := cls_of (look_at w 85 (fun K => clsB K 354) rfl)
theorem i_354 (w : World) : makesIn (KK w) 354 = true ∧ findIn (KK w) (.ref 354) "__init__" = some (some (.ref 295)) ∧ isFn (KK w) (.ref 295) = true := init_of (look_at w 86 (fun K => makesIn K 354 && (findIn K (.ref 354) "__init__" == some (some (.ref 295)) && isFn K (.ref 295))) rfl)
theorem d_354_config (w : World) : FieldOk (KK w) 354 (Str.ofString "config") := field_of (look_at w 87 (fun K => fieldB K 354 (Str.ofString "config")) rfl)
theorem m_302 (w : World) : MethOk (KK w) 354 (Str.ofString "enter_joint") 302 := meth_of (look_at w 88 (fun K => methB K 354 (Str.ofString "enter_joint") 302) rfl)
theorem m_309 (w : World) : MethOk (KK w) 354 (Str.ofString "leave_joint") 309 := meth_of (look_at w 89 (fun K => methB K 354 (Str.ofString "leave_joint") 309) rfl)
theorem m_316 (w : World) : MethOk (KK w) 354 (Str.ofString "simple") 316 := meth_of (look_at w 90 (fun K => methB K 354 (Str.ofString "simple") 316) rfl)
theorem m_323 (w : World) : MethOk (KK w) 354 (Str.ofString "checked_copy") 323 := meth_of (look_at w 91 (fun K => methB K 354 (Str.ofString "checked_copy") 323) rfl)
theorem m_330 (w : World) : MethOk (KK w) 354 (Str.ofString "do_changes") 330 := meth_of (look_at w 92 (fun K => methB K 354 (Str.ofString "do_changes") 330) rfl)
theorem m_337 (w : World) : MethOk (KK w) 354 (Str.ofString "make_voter") 337 := meth_of (look_at w 93 (fun K => methB K 354 (Str.ofString "make_voter") 337) rfl)
theorem m_344 (w : World) : MethOk (KK w) 354 (Str.ofString "make_learner") 344 := meth_of (look_at w 94 (fun K => methB K 354 (Str.ofString "make_learner") 344) rfl)
theorem m_351 (w : World) : MethOk (KK w) 354 (Str.ofString "remove") 351 := meth_of (look_at w 95 (fun K => methB K 354 (Str.ofString "remove") 351) rfl)
theorem keep_ok (w : World) : (keepL.all fun a => keepIn (KK w) (.ref a)) = true := look_at w 96 (fun K => keepL.all fun a => keepIn K (.ref a)) rfl
theorem nolist (w : World) : ((KK w).all fun q => q.2.cls != .type "list") = true := look_at w 97 (fun K => K.all fun q => q.2.cls != .type "list") rfl
/-- the text of a function: the i-th of the program, or the j-th of the i-th class -/
theorem texts (w : World) : ([70, 84, 91, 98, 117, 124, 131, 138, 150, 157, 164, 171, 185, 192, 199, 206, 213, 220, 227, 234, 241, 248, 262, 269, 274, 281, 295, 302, 309, 316, 323, 330, 337, 344, 351, 365, 374, 381, 386, 393, 398, 405, 410, 417, 422, 427, 434, 439] : List Addr).map (fun a => (bodyOf (KK w) a, (fdOf (KK w) a).scope.names)) = [fT 15, mT 16 0, mT 16 1, mT 16 2, mT 17 0, mT 17 1, mT 17 2, mT 17 3, fT 22, fT 23, fT 24, fT 25, mT 26 0, mT 26 1, mT 26 2, mT 26 3, mT 26 4, mT 26 5, mT 26 6, mT 26 7, mT 26 8, mT 26 9, fT 27, fT 28, fT 29, fT 30, mT 31 0, mT 31 1, mT 31 2, mT 31 3, mT 31 4, mT 31 5, mT 31 6, mT 31 7, mT 31 8, fT 32, fT 36, fT 37, fT 38, fT 39, fT 40, fT 41, fT 42, fT 43, fT 44, fT 45, fT 46, fT 47] := (looks_texts w).2
theorem text_at {α β : Type} {l : List α} {r : List β} {f : α → β} (h : l.map f = r) (i : Nat) {a : α} {b : β} (ha : l[i]? = some a) (hb : r[i]? = some b) : f a = b := by
  subst h
  rw [List.getElem?_map, ha] at hb
  exact Option.some.inj hb
theorem t_70 (w : World) : (bodyOf (KK w) 70, (fdOf (KK w) 70).scope.names) = fT 15 := text_at (f := fun a => (bodyOf (KK w) a, (fdOf (KK w) a).scope.names)) (texts w) 0 rfl rfl
theorem t_84 (w : World) : (bodyOf (KK w) 84, (fdOf (KK w) 84).scope.names) = mT 16 0 := text_at (f := fun a => (bodyOf (KK w) a, (fdOf (KK w) a).scope.names)) (texts w) 1 rfl rfl
theorem t_91 (w : World) : (bodyOf (KK w) 91, (fdOf (KK w) 91).scope.names) = mT 16 1 := text_at (f := fun a => (bodyOf (KK w) a, (fdOf (KK w) a).scope.names)) (texts w) 2 rfl rfl
theorem t_98 (w : World) : (bodyOf (KK w) 98, (fdOf (KK w) 98).scope.names) = mT 16 2 := text_at (f := fun a => (bodyOf (KK w) a, (fdOf (KK w) a).scope.names)) (texts w) 3 rfl rfl
theorem t_117 (w : World) : (bodyOf (KK w) 117, (fdOf (KK w) 117).scope.names) = mT 17 0 := text_at (f := fun a => (bodyOf (KK w) a, (fdOf (KK w) a).scope.names)) (texts w) 4 rfl rfl
theorem t_124 (w : World) : (bodyOf (KK w) 124, (fdOf (KK w) 124).scope.names) = mT 17 1 := text_at (f := fun a => (bodyOf (KK w) a, (fdOf (KK w) a).scope.names)) (texts w) 5 rfl rfl
theorem t_131 (w : World) : (bodyOf (KK w) 131, (fdOf (KK w) 131).scope.names) = mT 17 2 := text_at (f := fun a => (bodyOf (KK w) a, (fdOf (KK w) a).scope.names)) (texts w) 6 rfl rfl
theorem t_138 (w : World) : (bodyOf (KK w) 138, (fdOf (KK w) 138).scope.names) = mT 17 3 := text_at (f := fun a => (bodyOf (KK w) a, (fdOf (KK w) a).scope.names)) (texts w) 7 rfl rfl
theorem t_150 (w : World) : (bodyOf (KK w) 150, (fdOf (KK w) 150).scope.names) = fT 22 := text_at (f := fun a => (bodyOf (KK w) a, (fdOf (KK w) a).scope.names)) (texts w) 8 rfl rfl
theorem t_157 (w : World) : (bodyOf (KK w) 157, (fdOf (KK w) 157).scope.names) = fT 23 := text_at (f := fun a => (bodyOf (KK w) a, (fdOf (KK w) a).scope.names)) (texts w) 9 rfl rfl
theorem t_164 (w : World) : (bodyOf (KK w) 164, (fdOf (KK w) 164).scope.names) = fT 24 := text_at (f := fun a => (bodyOf (KK w) a, (fdOf (KK w) a).scope.names)) (texts w) 10 rfl rfl
theorem t_171 (w : World) : (bodyOf (KK w) 171, (fdOf (KK w) 171).scope.names) = fT 25 := text_at (f := fun a => (bodyOf (KK w) a, (fdOf (KK w) a).scope.names)) (texts w) 11 rfl rfl
theorem t_185 (w : World) : (bodyOf (KK w) 185, (fdOf (KK w) 185).scope.names) = mT 26 0 := text_at (f := fun a => (bodyOf (KK w) a, (fdOf (KK w) a).scope.names)) (texts w) 12 rfl rfl
theorem t_192 (w : World) : (bodyOf (KK w) 192, (fdOf (KK w) 192).scope.names) = mT 26 1 := text_at (f := fun a => (bodyOf (KK w) a, (fdOf (KK w) a).scope.names)) (texts w) 13 rfl rfl
theorem t_199 (w : World) : (bodyOf (KK w) 199, (fdOf (KK w) 199).scope.names) = mT 26 2 := text_at (f := fun a => (bodyOf (KK w) a, (fdOf (KK w) a).scope.names)) (texts w) 14 rfl rfl
theorem t_206 (w : World) : (bodyOf (KK w) 206, (fdOf (KK w) 206).scope.names) = mT 26 3 := text_at (f := fun a => (bodyOf (KK w) a, (fdOf (KK w) a).scope.names)) (texts w) 15 rfl rfl
theorem t_213 (w : World) : (bodyOf (KK w) 213, (fdOf (KK w) 213).scope.names) = mT 26 4 := text_at (f := fun a => (bodyOf (KK w) a, (fdOf (KK w) a).scope.names)) (texts w) 16 rfl rfl
theorem t_220 (w : World) : (bodyOf (KK w) 220, (fdOf (KK w) 220).scope.names) = mT 26 5 := text_at (f := fun a => (bodyOf (KK w) a, (fdOf (KK w) a).scope.names)) (texts w) 17 rfl rfl
theorem t_227 (w : World) : (bodyOf (KK w) 227, (fdOf (KK w) 227).scope.names) = mT 26 6 := text_at (f := fun a => (bodyOf (KK w) a, (fdOf (KK w) a).scope.names)) (texts w) 18 rfl rfl
theorem t_234 (w : World) : (bodyOf (KK w) 234, (fdOf (KK w) 234).scope.names) = mT 26 7 := text_at (f := fun a => (bodyOf (KK w) a, (fdOf (KK w) a).scope.names)) (texts w) 19 rfl rfl
theorem t_241 (w : World) : (bodyOf (KK w) 241, (fdOf (KK w) 241).scope.names) = mT 26 8 := text_at (f := fun a => (bodyOf (KK w) a, (fdOf (KK w) a).scope.names)) (texts w) 20 rfl rfl
theorem t_248 (w : World) : (bodyOf (KK w) 248, (fdOf (KK w) 248).scope.names) = mT 26 9 := text_at (f := fun a => (bodyOf (KK w) a, (fdOf (KK w) a).scope.names)) (texts w) 21 rfl rfl
theorem t_262 (w : World) : (bodyOf (KK w) 262, (fdOf (KK w) 262).scope.names) = fT 27 := text_at (f := fun a => (bodyOf (KK w) a, (fdOf (KK w) a).scope.names)) (texts w) 22 rfl rfl
theorem t_269 (w : World) : (bodyOf (KK w) 269, (fdOf (KK w) 269).scope.names) = fT 28 := text_at (f := fun a => (bodyOf (KK w) a, (fdOf (KK w) a).scope.names)) (texts w) 23 rfl rfl
theorem t_274 (w : World) : (bodyOf (KK w) 274, (fdOf (KK w) 274).scope.names) = fT 29 := text_at (f := fun a => (bodyOf (KK w) a, (fdOf (KK w) a).scope.names)) (texts w) 24 rfl rfl
theorem t_281 (w : World) : (bodyOf (KK w) 281, (fdOf (KK w) 281).scope.names) = fT 30 := text_at (f := fun a => (bodyOf (KK w) a, (fdOf (KK w) a).scope.names)) (texts w) 25 rfl rfl
theorem t_295 (w : World) : (bodyOf (KK w) 295, (fdOf (KK w) 295).scope.names) = mT 31 0 := text_at (f := fun a => (bodyOf (KK w) a, (fdOf (KK w) a).scope.names)) (texts w) 26 rfl rfl
theorem t_302 (w : World) : (bodyOf (KK w) 302, (fdOf (KK w) 302).scope.names) = mT 31 1 := text_at (f := fun a => (bodyOf (KK w) a, (fdOf (KK w) a).scope.names)) (texts w) 27 rfl rfl
theorem t_309 (w : World) : (bodyOf (KK w) 309, (fdOf (KK w) 309).scope.names) = mT 31 2 := text_at (f := fun a => (bodyOf (KK w) a, (fdOf (KK w) a).scope.names)) (texts w) 28 rfl rfl
theorem t_316 (w : World) : (bodyOf (KK w) 316, (fdOf (KK w) 316).scope.names) = mT 31 3 := text_at (f := fun a => (bodyOf (KK w) a, (fdOf (KK w) a).scope.names)) (texts w) 29 rfl rfl
theorem t_323 (w : World) : (bodyOf (KK w) 323, (fdOf (KK w) 323).scope.names) = mT 31 4 := text_at (f := fun a => (bodyOf (KK w) a, (fdOf (KK w) a).scope.names)) (texts w) 30 rfl rfl
theorem t_330 (w : World) : (bodyOf (KK w) 330, (fdOf (KK w) 330).scope.names) = mT 31 5 := text_at (f := fun a => (bodyOf (KK w) a, (fdOf (KK w) a).scope.names)) (texts w) 31 rfl rfl
theorem t_337 (w : World) : (bodyOf (KK w) 337, (fdOf (KK w) 337).scope.names) = mT 31 6 := text_at (f := fun a => (bodyOf (KK w) a, (fdOf (KK w) a).scope.names)) (texts w) 32 rfl rfl
theorem t_344 (w : World) : (bodyOf (KK w) 344, (fdOf (KK w) 344).scope.names) = mT 31 7 := text_at (f := fun a => (bodyOf (KK w) a, (fdOf (KK w) a).scope.names)) (texts w) 33 rfl rfl
theorem t_351 (w : World) : (bodyOf (KK w) 351, (fdOf (KK w) 351).scope.names) = mT 31 8 := text_at (f := fun a => (bodyOf (KK w) a, (fdOf (KK w) a).scope.names)) (texts w) 34 rfl rfl
theorem t_365 (w : World) : (bodyOf (KK w) 365, (fdOf (KK w) 365).scope.names) = fT 32 := text_at (f := fun a => (bodyOf (KK w) a, (fdOf (KK w) a).scope.names)) (texts w) 35 rfl rfl
theorem t_374 (w : World) : (bodyOf (KK w) 374, (fdOf (KK w) 374).scope.names) = fT 36 := text_at (f := fun a => (bodyOf (KK w) a, (fdOf (KK w) a).scope.names)) (texts w) 36 rfl rfl
theorem t_381 (w : World) : (bodyOf (KK w) 381, (fdOf (KK w) 381).scope.names) = fT 37 := text_at (f := fun a => (bodyOf (KK w) a, (fdOf (KK w) a).scope.names)) (texts w) 37 rfl rfl
theorem t_386 (w : World) : (bodyOf (KK w) 386, (fdOf (KK w) 386).scope.names) = fT 38 := text_at (f := fun a => (bodyOf (KK w) a, (fdOf (KK w) a).scope.names)) (texts w) 38 rfl rfl
theorem t_393 (w : World) : (bodyOf (KK w) 393, (fdOf (KK w) 393).scope.names) = fT 39 := text_at (f := fun a => (bodyOf (KK w) a, (fdOf (KK w) a).scope.names)) (texts w) 39 rfl rfl
theorem t_398 (w : World) : (bodyOf (KK w) 398, (fdOf (KK w) 398).scope.names) = fT 40 := text_at (f := fun a => (bodyOf (KK w) a, (fdOf (KK w) a).scope.names)) (texts w) 40 rfl rfl
theorem t_405 (w : World) : (bodyOf (KK w) 405, (fdOf (KK w) 405).scope.names) = fT 41 := text_at (f := fun a => (bodyOf (KK w) a, (fdOf (KK w) a).scope.names)) (texts w) 41 rfl rfl
theorem t_410 (w : World) : (bodyOf (KK w) 410, (fdOf (KK w) 410).scope.names) = fT 42 := text_at (f := fun a => (bodyOf (KK w) a, (fdOf (KK w) a).scope.names)) (texts w) 42 rfl rfl
theorem t_417 (w : World) : (bodyOf (KK w) 417, (fdOf (KK w) 417).scope.names) = fT 43 := text_at (f := fun a => (bodyOf (KK w) a, (fdOf (KK w) a).scope.names)) (texts w) 43 rfl rfl
theorem t_422 (w : World) : (bodyOf (KK w) 422, (fdOf (KK w) 422).scope.names) = fT 44 := text_at (f := fun a => (bodyOf (KK w) a, (fdOf (KK w) a).scope.names)) (texts w) 44 rfl rfl
theorem t_427 (w : World) : (bodyOf (KK w) 427, (fdOf (KK w) 427).scope.names) = fT 45 := text_at (f := fun a => (bodyOf (KK w) a, (fdOf (KK w) a).scope.names)) (texts w) 45 rfl rfl
theorem t_434 (w : World) : (bodyOf (KK w) 434, (fdOf (KK w) 434).scope.names) = fT 46 := text_at (f := fun a => (bodyOf (KK w) a, (fdOf (KK w) a).scope.names)) (texts w) 46 rfl rfl
theorem t_439 (w : World) : (bodyOf (KK w) 439, (fdOf (KK w) 439).scope.names) = fT 47 := text_at (f := fun a => (bodyOf (KK w) a, (fdOf (KK w) a).scope.names)) (texts w) 47 rfl rfl
noncomputable def PX (prog : Program) (w : World) (h₀ : Heap) : Px := ⟨prog, w, KK w, h₀, fun x => globL.lookup x, 49⟩
/-- the ground of everything -/
theorem px_ok {prog : Program} {w : World} {h : Heap} {p : Program} {loose : List Str} {mg mb : Str → Option Value} {mean : ExcName → Option Value} (X : (KK w).In h) (T : Top p loose mean mg mb h) (hi : importsNone p = true) : PxOk (PX prog w h) := by
  refine ⟨X, ⟨mg, mb, T.g, T.b, fun x av e => glob_sound X T.g T.builtins (glob_ok w) x av e⟩, ?_, ?_, ?_, ?_⟩
  · obtain ⟨mc, n, q⟩ := T.nolimit
    exact ⟨mc, n, q⟩
  · obtain ⟨mm, ⟨o', es, ep, e, hd', r⟩, _⟩ := (T.seer hi).mods
    exact ⟨o', e⟩
  · exact ⟨mg, own_of_in (x := Str.ofString "ConfRefused") X ⟨T.g, T.b, (by obtain ⟨mc, n, q⟩ := T.nolimit; exact ⟨mc, n, q⟩), T.builtins, T.free⟩ (exc_ns w) (exc_ok w)⟩
  · show globL.lookup (Str.ofString "ConfRefused") = some (.ref 49)
    kernel_rfl
noncomputable def q_70_2 (P : Px) (k : Nat) : CS := bCons (sRet (cSlot 1)) bNil
noncomputable def q_70_1b (P : Px) (k : Nat) : CS := bCons (sIf (tOr (tNot (tVal (cSlot 1))) (tCmp .NotEq (cSub (cSlot 1) (cVal (.int (-1)))) (cSlot 2))) (bCons (sExpr (cMeth P k (cSlot 1) (Str.ofString "append") (lCons (cSlot 2) lNil))) bNil) bNil) bNil
noncomputable def q_70_1 (P : Px) (k : Nat) : CS := bCons (sFor1 2 (cCall P k (cVal (.blt "sorted")) (lCons (cSlot 0) lNil)) (q_70_1b P k)) (q_70_2 P k)
noncomputable def q_70 (P : Px) (k : Nat) : CS := bCons (sAsg 1 (cLst lNil)) (q_70_1 P k)
noncomputable def q_84_4 (P : Px) (k : Nat) : CS := bCons (sSetA P (cSlot 5) (cSlot 0) (Str.ofString "auto_leave")) bNil
noncomputable def q_84_3 (P : Px) (k : Nat) : CS := bCons (sSetA P (cCall P k (cVal (.ref 70)) (lCons (cSlot 4) lNil)) (cSlot 0) (Str.ofString "learners_next")) (q_84_4 P k)
noncomputable def q_84_2 (P : Px) (k : Nat) : CS := bCons (sSetA P (cCall P k (cVal (.ref 70)) (lCons (cSlot 3) lNil)) (cSlot 0) (Str.ofString "outgoing")) (q_84_3 P k)
noncomputable def q_84_1 (P : Px) (k : Nat) : CS := bCons (sSetA P (cCall P k (cVal (.ref 70)) (lCons (cSlot 2) lNil)) (cSlot 0) (Str.ofString "learners")) (q_84_2 P k)
noncomputable def q_84 (P : Px) (k : Nat) : CS := bCons (sSetA P (cCall P k (cVal (.ref 70)) (lCons (cSlot 1) lNil)) (cSlot 0) (Str.ofString "voters")) (q_84_1 P k)
noncomputable def q_91 (P : Px) (k : Nat) : CS := bCons (sRet (cTup (lCons (cCall P k (cVal (.ty "tuple")) (lCons (cAttr P (cSlot 0) (Str.ofString "voters")) lNil)) (lCons (cCall P k (cVal (.ty "tuple")) (lCons (cAttr P (cSlot 0) (Str.ofString "learners")) lNil)) (lCons (cCall P k (cVal (.ty "tuple")) (lCons (cAttr P (cSlot 0) (Str.ofString "outgoing")) lNil)) (lCons (cCall P k (cVal (.ty "tuple")) (lCons (cAttr P (cSlot 0) (Str.ofString "learners_next")) lNil)) (lCons (cAttr P (cSlot 0) (Str.ofString "auto_leave")) lNil))))))) bNil
noncomputable def q_98 (P : Px) (k : Nat) : CS := bCons (sRet (cCall P k (cVal (.ref 101)) (lCons (cAttr P (cSlot 0) (Str.ofString "voters")) (lCons (cAttr P (cSlot 0) (Str.ofString "learners")) (lCons (cAttr P (cSlot 0) (Str.ofString "outgoing")) (lCons (cAttr P (cSlot 0) (Str.ofString "learners_next")) (lCons (cAttr P (cSlot 0) (Str.ofString "auto_leave")) lNil))))))) bNil
noncomputable def q_117_2 (P : Px) (k : Nat) : CS := bCons (sSetA P (cSlot 3) (cSlot 0) (Str.ofString "context")) bNil
noncomputable def q_117_1 (P : Px) (k : Nat) : CS := bCons (sSetA P (cComp (tg2 (Str.ofString "kind") (Str.ofString "nid")) (cSlot 2) (cTup (lCons (cSlot 1) (lCons (cSlot 0) lNil)))) (cSlot 0) (Str.ofString "changes")) (q_117_2 P k)
noncomputable def q_117 (P : Px) (k : Nat) : CS := bCons (sSetA P (cSlot 1) (cSlot 0) (Str.ofString "transition")) (q_117_1 P k)
noncomputable def q_124 (P : Px) (k : Nat) : CS := bCons (sRet (cTup (lCons (cAttr P (cSlot 0) (Str.ofString "transition")) (lCons (cCall P k (cVal (.ty "tuple")) (lCons (cAttr P (cSlot 0) (Str.ofString "changes")) lNil)) (lCons (cAttr P (cSlot 0) (Str.ofString "context")) lNil))))) bNil
noncomputable def q_131_2 (P : Px) (k : Nat) : CS := bCons (sRet (cTup (lCons (cCmp .NotEq (cAttr P (cSlot 0) (Str.ofString "transition")) (cVal (.int 2))) (lCons (cVal (.bool true)) lNil)))) bNil
noncomputable def q_131_1 (P : Px) (k : Nat) : CS := bCons (sIf (tAnd (tCmp .Eq (cAttr P (cSlot 0) (Str.ofString "transition")) (cVal (.int 0))) (tCmp .LtE (cCall P k (cVal (.blt "len")) (lCons (cAttr P (cSlot 0) (Str.ofString "changes")) lNil)) (cVal (.int 1)))) (bCons (sRet (cTup (lCons (cVal (.bool false)) (lCons (cVal (.bool false)) lNil)))) bNil) bNil) (q_131_2 P k)
noncomputable def q_131 (P : Px) (k : Nat) : CS := bCons (sIf (tCmp .NotIn (cAttr P (cSlot 0) (Str.ofString "transition")) (cTup (lCons (cVal (.int 0)) (lCons (cVal (.int 1)) (lCons (cVal (.int 2)) lNil))))) (bCons sNever bNil) bNil) (q_131_1 P k)
noncomputable def q_138 (P : Px) (k : Nat) : CS := bCons (sRet (cAnd (cCmp .Eq (cAttr P (cSlot 0) (Str.ofString "transition")) (cVal (.int 0))) (cNot (cAttr P (cSlot 0) (Str.ofString "changes"))))) bNil
noncomputable def q_150_2 (P : Px) (k : Nat) : CS := bCons (sRet (cSub (cSlot 2) (cBin .Sub (cCall P k (cVal (.blt "len")) (lCons (cSlot 2) lNil)) (cBin .Add (cBin .FloorDiv (cCall P k (cVal (.blt "len")) (lCons (cSlot 2) lNil)) (cVal (.int 2))) (cVal (.int 1)))))) bNil
noncomputable def q_150_1 (P : Px) (k : Nat) : CS := bCons (sAsg 2 (cCall P k (cVal (.blt "sorted")) (lCons (cComp (tg1 (Str.ofString "nid")) (cSlot 0) (cMeth P k (cSlot 2) (Str.ofString "get") (lCons (cSlot 0) (lCons (cVal (.int 0)) lNil)))) lNil))) (q_150_2 P k)
noncomputable def q_150 (P : Px) (k : Nat) : CS := bCons (sIf (tNot (tVal (cSlot 0))) (bCons (sRet (cVal (.int 18446744073709551615))) bNil) bNil) (q_150_1 P k)
noncomputable def q_157_7 (P : Px) (k : Nat) : CS := bCons (sRet (cVal (.int 2))) bNil
noncomputable def q_157_6 (P : Px) (k : Nat) : CS := bCons (sIf (tCmp .GtE (cBin .Add (cSlot 2) (cSlot 3)) (cSlot 5)) (bCons (sRet (cVal (.int 1))) bNil) bNil) (q_157_7 P k)
noncomputable def q_157_5 (P : Px) (k : Nat) : CS := bCons (sIf (tCmp .GtE (cSlot 2) (cSlot 5)) (bCons (sRet (cVal (.int 3))) bNil) bNil) (q_157_6 P k)
noncomputable def q_157_4 (P : Px) (k : Nat) : CS := bCons (sAsg 5 (cBin .Add (cBin .FloorDiv (cCall P k (cVal (.blt "len")) (lCons (cSlot 0) lNil)) (cVal (.int 2))) (cVal (.int 1)))) (q_157_5 P k)
noncomputable def q_157_3b (P : Px) (k : Nat) : CS := bCons (sIf (tCmp .NotIn (cSlot 4) (cSlot 1)) (bCons (sAug 3 (cVal (.int 1))) bNil) (bCons (sIf (tVal (cSub (cSlot 1) (cSlot 4))) (bCons (sAug 2 (cVal (.int 1))) bNil) bNil) bNil)) bNil
noncomputable def q_157_3 (P : Px) (k : Nat) : CS := bCons (sFor1 4 (cSlot 0) (q_157_3b P k)) (q_157_4 P k)
noncomputable def q_157_2 (P : Px) (k : Nat) : CS := bCons (sAsg 3 (cVal (.int 0))) (q_157_3 P k)
noncomputable def q_157_1 (P : Px) (k : Nat) : CS := bCons (sAsg 2 (cVal (.int 0))) (q_157_2 P k)
noncomputable def q_157 (P : Px) (k : Nat) : CS := bCons (sIf (tNot (tVal (cSlot 0))) (bCons (sRet (cVal (.int 3))) bNil) bNil) (q_157_1 P k)
noncomputable def q_164_3 (P : Px) (k : Nat) : CS := bCons (sRet (cSlot 4)) bNil
noncomputable def q_164_2 (P : Px) (k : Nat) : CS := bCons (sIf (tCmp .Lt (cSlot 3) (cSlot 4)) (bCons (sRet (cSlot 3)) bNil) bNil) (q_164_3 P k)
noncomputable def q_164_1 (P : Px) (k : Nat) : CS := bCons (sAsg 4 (cCall P k (cVal (.ref 150)) (lCons (cSlot 1) (lCons (cSlot 2) lNil)))) (q_164_2 P k)
noncomputable def q_164 (P : Px) (k : Nat) : CS := bCons (sAsg 3 (cCall P k (cVal (.ref 150)) (lCons (cSlot 0) (lCons (cSlot 2) lNil)))) (q_164_1 P k)
noncomputable def q_171_4 (P : Px) (k : Nat) : CS := bCons (sRet (cVal (.int 1))) bNil
noncomputable def q_171_3 (P : Px) (k : Nat) : CS := bCons (sIf (tOr (tCmp .Eq (cSlot 3) (cVal (.int 2))) (tCmp .Eq (cSlot 4) (cVal (.int 2)))) (bCons (sRet (cVal (.int 2))) bNil) bNil) (q_171_4 P k)
noncomputable def q_171_2 (P : Px) (k : Nat) : CS := bCons (sIf (tCmp .Eq (cSlot 3) (cSlot 4)) (bCons (sRet (cSlot 3)) bNil) bNil) (q_171_3 P k)
noncomputable def q_171_1 (P : Px) (k : Nat) : CS := bCons (sAsg 4 (cCall P k (cVal (.ref 157)) (lCons (cSlot 1) (lCons (cSlot 2) lNil)))) (q_171_2 P k)
noncomputable def q_171 (P : Px) (k : Nat) : CS := bCons (sAsg 3 (cCall P k (cVal (.ref 157)) (lCons (cSlot 0) (lCons (cSlot 2) lNil)))) (q_171_1 P k)
noncomputable def q_185_4 (P : Px) (k : Nat) : CS := bCons (sSetA P (cSlot 5) (cSlot 0) (Str.ofString "auto_leave")) bNil
noncomputable def q_185_3 (P : Px) (k : Nat) : CS := bCons (sSetA P (cCall P k (cVal (.ref 70)) (lCons (cSlot 4) lNil)) (cSlot 0) (Str.ofString "learners_next")) (q_185_4 P k)
noncomputable def q_185_2 (P : Px) (k : Nat) : CS := bCons (sSetA P (cCall P k (cVal (.ref 70)) (lCons (cSlot 3) lNil)) (cSlot 0) (Str.ofString "learners")) (q_185_3 P k)
noncomputable def q_185_1 (P : Px) (k : Nat) : CS := bCons (sSetA P (cCall P k (cVal (.ref 70)) (lCons (cSlot 2) lNil)) (cSlot 0) (Str.ofString "outgoing")) (q_185_2 P k)
noncomputable def q_185 (P : Px) (k : Nat) : CS := bCons (sSetA P (cCall P k (cVal (.ref 70)) (lCons (cSlot 1) lNil)) (cSlot 0) (Str.ofString "voters")) (q_185_1 P k)
noncomputable def q_192 (P : Px) (k : Nat) : CS := bCons (sRet (cTup (lCons (cCall P k (cVal (.ty "tuple")) (lCons (cAttr P (cSlot 0) (Str.ofString "voters")) lNil)) (lCons (cCall P k (cVal (.ty "tuple")) (lCons (cAttr P (cSlot 0) (Str.ofString "outgoing")) lNil)) (lCons (cCall P k (cVal (.ty "tuple")) (lCons (cAttr P (cSlot 0) (Str.ofString "learners")) lNil)) (lCons (cCall P k (cVal (.ty "tuple")) (lCons (cAttr P (cSlot 0) (Str.ofString "learners_next")) lNil)) (lCons (cAttr P (cSlot 0) (Str.ofString "auto_leave")) lNil))))))) bNil
noncomputable def q_199 (P : Px) (k : Nat) : CS := bCons (sRet (cCall P k (cVal (.ref 251)) (lCons (cAttr P (cSlot 0) (Str.ofString "voters")) (lCons (cAttr P (cSlot 0) (Str.ofString "outgoing")) (lCons (cAttr P (cSlot 0) (Str.ofString "learners")) (lCons (cAttr P (cSlot 0) (Str.ofString "learners_next")) (lCons (cAttr P (cSlot 0) (Str.ofString "auto_leave")) lNil))))))) bNil
noncomputable def q_206 (P : Px) (k : Nat) : CS := bCons (sRet (cCmp .Gt (cCall P k (cVal (.blt "len")) (lCons (cAttr P (cSlot 0) (Str.ofString "outgoing")) lNil)) (cVal (.int 0)))) bNil
noncomputable def q_213 (P : Px) (k : Nat) : CS := bCons (sRet (cCall P k (cVal (.ref 70)) (lCons (cBin .Add (cAttr P (cSlot 0) (Str.ofString "voters")) (cAttr P (cSlot 0) (Str.ofString "outgoing"))) lNil))) bNil
noncomputable def q_220 (P : Px) (k : Nat) : CS := bCons (sRet (cCall P k (cVal (.ref 70)) (lCons (cBin .Add (cBin .Add (cAttr P (cSlot 0) (Str.ofString "voters")) (cAttr P (cSlot 0) (Str.ofString "outgoing"))) (cAttr P (cSlot 0) (Str.ofString "learners"))) lNil))) bNil
noncomputable def q_227 (P : Px) (k : Nat) : CS := bCons (sRet (cCall P k (cVal (.ref 164)) (lCons (cAttr P (cSlot 0) (Str.ofString "voters")) (lCons (cAttr P (cSlot 0) (Str.ofString "outgoing")) (lCons (cSlot 1) lNil))))) bNil
noncomputable def q_234 (P : Px) (k : Nat) : CS := bCons (sRet (cCall P k (cVal (.ref 171)) (lCons (cAttr P (cSlot 0) (Str.ofString "voters")) (lCons (cAttr P (cSlot 0) (Str.ofString "outgoing")) (lCons (cSlot 1) lNil))))) bNil
noncomputable def q_241 (P : Px) (k : Nat) : CS := bCons (sRet (cCall P k (cVal (.ref 101)) (lCons (cAttr P (cSlot 0) (Str.ofString "voters")) (lCons (cAttr P (cSlot 0) (Str.ofString "learners")) (lCons (cAttr P (cSlot 0) (Str.ofString "outgoing")) (lCons (cAttr P (cSlot 0) (Str.ofString "learners_next")) (lCons (cAttr P (cSlot 0) (Str.ofString "auto_leave")) lNil))))))) bNil
noncomputable def q_248_3 (P : Px) (k : Nat) : CS := bCons (sIf (tNot (tVal (cMeth P k (cSlot 0) (Str.ofString "joint") lNil))) (bCons (sIf (tVal (cAttr P (cSlot 0) (Str.ofString "auto_leave"))) (bCons sNever bNil) bNil) bNil) bNil) bNil
noncomputable def q_248_2b_1 (P : Px) (k : Nat) : CS := bCons (sIf (tCmp .In (cSlot 1) (cAttr P (cSlot 0) (Str.ofString "outgoing"))) (bCons sNever bNil) bNil) bNil
noncomputable def q_248_2b (P : Px) (k : Nat) : CS := bCons (sIf (tCmp .In (cSlot 1) (cAttr P (cSlot 0) (Str.ofString "voters"))) (bCons sNever bNil) bNil) (q_248_2b_1 P k)
noncomputable def q_248_2 (P : Px) (k : Nat) : CS := bCons (sFor1 1 (cAttr P (cSlot 0) (Str.ofString "learners")) (q_248_2b P k)) (q_248_3 P k)
noncomputable def q_248_1b_2 (P : Px) (k : Nat) : CS := bCons (sIf (tCmp .In (cSlot 1) (cAttr P (cSlot 0) (Str.ofString "voters"))) (bCons sNever bNil) bNil) bNil
noncomputable def q_248_1b_1 (P : Px) (k : Nat) : CS := bCons (sIf (tCmp .In (cSlot 1) (cAttr P (cSlot 0) (Str.ofString "learners"))) (bCons sNever bNil) bNil) (q_248_1b_2 P k)
noncomputable def q_248_1b (P : Px) (k : Nat) : CS := bCons (sIf (tCmp .NotIn (cSlot 1) (cAttr P (cSlot 0) (Str.ofString "outgoing"))) (bCons sNever bNil) bNil) (q_248_1b_1 P k)
noncomputable def q_248_1 (P : Px) (k : Nat) : CS := bCons (sFor1 1 (cAttr P (cSlot 0) (Str.ofString "learners_next")) (q_248_1b P k)) (q_248_2 P k)
noncomputable def q_248 (P : Px) (k : Nat) : CS := bCons (sIf (tCmp .In (cVal (.int 0)) (cMeth P k (cSlot 0) (Str.ofString "members") lNil)) (bCons sNever bNil) bNil) (q_248_1 P k)
noncomputable def q_262_2 (P : Px) (k : Nat) : CS := bCons (sRet (cSlot 1)) bNil
noncomputable def q_262_1 (P : Px) (k : Nat) : CS := bCons (sExpr (cMeth P k (cSlot 1) (Str.ofString "check") lNil)) (q_262_2 P k)
noncomputable def q_262 (P : Px) (k : Nat) : CS := bCons (sAsg 1 (cCall P k (cVal (.ref 251)) (lCons (cAttr P (cSlot 0) (Str.ofString "voters")) (lCons (cAttr P (cSlot 0) (Str.ofString "outgoing")) (lCons (cAttr P (cSlot 0) (Str.ofString "learners")) (lCons (cAttr P (cSlot 0) (Str.ofString "learners_next")) (lCons (cAttr P (cSlot 0) (Str.ofString "auto_leave")) lNil))))))) (q_262_1 P k)
noncomputable def q_269 (P : Px) (k : Nat) : CS := bCons (sRet (cCall P k (cVal (.ref 70)) (lCons (cBin .Add (cSlot 0) (cLst (lCons (cSlot 1) lNil))) lNil))) bNil
noncomputable def q_274 (P : Px) (k : Nat) : CS := bCons (sRet (cCompIf (tg1 (Str.ofString "each")) (cSlot 0) (tCmp .NotEq (cSlot 0) (cSlot 2)) (cSlot 0))) bNil
noncomputable def q_281_3 (P : Px) (k : Nat) : CS := bCons (sRet (cSlot 2)) bNil
noncomputable def q_281_2b (P : Px) (k : Nat) : CS := bCons (sIf (tCmp .NotIn (cSlot 3) (cSlot 0)) (bCons (sAug 2 (cVal (.int 1))) bNil) bNil) bNil
noncomputable def q_281_2 (P : Px) (k : Nat) : CS := bCons (sFor1 3 (cSlot 1) (q_281_2b P k)) (q_281_3 P k)
noncomputable def q_281_1b (P : Px) (k : Nat) : CS := bCons (sIf (tCmp .NotIn (cSlot 3) (cSlot 1)) (bCons (sAug 2 (cVal (.int 1))) bNil) bNil) bNil
noncomputable def q_281_1 (P : Px) (k : Nat) : CS := bCons (sFor1 3 (cSlot 0) (q_281_1b P k)) (q_281_2 P k)
noncomputable def q_281 (P : Px) (k : Nat) : CS := bCons (sAsg 2 (cVal (.int 0))) (q_281_1 P k)
noncomputable def q_295 (P : Px) (k : Nat) : CS := bCons (sSetA P (cSlot 1) (cSlot 0) (Str.ofString "config")) bNil
noncomputable def q_302_7 (P : Px) (k : Nat) : CS := bCons (sRet (cSlot 3)) bNil
noncomputable def q_302_6 (P : Px) (k : Nat) : CS := bCons (sExpr (cMeth P k (cSlot 3) (Str.ofString "check") lNil)) (q_302_7 P k)
noncomputable def q_302_5 (P : Px) (k : Nat) : CS := bCons (sSetA P (cSlot 1) (cSlot 3) (Str.ofString "auto_leave")) (q_302_6 P k)
noncomputable def q_302_4 (P : Px) (k : Nat) : CS := bCons (sExpr (cMeth P k (cSlot 0) (Str.ofString "do_changes") (lCons (cSlot 3) (lCons (cSlot 2) lNil)))) (q_302_5 P k)
noncomputable def q_302_3 (P : Px) (k : Nat) : CS := bCons (sSetA P (cCall P k (cVal (.ref 70)) (lCons (cAttr P (cSlot 3) (Str.ofString "voters")) lNil)) (cSlot 3) (Str.ofString "outgoing")) (q_302_4 P k)
noncomputable def q_302_2 (P : Px) (k : Nat) : CS := bCons (sIf (tNot (tVal (cAttr P (cSlot 3) (Str.ofString "voters")))) (bCons (sRaise cStr) bNil) bNil) (q_302_3 P k)
noncomputable def q_302_1 (P : Px) (k : Nat) : CS := bCons (sIf (tVal (cMeth P k (cSlot 3) (Str.ofString "joint") lNil)) (bCons (sRaise cStr) bNil) bNil) (q_302_2 P k)
noncomputable def q_302 (P : Px) (k : Nat) : CS := bCons (sAsg 3 (cMeth P k (cSlot 0) (Str.ofString "checked_copy") lNil)) (q_302_1 P k)
noncomputable def q_309_8 (P : Px) (k : Nat) : CS := bCons (sRet (cSlot 1)) bNil
noncomputable def q_309_7 (P : Px) (k : Nat) : CS := bCons (sExpr (cMeth P k (cSlot 1) (Str.ofString "check") lNil)) (q_309_8 P k)
noncomputable def q_309_6 (P : Px) (k : Nat) : CS := bCons (sIf (tNot (tVal (cAttr P (cSlot 1) (Str.ofString "voters")))) (bCons (sRaise cStr) bNil) bNil) (q_309_7 P k)
noncomputable def q_309_5 (P : Px) (k : Nat) : CS := bCons (sSetA P (cVal (.bool false)) (cSlot 1) (Str.ofString "auto_leave")) (q_309_6 P k)
noncomputable def q_309_4 (P : Px) (k : Nat) : CS := bCons (sSetA P (cLst lNil) (cSlot 1) (Str.ofString "outgoing")) (q_309_5 P k)
noncomputable def q_309_3 (P : Px) (k : Nat) : CS := bCons (sSetA P (cLst lNil) (cSlot 1) (Str.ofString "learners_next")) (q_309_4 P k)
noncomputable def q_309_2 (P : Px) (k : Nat) : CS := bCons (sSetA P (cCall P k (cVal (.ref 70)) (lCons (cBin .Add (cAttr P (cSlot 1) (Str.ofString "learners")) (cAttr P (cSlot 1) (Str.ofString "learners_next"))) lNil)) (cSlot 1) (Str.ofString "learners")) (q_309_3 P k)
noncomputable def q_309_1 (P : Px) (k : Nat) : CS := bCons (sIf (tNot (tVal (cMeth P k (cSlot 1) (Str.ofString "joint") lNil))) (bCons (sRaise cStr) bNil) bNil) (q_309_2 P k)
noncomputable def q_309 (P : Px) (k : Nat) : CS := bCons (sAsg 1 (cMeth P k (cSlot 0) (Str.ofString "checked_copy") lNil)) (q_309_1 P k)
noncomputable def q_316_6 (P : Px) (k : Nat) : CS := bCons (sRet (cSlot 2)) bNil
noncomputable def q_316_5 (P : Px) (k : Nat) : CS := bCons (sExpr (cMeth P k (cSlot 2) (Str.ofString "check") lNil)) (q_316_6 P k)
noncomputable def q_316_4 (P : Px) (k : Nat) : CS := bCons (sIf (tCmp .Gt (cCall P k (cVal (.ref 281)) (lCons (cAttr P (cAttr P (cSlot 0) (Str.ofString "config")) (Str.ofString "voters")) (lCons (cAttr P (cSlot 2) (Str.ofString "voters")) lNil))) (cVal (.int 1))) (bCons (sRaise cStr) bNil) bNil) (q_316_5 P k)
noncomputable def q_316_3 (P : Px) (k : Nat) : CS := bCons (sExpr (cMeth P k (cSlot 0) (Str.ofString "do_changes") (lCons (cSlot 2) (lCons (cSlot 1) lNil)))) (q_316_4 P k)
noncomputable def q_316_2 (P : Px) (k : Nat) : CS := bCons (sIf (tNot (tVal (cAttr P (cSlot 2) (Str.ofString "voters")))) (bCons (sRaise cStr) bNil) bNil) (q_316_3 P k)
noncomputable def q_316_1 (P : Px) (k : Nat) : CS := bCons (sIf (tVal (cMeth P k (cSlot 2) (Str.ofString "joint") lNil)) (bCons (sRaise cStr) bNil) bNil) (q_316_2 P k)
noncomputable def q_316 (P : Px) (k : Nat) : CS := bCons (sAsg 2 (cMeth P k (cSlot 0) (Str.ofString "checked_copy") lNil)) (q_316_1 P k)
noncomputable def q_323_1 (P : Px) (k : Nat) : CS := bCons (sRet (cMeth P k (cAttr P (cSlot 0) (Str.ofString "config")) (Str.ofString "copy") lNil)) bNil
noncomputable def q_323 (P : Px) (k : Nat) : CS := bCons (sExpr (cMeth P k (cAttr P (cSlot 0) (Str.ofString "config")) (Str.ofString "check") lNil)) (q_323_1 P k)
noncomputable def q_330_1 (P : Px) (k : Nat) : CS := bCons (sIf (tNot (tVal (cAttr P (cSlot 1) (Str.ofString "voters")))) (bCons (sRaise cStr) bNil) bNil) bNil
noncomputable def q_330_0b_1 (P : Px) (k : Nat) : CS := bCons (sIf (tCmp .Eq (cSlot 3) (cVal (.int 0))) (bCons (sExpr (cMeth P k (cSlot 0) (Str.ofString "make_voter") (lCons (cSlot 1) (lCons (cSlot 4) lNil)))) bNil) (bCons (sIf (tCmp .Eq (cSlot 3) (cVal (.int 3))) (bCons (sExpr (cMeth P k (cSlot 0) (Str.ofString "make_learner") (lCons (cSlot 1) (lCons (cSlot 4) lNil)))) bNil) (bCons (sIf (tCmp .Eq (cSlot 3) (cVal (.int 1))) (bCons (sExpr (cMeth P k (cSlot 0) (Str.ofString "remove") (lCons (cSlot 1) (lCons (cSlot 4) lNil)))) bNil) (bCons (sIf (tCmp .NotEq (cSlot 3) (cVal (.int 2))) (bCons (sRaise (cFstr (cSlot 3))) bNil) bNil) bNil)) bNil)) bNil)) bNil
noncomputable def q_330_0b (P : Px) (k : Nat) : CS := bCons (sIf (tCmp .Eq (cSlot 4) (cVal (.int 0))) (bCons sCont bNil) bNil) (q_330_0b_1 P k)
noncomputable def q_330 (P : Px) (k : Nat) : CS := bCons (sFor2 3 4 (cSlot 2) (q_330_0b P k)) (q_330_1 P k)
noncomputable def q_337_2 (P : Px) (k : Nat) : CS := bCons (sSetA P (cCall P k (cVal (.ref 269)) (lCons (cAttr P (cSlot 1) (Str.ofString "voters")) (lCons (cSlot 2) lNil))) (cSlot 1) (Str.ofString "voters")) bNil
noncomputable def q_337_1 (P : Px) (k : Nat) : CS := bCons (sSetA P (cCall P k (cVal (.ref 274)) (lCons (cAttr P (cSlot 1) (Str.ofString "learners_next")) (lCons (cSlot 2) lNil))) (cSlot 1) (Str.ofString "learners_next")) (q_337_2 P k)
noncomputable def q_337 (P : Px) (k : Nat) : CS := bCons (sSetA P (cCall P k (cVal (.ref 274)) (lCons (cAttr P (cSlot 1) (Str.ofString "learners")) (lCons (cSlot 2) lNil))) (cSlot 1) (Str.ofString "learners")) (q_337_1 P k)
noncomputable def q_344_2 (P : Px) (k : Nat) : CS := bCons (sIf (tCmp .In (cSlot 2) (cAttr P (cSlot 1) (Str.ofString "outgoing"))) (bCons (sSetA P (cCall P k (cVal (.ref 269)) (lCons (cAttr P (cSlot 1) (Str.ofString "learners_next")) (lCons (cSlot 2) lNil))) (cSlot 1) (Str.ofString "learners_next")) bNil) (bCons (sSetA P (cCall P k (cVal (.ref 269)) (lCons (cAttr P (cSlot 1) (Str.ofString "learners")) (lCons (cSlot 2) lNil))) (cSlot 1) (Str.ofString "learners")) bNil)) bNil
noncomputable def q_344_1 (P : Px) (k : Nat) : CS := bCons (sExpr (cMeth P k (cSlot 0) (Str.ofString "remove") (lCons (cSlot 1) (lCons (cSlot 2) lNil)))) (q_344_2 P k)
noncomputable def q_344 (P : Px) (k : Nat) : CS := bCons (sIf (tCmp .In (cSlot 2) (cAttr P (cSlot 1) (Str.ofString "learners"))) (bCons sRetN bNil) bNil) (q_344_1 P k)
noncomputable def q_351_2 (P : Px) (k : Nat) : CS := bCons (sSetA P (cCall P k (cVal (.ref 274)) (lCons (cAttr P (cSlot 1) (Str.ofString "learners_next")) (lCons (cSlot 2) lNil))) (cSlot 1) (Str.ofString "learners_next")) bNil
noncomputable def q_351_1 (P : Px) (k : Nat) : CS := bCons (sSetA P (cCall P k (cVal (.ref 274)) (lCons (cAttr P (cSlot 1) (Str.ofString "learners")) (lCons (cSlot 2) lNil))) (cSlot 1) (Str.ofString "learners")) (q_351_2 P k)
noncomputable def q_351 (P : Px) (k : Nat) : CS := bCons (sSetA P (cCall P k (cVal (.ref 274)) (lCons (cAttr P (cSlot 1) (Str.ofString "voters")) (lCons (cSlot 2) lNil))) (cSlot 1) (Str.ofString "voters")) (q_351_1 P k)
noncomputable def q_365_4 (P : Px) (k : Nat) : CS := bCons (sRet (cMeth P k (cSlot 2) (Str.ofString "simple") (lCons (cAttr P (cSlot 1) (Str.ofString "changes")) lNil))) bNil
noncomputable def q_365_3 (P : Px) (k : Nat) : CS := bCons (sIf (tVal (cSlot 4)) (bCons (sRet (cMeth P k (cSlot 2) (Str.ofString "enter_joint") (lCons (cSlot 3) (lCons (cAttr P (cSlot 1) (Str.ofString "changes")) lNil)))) bNil) bNil) (q_365_4 P k)
noncomputable def q_365_2 (P : Px) (k : Nat) : CS := bCons (sAsg2 3 4 (cMeth P k (cSlot 1) (Str.ofString "enter_joint") lNil)) (q_365_3 P k)
noncomputable def q_365_1 (P : Px) (k : Nat) : CS := bCons (sIf (tVal (cMeth P k (cSlot 1) (Str.ofString "leave_joint") lNil)) (bCons (sRet (cMeth P k (cSlot 2) (Str.ofString "leave_joint") lNil)) bNil) bNil) (q_365_2 P k)
noncomputable def q_365 (P : Px) (k : Nat) : CS := bCons (sAsg 2 (cCall P k (cVal (.ref 354)) (lCons (cSlot 0) lNil))) (q_365_1 P k)
noncomputable def q_374 (P : Px) (k : Nat) : CS := bCons (sRet (cBin .Add (cSub (cSlot 0) (cBin .Mod (cSlot 1) (cCall P k (cVal (.blt "len")) (lCons (cSlot 0) lNil)))) (cBin .Mult (cVal (.int 7919)) (cBin .FloorDiv (cSlot 1) (cCall P k (cVal (.blt "len")) (lCons (cSlot 0) lNil)))))) bNil
noncomputable def q_381_5 (P : Px) (k : Nat) : CS := bCons (sRet (cTup (lCons (cCall P k (cVal (.ty "tuple")) (lCons (cSlot 3) lNil)) (lCons (cCall P k (cVal (.ty "tuple")) (lCons (cSlot 4) lNil)) (lCons (cAnd (cCmp .In (cVal (.int 1)) (cSlot 4)) (cCmp .Eq (cBin .Mod (cBin .FloorDiv (cSlot 0) (cVal (.int 98304))) (cVal (.int 2))) (cVal (.int 1)))) lNil))))) bNil
noncomputable def q_381_4b_2 (P : Px) (k : Nat) : CS := bCons (sSetI (cSub (cSlot 6) (cVal (.int 1))) (cSlot 4) (cSlot 5)) bNil
noncomputable def q_381_4b_1 (P : Px) (k : Nat) : CS := bCons (sSetI (cSub (cSlot 6) (cVal (.int 0))) (cSlot 3) (cSlot 5)) (q_381_4b_2 P k)
noncomputable def q_381_4b (P : Px) (k : Nat) : CS := bCons (sAsg 6 (cSub (cSlot 2) (cBin .Mod (cBin .FloorDiv (cSlot 0) (cBin .Pow (cVal (.int 8)) (cBin .Sub (cSlot 5) (cVal (.int 1))))) (cVal (.int 8))))) (q_381_4b_1 P k)
noncomputable def q_381_4 (P : Px) (k : Nat) : CS := bCons (sFor1 5 (cCall P k (cVal (.ty "range")) (lCons (cVal (.int 1)) (lCons (cBin .Add (cVal (.int 4)) (cBin .Mod (cBin .FloorDiv (cSlot 0) (cVal (.int 32768))) (cVal (.int 3)))) lNil))) (q_381_4b P k)) (q_381_5 P k)
noncomputable def q_381_3 (P : Px) (k : Nat) : CS := bCons (sAsg 4 (cLst (lCons (cVal (.int 0)) (lCons (cVal (.int 0)) (lCons (cVal (.int 0)) (lCons (cVal (.int 0)) (lCons (cVal (.int 0)) (lCons (cVal (.int 0)) (lCons (cVal (.int 0)) lNil))))))))) (q_381_4 P k)
noncomputable def q_381_2 (P : Px) (k : Nat) : CS := bCons (sAsg 3 (cLst (lCons (cVal (.int 0)) (lCons (cVal (.int 0)) (lCons (cVal (.int 0)) (lCons (cVal (.int 0)) (lCons (cVal (.int 0)) (lCons (cVal (.int 0)) (lCons (cVal (.int 0)) lNil))))))))) (q_381_3 P k)
noncomputable def q_381_1 (P : Px) (k : Nat) : CS := bCons (sIf (tVal (cSlot 1)) (bCons (sAsg 2 (cTup (lCons (cTup (lCons (cVal (.int 1)) (lCons (cVal (.int 1)) lNil))) (lCons (cTup (lCons (cVal (.int 0)) (lCons (cVal (.int 1)) lNil))) (lCons (cTup (lCons (cVal (.int 1)) (lCons (cVal (.int 0)) lNil))) (lCons (cTup (lCons (cVal (.int 3)) (lCons (cVal (.int 1)) lNil))) (lCons (cTup (lCons (cVal (.int 2)) (lCons (cVal (.int 0)) lNil))) (lCons (cTup (lCons (cVal (.int 1)) (lCons (cVal (.int 1)) lNil))) (lCons (cTup (lCons (cVal (.int 0)) (lCons (cVal (.int 0)) lNil))) (lCons (cTup (lCons (cVal (.int 1)) (lCons (cVal (.int 0)) lNil))) lNil)))))))))) bNil) bNil) (q_381_2 P k)
noncomputable def q_381 (P : Px) (k : Nat) : CS := bCons (sAsg 2 (cTup (lCons (cTup (lCons (cVal (.int 1)) (lCons (cVal (.int 0)) lNil))) (lCons (cTup (lCons (cVal (.int 2)) (lCons (cVal (.int 0)) lNil))) (lCons (cTup (lCons (cVal (.int 1)) (lCons (cVal (.int 0)) lNil))) (lCons (cTup (lCons (cVal (.int 0)) (lCons (cVal (.int 0)) lNil))) (lCons (cTup (lCons (cVal (.int 1)) (lCons (cVal (.int 0)) lNil))) (lCons (cTup (lCons (cVal (.int 1)) (lCons (cVal (.int 0)) lNil))) (lCons (cTup (lCons (cVal (.int 2)) (lCons (cVal (.int 0)) lNil))) (lCons (cTup (lCons (cVal (.int 1)) (lCons (cVal (.int 0)) lNil))) lNil)))))))))) (q_381_1 P k)
noncomputable def q_386_1 (P : Px) (k : Nat) : CS := bCons (sRet (cTup (lCons (cCall P k (cVal (.ty "tuple")) (lCons (cCompIf (tg1 (Str.ofString "i")) (cVal (.tup [.int 1, .int 2, .int 3, .int 4, .int 5, .int 6])) (tCmp .Eq (cSub (cSlot 2) (cSlot 0)) (cVal (.int 1))) (cSlot 0)) lNil)) (lCons (cCall P k (cVal (.ty "tuple")) (lCons (cCompIf (tg1 (Str.ofString "i")) (cVal (.tup [.int 1, .int 2, .int 3, .int 4, .int 5, .int 6])) (tCmp .Eq (cSub (cSlot 3) (cSlot 0)) (cVal (.int 1))) (cSlot 0)) lNil)) (lCons (cCall P k (cVal (.ty "tuple")) (lCons (cCompIf (tg1 (Str.ofString "i")) (cVal (.tup [.int 1, .int 2, .int 3, .int 4, .int 5, .int 6])) (tCmp .Eq (cSub (cSlot 2) (cSlot 0)) (cVal (.int 2))) (cSlot 0)) lNil)) (lCons (cCall P k (cVal (.ty "tuple")) (lCons (cCompIf (tg1 (Str.ofString "i")) (cVal (.tup [.int 1, .int 2, .int 3, .int 4, .int 5, .int 6])) (tCmp .Eq (cSub (cSlot 2) (cSlot 0)) (cVal (.int 3))) (cSlot 0)) lNil)) (lCons (cSlot 3) lNil))))))) bNil
noncomputable def q_386 (P : Px) (k : Nat) : CS := bCons (sAsg3 1 2 3 (cSlot 0)) (q_386_1 P k)
noncomputable def q_393_3 (P : Px) (k : Nat) : CS := bCons (sRet (cSlot 1)) bNil
noncomputable def q_393_2b_2 (P : Px) (k : Nat) : CS := bCons (sAsg 2 (cBin .FloorDiv (cSlot 2) (cVal (.int 56)))) bNil
noncomputable def q_393_2b_1 (P : Px) (k : Nat) : CS := bCons (sExpr (cMeth P k (cSlot 1) (Str.ofString "append") (lCons (cTup (lCons (cSub (cVal (.tup [.int 0, .int 1, .int 3, .int 0, .int 3, .int 1, .int 4, .int 2])) (cBin .Mod (cSlot 4) (cVal (.int 8)))) (lCons (cBin .Mod (cBin .Add (cBin .Add (cBin .FloorDiv (cSlot 4) (cVal (.int 8))) (cSlot 4)) (cVal (.int 1))) (cVal (.int 7))) lNil))) lNil))) (q_393_2b_2 P k)
noncomputable def q_393_2b (P : Px) (k : Nat) : CS := bCons (sAsg 4 (cBin .Mod (cSlot 2) (cVal (.int 56)))) (q_393_2b_1 P k)
noncomputable def q_393_2 (P : Px) (k : Nat) : CS := bCons (sFor1 3 (cCall P k (cVal (.ty "range")) (lCons (cBin .Mod (cSlot 0) (cVal (.int 4))) lNil)) (q_393_2b P k)) (q_393_3 P k)
noncomputable def q_393_1 (P : Px) (k : Nat) : CS := bCons (sAsg 2 (cBin .FloorDiv (cSlot 0) (cVal (.int 4)))) (q_393_2 P k)
noncomputable def q_393 (P : Px) (k : Nat) : CS := bCons (sAsg 1 (cLst lNil)) (q_393_1 P k)
noncomputable def q_398_9 (P : Px) (k : Nat) : CS := bCons (sRet (cTup (lCons (cCall P k (cVal (.ty "tuple")) (lCons (cSlot 8) lNil)) (lCons (cSlot 7) (lCons (cAnd (cCmp .Eq (cSlot 1) (cVal (.int 1))) (cSlot 2)) lNil))))) bNil
noncomputable def q_398_8 (P : Px) (k : Nat) : CS := bCons (sIf (tOr (tCmp .NotIn (cVal (.int 1)) (cSlot 8)) (tAnd (tCmp .Eq (cSlot 1) (cVal (.int 0))) (tCmp .Gt (cSlot 9) (cVal (.int 1))))) (bCons (sRet (cVal .none)) bNil) bNil) (q_398_9 P k)
noncomputable def q_398_7b_5 (P : Px) (k : Nat) : CS := bCons (sIf (tCmp .NotEq (cCmp .Eq (cSlot 12) (cVal (.int 1))) (cCmp .Eq (cSub (cSlot 4) (cSlot 10)) (cVal (.int 1)))) (bCons (sAug 9 (cVal (.int 1))) bNil) bNil) bNil
noncomputable def q_398_7b_4 (P : Px) (k : Nat) : CS := bCons (sExpr (cMeth P k (cSlot 8) (Str.ofString "append") (lCons (cSlot 12) lNil))) (q_398_7b_5 P k)
noncomputable def q_398_7b_3 (P : Px) (k : Nat) : CS := bCons (sIf (tCmp .Gt (cCall P k (cVal (.blt "len")) (lCons (cSlot 11) lNil)) (cVal (.int 0))) (bCons (sAsg 12 (cSub (cTup (lCons (cVal (.int 1)) (lCons (cVal (.int 0)) (lCons (cVal (.int 0)) (lCons (cBin .Add (cVal (.int 2)) (cSub (cSlot 7) (cSlot 10))) lNil))))) (cSub (cSlot 11) (cVal (.int (-1)))))) bNil) bNil) (q_398_7b_4 P k)
noncomputable def q_398_7b_2 (P : Px) (k : Nat) : CS := bCons (sIf (tCmp .In (cVal (.int 4)) (cSlot 11)) (bCons (sRet (cVal .none)) bNil) bNil) (q_398_7b_3 P k)
noncomputable def q_398_7b_1 (P : Px) (k : Nat) : CS := bCons (sAsg 12 (cSub (cSlot 4) (cSlot 10))) (q_398_7b_2 P k)
noncomputable def q_398_7b (P : Px) (k : Nat) : CS := bCons (sAsg 11 (cCompIf (tg1 (Str.ofString "step")) (cSlot 3) (tAnd (tCmp .Eq (cSub (cSlot 0) (cVal (.int 1))) (cSlot 11)) (tCmp .NotEq (cSub (cSlot 0) (cVal (.int 0))) (cVal (.int 2)))) (cSub (cSlot 0) (cVal (.int 0))))) (q_398_7b_1 P k)
noncomputable def q_398_7 (P : Px) (k : Nat) : CS := bCons (sFor1 10 (cVal (.tup [.int 1, .int 2, .int 3, .int 4, .int 5, .int 6])) (q_398_7b P k)) (q_398_8 P k)
noncomputable def q_398_6 (P : Px) (k : Nat) : CS := bCons (sAsg 9 (cVal (.int 0))) (q_398_7 P k)
noncomputable def q_398_5 (P : Px) (k : Nat) : CS := bCons (sAsg 8 (cLst (lCons (cVal (.int 0)) lNil))) (q_398_6 P k)
noncomputable def q_398_4 (P : Px) (k : Nat) : CS := bCons (sIf (tCmp .Eq (cSlot 1) (cVal (.int 1))) (bCons (sAsg 7 (cCall P k (cVal (.ty "tuple")) (lCons (cComp (tg1 (Str.ofString "r")) (cSlot 4) (cSub (cTup (lCons (cVal (.int 0)) (lCons (cVal (.int 1)) (lCons (cVal (.int 0)) (lCons (cVal (.int 0)) lNil))))) (cSlot 0))) lNil))) bNil) bNil) (q_398_5 P k)
noncomputable def q_398_3 (P : Px) (k : Nat) : CS := bCons (sAsg 7 (cSlot 5)) (q_398_4 P k)
noncomputable def q_398_2 (P : Px) (k : Nat) : CS := bCons (sIf (tCmp .Eq (cSlot 1) (cVal (.int 2))) (bCons (sRet (cTup (lCons (cCall P k (cVal (.ty "tuple")) (lCons (cComp (tg1 (Str.ofString "r")) (cSlot 4) (cSub (cTup (lCons (cVal (.int 0)) (lCons (cVal (.int 1)) (lCons (cVal (.int 2)) (lCons (cVal (.int 2)) lNil))))) (cSlot 0))) lNil)) (lCons (cTup (lCons (cVal (.int 0)) (lCons (cVal (.int 0)) (lCons (cVal (.int 0)) (lCons (cVal (.int 0)) (lCons (cVal (.int 0)) (lCons (cVal (.int 0)) (lCons (cVal (.int 0)) lNil)))))))) (lCons (cVal (.bool false)) lNil))))) bNil) bNil) (q_398_3 P k)
noncomputable def q_398_1 (P : Px) (k : Nat) : CS := bCons (sIf (tOr (tCmp .NotIn (cVal (.int 1)) (cSlot 4)) (tCmp .NotEq (cCmp .In (cVal (.int 1)) (cSlot 5)) (cCmp .Eq (cSlot 1) (cVal (.int 2))))) (bCons (sRet (cVal .none)) bNil) bNil) (q_398_2 P k)
noncomputable def q_398 (P : Px) (k : Nat) : CS := bCons (sAsg3 4 5 6 (cSlot 0)) (q_398_1 P k)
noncomputable def q_405_3 (P : Px) (k : Nat) : CS := bCons (sRet (cTup (lCons (cSlot 1) (lCons (cSlot 2) lNil)))) bNil
noncomputable def q_405_2b_3 (P : Px) (k : Nat) : CS := bCons (sIf (tCmp .GtE (cSlot 5) (cVal (.int 0))) (bCons (sSetI (cSlot 5) (cSlot 2) (cSlot 3)) bNil) bNil) bNil
noncomputable def q_405_2b_2 (P : Px) (k : Nat) : CS := bCons (sIf (tCmp .Lt (cSlot 4) (cVal (.int 2))) (bCons (sSetI (cCmp .Eq (cSlot 4) (cVal (.int 0))) (cSlot 1) (cSlot 3)) bNil) bNil) (q_405_2b_3 P k)
noncomputable def q_405_2b_1 (P : Px) (k : Nat) : CS := bCons (sAsg 5 (cSub (cTup (lCons (cVal (.int 6)) (lCons (cVal (.int (-1))) (lCons (cVal (.int 0)) (lCons (cVal (.int 300)) (lCons (cVal (.int 8589934592)) lNil)))))) (cBin .Mod (cBin .FloorDiv (cSlot 0) (cBin .Pow (cVal (.int 5)) (cBin .Sub (cSlot 3) (cVal (.int 1))))) (cVal (.int 5))))) (q_405_2b_2 P k)
noncomputable def q_405_2b (P : Px) (k : Nat) : CS := bCons (sAsg 4 (cBin .Mod (cBin .FloorDiv (cSlot 0) (cBin .Pow (cVal (.int 3)) (cBin .Sub (cSlot 3) (cVal (.int 1))))) (cVal (.int 3)))) (q_405_2b_1 P k)
noncomputable def q_405_2 (P : Px) (k : Nat) : CS := bCons (sFor1 3 (cCall P k (cVal (.ty "range")) (lCons (cVal (.int 1)) (lCons (cVal (.int 8)) lNil))) (q_405_2b P k)) (q_405_3 P k)
noncomputable def q_405_1 (P : Px) (k : Nat) : CS := bCons (sAsg 2 cDict) (q_405_2 P k)
noncomputable def q_405 (P : Px) (k : Nat) : CS := bCons (sAsg 1 cDict) (q_405_1 P k)
noncomputable def q_410_1 (P : Px) (k : Nat) : CS := bCons (sRet (cVal (.bool true))) bNil
noncomputable def q_410_0b_1 (P : Px) (k : Nat) : CS := bCons (sIf (tCmp .LtE (cBin .Mult (cVal (.int 2)) (cCall P k (cVal (.blt "len")) (lCons (cSlot 4) lNil))) (cCall P k (cVal (.blt "len")) (lCons (cSlot 3) lNil))) (bCons (sRet (cVal (.bool false))) bNil) bNil) bNil
noncomputable def q_410_0b (P : Px) (k : Nat) : CS := bCons (sAsg 4 (cCompIf (tg1 (Str.ofString "i")) (cSlot 3) (tOr (tCmp .Eq (cSlot 3) (cVal (.int 0))) (tAnd (tCmp .In (cSlot 0) (cSlot 2)) (tCmp .GtE (cSub (cSlot 2) (cSlot 0)) (cSlot 3)))) (cSlot 0))) (q_410_0b_1 P k)
noncomputable def q_410 (P : Px) (k : Nat) : CS := bCons (sFor1 3 (cSlot 0) (q_410_0b P k)) (q_410_1 P k)
noncomputable def q_417_3 (P : Px) (k : Nat) : CS := bCons (sExpr (cMeth P k (cAttr P (cSlot 0) (Str.ofString "learners_next")) (Str.ofString "append") (lCons (cVal (.int 8)) lNil))) bNil
noncomputable def q_417_2 (P : Px) (k : Nat) : CS := bCons (sExpr (cMeth P k (cAttr P (cSlot 0) (Str.ofString "learners")) (Str.ofString "append") (lCons (cVal (.int 8)) lNil))) (q_417_3 P k)
noncomputable def q_417_1 (P : Px) (k : Nat) : CS := bCons (sExpr (cMeth P k (cAttr P (cSlot 0) (Str.ofString "outgoing")) (Str.ofString "append") (lCons (cVal (.int 8)) lNil))) (q_417_2 P k)
noncomputable def q_417 (P : Px) (k : Nat) : CS := bCons (sExpr (cMeth P k (cAttr P (cSlot 0) (Str.ofString "voters")) (Str.ofString "append") (lCons (cVal (.int 8)) lNil))) (q_417_1 P k)
noncomputable def q_422_8 (P : Px) (k : Nat) : CS := bCons (sRet (cAnd (cCmp .Eq (cMeth P k (cSlot 0) (Str.ofString "committed") (lCons (cSlot 11) lNil)) (cSlot 9)) (cCmp .Eq (cSlot 11) (cSlot 3)))) bNil
noncomputable def q_422_7 (P : Px) (k : Nat) : CS := bCons (sAsg 11 (cDComp (tg1 (Str.ofString "i")) (cSlot 3) (cSlot 0) (cSub (cSlot 4) (cSlot 0)))) (q_422_8 P k)
noncomputable def q_422_6 (P : Px) (k : Nat) : CS := bCons (sIf (tOr (tCmp .NotEq (cMeth P k (cSlot 0) (Str.ofString "vote") (lCons (cSlot 11) lNil)) (cSub (cTup (lCons (cVal (.int 2)) (lCons (cVal (.int 1)) (lCons (cVal (.int 3)) lNil)))) (cSlot 6))) (tCmp .NotEq (cSlot 11) (cSlot 2))) (bCons (sRet (cVal (.bool false))) bNil) bNil) (q_422_7 P k)
noncomputable def q_422_5 (P : Px) (k : Nat) : CS := bCons (sAsg 11 (cDComp (tg1 (Str.ofString "i")) (cSlot 2) (cSlot 0) (cSub (cSlot 3) (cSlot 0)))) (q_422_6 P k)
noncomputable def q_422_4t_1 (P : Px) (k : Nat) : CS := bCons (sAsg 9 (cCall P k (cVal (.blt "max")) (lCons (cCompIf (tg1 (Str.ofString "mark")) (cSlot 10) (tVal (cCall P k (cVal (.ref 410)) (lCons (cSlot 6) (lCons (cSlot 4) (lCons (cSlot 0) lNil))))) (cSlot 0)) lNil))) bNil
noncomputable def q_422_4t (P : Px) (k : Nat) : CS := bCons (sAsg 10 (cBin .Add (cLst (lCons (cVal (.int 0)) lNil)) (cComp (tg1 (Str.ofString "i")) (cSlot 3) (cSub (cSlot 4) (cSlot 0))))) (q_422_4t_1 P k)
noncomputable def q_422_4 (P : Px) (k : Nat) : CS := bCons (sIf (tCmp .Gt (cCall P k (cVal (.blt "len")) (lCons (cSlot 5) lNil)) (cVal (.int 0))) (q_422_4t P k) bNil) (q_422_5 P k)
noncomputable def q_422_3 (P : Px) (k : Nat) : CS := bCons (sAsg 9 (cVal (.int 18446744073709551615))) (q_422_4 P k)
noncomputable def q_422_2b_2 (P : Px) (k : Nat) : CS := bCons (sIf (tCmp .GtE (cBin .Mult (cVal (.int 2)) (cSlot 8)) (cCall P k (cVal (.blt "len")) (lCons (cSlot 4) lNil))) (bCons (sAsg 6 (cVal (.int 0))) bNil) (bCons (sIf (tCmp .LtE (cBin .Mult (cVal (.int 2)) (cSlot 7)) (cCall P k (cVal (.blt "len")) (lCons (cSlot 4) lNil))) (bCons (sAsg 6 (cCall P k (cVal (.blt "min")) (lCons (cSlot 6) (lCons (cVal (.int 1)) lNil)))) bNil) bNil) bNil)) bNil
noncomputable def q_422_2b_1 (P : Px) (k : Nat) : CS := bCons (sAsg 8 (cCall P k (cVal (.blt "len")) (lCons (cCompIf (tg1 (Str.ofString "i")) (cSlot 4) (tAnd (tCmp .In (cSlot 0) (cSlot 3)) (tNot (tVal (cSub (cSlot 3) (cSlot 0))))) (cSlot 0)) lNil))) (q_422_2b_2 P k)
noncomputable def q_422_2b (P : Px) (k : Nat) : CS := bCons (sAsg 7 (cCall P k (cVal (.blt "len")) (lCons (cCompIf (tg1 (Str.ofString "i")) (cSlot 4) (tAnd (tCmp .In (cSlot 0) (cSlot 3)) (tVal (cSub (cSlot 3) (cSlot 0)))) (cSlot 0)) lNil))) (q_422_2b_1 P k)
noncomputable def q_422_2 (P : Px) (k : Nat) : CS := bCons (sFor1 4 (cSlot 5) (q_422_2b P k)) (q_422_3 P k)
noncomputable def q_422_1 (P : Px) (k : Nat) : CS := bCons (sAsg 6 (cVal (.int 2))) (q_422_2 P k)
noncomputable def q_422 (P : Px) (k : Nat) : CS := bCons (sAsg 5 (cCompIf (tg1 (Str.ofString "half")) (cSlice P (cSlot 1) (some 2)) (tCmp .Gt (cCall P k (cVal (.blt "len")) (lCons (cSlot 0) lNil)) (cVal (.int 0))) (cSlot 0))) (q_422_1 P k)
noncomputable def q_427_16 (P : Px) (k : Nat) : CS := bCons (sRet (cCmp .Eq (cMeth P k (cSlot 0) (Str.ofString "row") lNil) (cSlot 7))) bNil
noncomputable def q_427_15 (P : Px) (k : Nat) : CS := bCons (sExpr (cCall P k (cVal (.ref 417)) (lCons (cSlot 10) lNil))) (q_427_16 P k)
noncomputable def q_427_14 (P : Px) (k : Nat) : CS := bCons (sIf (tCmp .NotEq (cMeth P k (cSlot 10) (Str.ofString "row") lNil) (cSlot 7)) (bCons (sRet (cVal (.bool false))) bNil) bNil) (q_427_15 P k)
noncomputable def q_427_13 (P : Px) (k : Nat) : CS := bCons (sExpr (cCall P k (cVal (.ref 417)) (lCons (cSlot 9) lNil))) (q_427_14 P k)
noncomputable def q_427_12 (P : Px) (k : Nat) : CS := bCons (sAsg 10 (cCall P k (cVal (.ref 262)) (lCons (cSlot 9) lNil))) (q_427_13 P k)
noncomputable def q_427_11 (P : Px) (k : Nat) : CS := bCons (sIf (tCmp .NotEq (cMeth P k (cSlot 9) (Str.ofString "row") lNil) (cTup (lCons (cSub (cSlot 7) (cVal (.int 0))) (lCons (cSub (cSlot 7) (cVal (.int 2))) (lCons (cSub (cSlot 7) (cVal (.int 1))) (lCons (cSub (cSlot 7) (cVal (.int 3))) (lCons (cSub (cSlot 7) (cVal (.int 4))) lNil))))))) (bCons (sRet (cVal (.bool false))) bNil) bNil) (q_427_12 P k)
noncomputable def q_427_10 (P : Px) (k : Nat) : CS := bCons (sAsg 9 (cMeth P k (cSlot 0) (Str.ofString "conf_state") lNil)) (q_427_11 P k)
noncomputable def q_427_9 (P : Px) (k : Nat) : CS := bCons (sExpr (cMeth P k (cSlot 8) (Str.ofString "append") (lCons (cVal (.int 8)) lNil))) (q_427_10 P k)
noncomputable def q_427_8 (P : Px) (k : Nat) : CS := bCons (sIf (tCmp .NotEq (cSlot 8) (cCompIf (tg1 (Str.ofString "i")) (cVal (.tup [.int 1, .int 2, .int 3, .int 4, .int 5, .int 6])) (tOr (tCmp .NotEq (cSub (cSlot 5) (cSlot 0)) (cVal (.int 0))) (tCmp .Eq (cSub (cSlot 6) (cSlot 0)) (cVal (.int 1)))) (cSlot 0))) (bCons (sRet (cVal (.bool false))) bNil) bNil) (q_427_9 P k)
noncomputable def q_427_7 (P : Px) (k : Nat) : CS := bCons (sAsg 8 (cMeth P k (cSlot 0) (Str.ofString "members") lNil)) (q_427_8 P k)
noncomputable def q_427_6 (P : Px) (k : Nat) : CS := bCons (sExpr (cMeth P k (cSlot 8) (Str.ofString "append") (lCons (cVal (.int 8)) lNil))) (q_427_7 P k)
noncomputable def q_427_5 (P : Px) (k : Nat) : CS := bCons (sIf (tCmp .NotEq (cSlot 8) (cCompIf (tg1 (Str.ofString "i")) (cVal (.tup [.int 1, .int 2, .int 3, .int 4, .int 5, .int 6])) (tOr (tCmp .Eq (cSub (cSlot 5) (cSlot 0)) (cVal (.int 1))) (tCmp .Eq (cSub (cSlot 6) (cSlot 0)) (cVal (.int 1)))) (cSlot 0))) (bCons (sRet (cVal (.bool false))) bNil) bNil) (q_427_6 P k)
noncomputable def q_427_4 (P : Px) (k : Nat) : CS := bCons (sAsg 8 (cMeth P k (cSlot 0) (Str.ofString "all_voters") lNil)) (q_427_5 P k)
noncomputable def q_427_3 (P : Px) (k : Nat) : CS := bCons (sIf (tNot (tVal (cCall P k (cVal (.ref 422)) (lCons (cSlot 0) (lCons (cSlot 7) (lCons (cSlot 2) (lCons (cSlot 3) lNil))))))) (bCons (sRet (cVal (.bool false))) bNil) bNil) (q_427_4 P k)
noncomputable def q_427_2 (P : Px) (k : Nat) : CS := bCons (sIf (tOr (tCmp .NotEq (cMeth P k (cSlot 0) (Str.ofString "row") lNil) (cSlot 7)) (tCmp .NotEq (cMeth P k (cSlot 0) (Str.ofString "joint") lNil) (cCmp .In (cVal (.int 1)) (cSlot 5)))) (bCons (sRet (cVal (.bool false))) bNil) bNil) (q_427_3 P k)
noncomputable def q_427_1 (P : Px) (k : Nat) : CS := bCons (sAsg 7 (cCall P k (cVal (.ref 386)) (lCons (cSlot 1) lNil))) (q_427_2 P k)
noncomputable def q_427 (P : Px) (k : Nat) : CS := bCons (sAsg3 4 5 6 (cSlot 1)) (q_427_1 P k)
noncomputable def q_434_0b_3 (P : Px) (k : Nat) : CS := bCons (sRet (cMeth P k (cSlot 0) (Str.ofString "simple") (lCons (cSlot 4) lNil))) bNil
noncomputable def q_434_0b_2 (P : Px) (k : Nat) : CS := bCons (sIf (tCmp .Gt (cSlot 2) (cVal (.int 3))) (bCons (sRet (cCall P k (cVal (.ref 365)) (lCons (cSlot 1) (lCons (cSlot 5) lNil)))) bNil) bNil) (q_434_0b_3 P k)
noncomputable def q_434_0b_1 (P : Px) (k : Nat) : CS := bCons (sIf (tCmp .Eq (cSlot 2) (cVal (.int 2))) (bCons (sRet (cMeth P k (cSlot 0) (Str.ofString "leave_joint") lNil)) bNil) bNil) (q_434_0b_2 P k)
noncomputable def q_434_0b (P : Px) (k : Nat) : CS := bCons (sIf (tCmp .Eq (cSlot 2) (cVal (.int 1))) (bCons (sRet (cMeth P k (cSlot 0) (Str.ofString "enter_joint") (lCons (cSlot 3) (lCons (cSlot 4) lNil)))) bNil) bNil) (q_434_0b_1 P k)
noncomputable def q_434 (P : Px) (k : Nat) : CS := bCons (sTry (q_434_0b P k)) bNil
noncomputable def q_439_18 (P : Px) (k : Nat) : CS := bCons (sRet (cAnd (cCall P k (cVal (.ref 427)) (lCons (cSub (cSlot 3) (cVal (.int 0))) (lCons (cSub (cSlot 2) (cVal (.int 0))) (lCons (cSlot 14) (lCons (cSlot 15) lNil))))) (cCall P k (cVal (.ref 427)) (lCons (cSub (cSlot 3) (cVal (.int 1))) (lCons (cSub (cSlot 2) (cVal (.int 1))) (lCons (cSlot 14) (lCons (cSlot 15) lNil))))))) bNil
noncomputable def q_439_17 (P : Px) (k : Nat) : CS := bCons (sAsg2 14 15 (cCall P k (cVal (.ref 405)) (lCons (cCall P k (cVal (.ref 374)) (lCons (cSlot 1) (lCons (cVal (.int 9)) lNil))) lNil))) (q_439_18 P k)
noncomputable def q_439_16b_1 (P : Px) (k : Nat) : CS := bCons (sExpr (cCall P k (cVal (.ref 417)) (lCons (cSlot 9) lNil))) bNil
noncomputable def q_439_16b (P : Px) (k : Nat) : CS := bCons (sIf (tCmp .NotEq (cMeth P k (cSlot 9) (Str.ofString "row") lNil) (cSlot 6)) (bCons (sRet (cVal (.bool false))) bNil) bNil) (q_439_16b_1 P k)
noncomputable def q_439_16 (P : Px) (k : Nat) : CS := bCons (sFor2 9 6 (cSlot 17) (q_439_16b P k)) (q_439_17 P k)
noncomputable def q_439_15b_16b (P : Px) (k : Nat) : CS := bCons (sIf (tCmp .NotEq (cMeth P k (cSub (cSlot 3) (cSlot 30)) (Str.ofString "row") lNil) (cCall P k (cVal (.ref 386)) (lCons (cSub (cSlot 2) (cSlot 30)) lNil))) (bCons (sRet (cVal (.bool false))) bNil) bNil) bNil
noncomputable def q_439_15b_16 (P : Px) (k : Nat) : CS := bCons (sFor1 30 (cTup (lCons (cVal (.int 0)) (lCons (cVal (.int 1)) lNil))) (q_439_15b_16b P k)) bNil
noncomputable def q_439_15b_15t_3 (P : Px) (k : Nat) : CS := bCons (sExpr (cMeth P k (cSlot 17) (Str.ofString "append") (lCons (cTup (lCons (cSlot 29) (lCons (cCall P k (cVal (.ref 386)) (lCons (cSlot 27) lNil)) lNil))) lNil))) bNil
noncomputable def q_439_15b_15t_2 (P : Px) (k : Nat) : CS := bCons (sExpr (cCall P k (cVal (.ref 417)) (lCons (cSlot 28) lNil))) (q_439_15b_15t_3 P k)
noncomputable def q_439_15b_15t_1 (P : Px) (k : Nat) : CS := bCons (sIf (tNot (tVal (cCall P k (cVal (.ref 427)) (lCons (cSlot 28) (lCons (cSlot 27) (lCons (cSlot 14) (lCons (cSlot 15) lNil))))))) (bCons (sRet (cVal (.bool false))) bNil) bNil) (q_439_15b_15t_2 P k)
noncomputable def q_439_15b_15t (P : Px) (k : Nat) : CS := bCons (sAsg2 14 15 (cCall P k (cVal (.ref 405)) (lCons (cSlot 19) lNil))) (q_439_15b_15t_1 P k)
noncomputable def q_439_15b_15 (P : Px) (k : Nat) : CS := bCons (sIf (tCmp .IsNot (cSlot 27) (cVal .none)) (q_439_15b_15t P k) bNil) (q_439_15b_16 P k)
noncomputable def q_439_15b_14 (P : Px) (k : Nat) : CS := bCons (sIf (tOr (tCmp .NotEq (cCmp .Is (cSlot 28) (cVal .none)) (cCmp .Is (cSlot 27) (cVal .none))) (tCmp .NotEq (cCmp .Is (cSlot 29) (cVal .none)) (cCmp .Is (cSlot 27) (cVal .none)))) (bCons (sRet (cVal (.bool false))) bNil) bNil) (q_439_15b_15 P k)
noncomputable def q_439_15b_13 (P : Px) (k : Nat) : CS := bCons (sIf (tOr (tCmp .NotEq (cCall P k (cVal (.ty "tuple")) (lCons (cSlot 11) lNil)) (cSlot 23)) (tCmp .NotEq (cMeth P k (cSlot 13) (Str.ofString "row") lNil) (cTup (lCons (cBin .Mod (cSlot 10) (cVal (.int 3))) (lCons (cSlot 12) (lCons (cVal (.bytes (List.toArray [120]))) lNil)))))) (bCons (sRet (cVal (.bool false))) bNil) bNil) (q_439_15b_14 P k)
noncomputable def q_439_15b_12 (P : Px) (k : Nat) : CS := bCons (sAsg 29 (cCall P k (cVal (.ref 434)) (lCons (cSub (cSlot 4) (cSlot 16)) (lCons (cSub (cSlot 3) (cSlot 16)) (lCons (cSlot 20) (lCons (cSlot 22) (lCons (cSlot 11) (lCons (cSlot 13) lNil)))))))) (q_439_15b_13 P k)
noncomputable def q_439_15b_11 (P : Px) (k : Nat) : CS := bCons (sAsg 28 (cCall P k (cVal (.ref 434)) (lCons (cSub (cSlot 4) (cSlot 16)) (lCons (cSub (cSlot 3) (cSlot 16)) (lCons (cSlot 20) (lCons (cSlot 22) (lCons (cSlot 11) (lCons (cSlot 13) lNil)))))))) (q_439_15b_12 P k)
noncomputable def q_439_15b_10 (P : Px) (k : Nat) : CS := bCons (sAsg 27 (cCall P k (cVal (.ref 398)) (lCons (cSub (cSlot 2) (cSlot 16)) (lCons (cSlot 25) (lCons (cSlot 24) (lCons (cSlot 26) lNil)))))) (q_439_15b_11 P k)
noncomputable def q_439_15b_9 (P : Px) (k : Nat) : CS := bCons (sIf (tCmp .NotEq (cCmp .Eq (cSlot 25) (cVal (.int 2))) (cSlot 21)) (bCons (sAsg 16 (cVal (.int 1))) bNil) bNil) (q_439_15b_10 P k)
noncomputable def q_439_15b_8 (P : Px) (k : Nat) : CS := bCons (sAsg 16 (cVal (.int 0))) (q_439_15b_9 P k)
noncomputable def q_439_15b_7t_3 (P : Px) (k : Nat) : CS := bCons (sAsg 26 (cSlot 12)) bNil
noncomputable def q_439_15b_7t_2 (P : Px) (k : Nat) : CS := bCons (sIf (tAnd (tCmp .Eq (cBin .Mod (cSlot 10) (cVal (.int 3))) (cVal (.int 0))) (tCmp .Lt (cCall P k (cVal (.blt "len")) (lCons (cSlot 12) lNil)) (cVal (.int 2)))) (bCons (sAsg 25 (cBin .Sub (cVal (.int 2)) (cBin .Mult (cVal (.int 2)) (cCall P k (cVal (.blt "len")) (lCons (cSlot 12) lNil))))) bNil) bNil) (q_439_15b_7t_3 P k)
noncomputable def q_439_15b_7t_1 (P : Px) (k : Nat) : CS := bCons (sAsg 25 (cVal (.int 1))) (q_439_15b_7t_2 P k)
noncomputable def q_439_15b_7t (P : Px) (k : Nat) : CS := bCons (sAsg 24 (cCmp .NotEq (cBin .Mod (cSlot 10) (cVal (.int 3))) (cVal (.int 2)))) (q_439_15b_7t_1 P k)
noncomputable def q_439_15b_7e_2 (P : Px) (k : Nat) : CS := bCons (sAsg 26 (cSlot 23)) bNil
noncomputable def q_439_15b_7e_1 (P : Px) (k : Nat) : CS := bCons (sAsg 24 (cSlot 22)) (q_439_15b_7e_2 P k)
noncomputable def q_439_15b_7e (P : Px) (k : Nat) : CS := bCons (sAsg 25 (cBin .Mod (cSlot 20) (cVal (.int 3)))) (q_439_15b_7e_1 P k)
noncomputable def q_439_15b_7 (P : Px) (k : Nat) : CS := bCons (sIf (tCmp .Gt (cSlot 20) (cVal (.int 3))) (q_439_15b_7t P k) (q_439_15b_7e P k)) (q_439_15b_8 P k)
noncomputable def q_439_15b_6 (P : Px) (k : Nat) : CS := bCons (sAsg 23 (cCall P k (cVal (.ty "tuple")) (lCons (cSlot 11) lNil))) (q_439_15b_7 P k)
noncomputable def q_439_15b_5 (P : Px) (k : Nat) : CS := bCons (sAsg 11 (cCall P k (cVal (.ref 393)) (lCons (cBin .FloorDiv (cSlot 19) (cVal (.int 36))) lNil))) (q_439_15b_6 P k)
noncomputable def q_439_15b_4 (P : Px) (k : Nat) : CS := bCons (sAsg 22 (cCmp .Eq (cBin .Mod (cBin .FloorDiv (cSlot 19) (cVal (.int 18))) (cVal (.int 2))) (cVal (.int 1)))) (q_439_15b_5 P k)
noncomputable def q_439_15b_3t_1 (P : Px) (k : Nat) : CS := bCons (sAsg 21 (cVal (.bool false))) bNil
noncomputable def q_439_15b_3t (P : Px) (k : Nat) : CS := bCons (sAsg 20 (cVal (.int 0))) (q_439_15b_3t_1 P k)
noncomputable def q_439_15b_3et_1 (P : Px) (k : Nat) : CS := bCons (sAsg 21 (cVal (.bool false))) bNil
noncomputable def q_439_15b_3et (P : Px) (k : Nat) : CS := bCons (sAsg 20 (cVal (.int 2))) (q_439_15b_3et_1 P k)
noncomputable def q_439_15b_3 (P : Px) (k : Nat) : CS := bCons (sIf (tCmp .Eq (cBin .Mod (cSlot 18) (cVal (.int 7))) (cVal (.int 0))) (q_439_15b_3t P k) (bCons (sIf (tCmp .Eq (cSlot 18) (cVal (.int 6))) (q_439_15b_3et P k) bNil) bNil)) (q_439_15b_4 P k)
noncomputable def q_439_15b_2 (P : Px) (k : Nat) : CS := bCons (sAsg 21 (cCmp .Eq (cBin .Mod (cBin .FloorDiv (cSlot 19) (cVal (.int 6))) (cVal (.int 3))) (cVal (.int 1)))) (q_439_15b_3 P k)
noncomputable def q_439_15b_1 (P : Px) (k : Nat) : CS := bCons (sAsg 20 (cBin .Mod (cSlot 19) (cVal (.int 6)))) (q_439_15b_2 P k)
noncomputable def q_439_15b (P : Px) (k : Nat) : CS := bCons (sAsg 19 (cCall P k (cVal (.ref 374)) (lCons (cSlot 1) (lCons (cBin .Add (cVal (.int 3)) (cBin .Mod (cSlot 18) (cVal (.int 7)))) lNil)))) (q_439_15b_1 P k)
noncomputable def q_439_15 (P : Px) (k : Nat) : CS := bCons (sFor1 18 (cCall P k (cVal (.ty "range")) (lCons (cVal (.int 8)) lNil)) (q_439_15b P k)) (q_439_16 P k)
noncomputable def q_439_14 (P : Px) (k : Nat) : CS := bCons (sAsg 17 (cLst lNil)) (q_439_15 P k)
noncomputable def q_439_13b (P : Px) (k : Nat) : CS := bCons (sIf (tNot (tVal (cCall P k (cVal (.ref 427)) (lCons (cSub (cSlot 3) (cSlot 16)) (lCons (cSub (cSlot 2) (cSlot 16)) (lCons (cSlot 14) (lCons (cSlot 15) lNil))))))) (bCons (sRet (cVal (.bool false))) bNil) bNil) bNil
noncomputable def q_439_13 (P : Px) (k : Nat) : CS := bCons (sFor1 16 (cTup (lCons (cVal (.int 0)) (lCons (cVal (.int 1)) lNil))) (q_439_13b P k)) (q_439_14 P k)
noncomputable def q_439_12 (P : Px) (k : Nat) : CS := bCons (sAsg2 14 15 (cCall P k (cVal (.ref 405)) (lCons (cSlot 10) lNil))) (q_439_13 P k)
noncomputable def q_439_11 (P : Px) (k : Nat) : CS := bCons (sExpr (cMeth P k (cSlot 11) (Str.ofString "append") (lCons (cTup (lCons (cVal (.int 1)) (lCons (cVal (.int 1)) lNil))) lNil))) (q_439_12 P k)
noncomputable def q_439_10 (P : Px) (k : Nat) : CS := bCons (sExpr (cMeth P k (cSlot 11) (Str.ofString "reverse") lNil)) (q_439_11 P k)
noncomputable def q_439_9 (P : Px) (k : Nat) : CS := bCons (sAsg 13 (cCall P k (cVal (.ref 141)) (lCons (cBin .Mod (cSlot 10) (cVal (.int 3))) (lCons (cSlot 11) (lCons (cVal (.bytes (List.toArray [120]))) lNil))))) (q_439_10 P k)
noncomputable def q_439_8 (P : Px) (k : Nat) : CS := bCons (sAsg 12 (cCall P k (cVal (.ty "tuple")) (lCons (cSlot 11) lNil))) (q_439_9 P k)
noncomputable def q_439_7 (P : Px) (k : Nat) : CS := bCons (sAsg 11 (cCall P k (cVal (.ref 393)) (lCons (cBin .FloorDiv (cSlot 10) (cVal (.int 3))) lNil))) (q_439_8 P k)
noncomputable def q_439_6 (P : Px) (k : Nat) : CS := bCons (sAsg 10 (cCall P k (cVal (.ref 374)) (lCons (cSlot 1) (lCons (cVal (.int 2)) lNil)))) (q_439_7 P k)
noncomputable def q_439_5b_5 (P : Px) (k : Nat) : CS := bCons (sExpr (cMeth P k (cSlot 4) (Str.ofString "append") (lCons (cCall P k (cVal (.ref 354)) (lCons (cSlot 9) lNil)) lNil))) bNil
noncomputable def q_439_5b_4 (P : Px) (k : Nat) : CS := bCons (sExpr (cMeth P k (cSlot 3) (Str.ofString "append") (lCons (cSlot 9) lNil))) (q_439_5b_5 P k)
noncomputable def q_439_5b_3b (P : Px) (k : Nat) : CS := bCons (sExpr (cMeth P k (cSlot 7) (Str.ofString "append") (lCons (cVal (.int 8)) lNil))) bNil
noncomputable def q_439_5b_3 (P : Px) (k : Nat) : CS := bCons (sFor1 7 (cSlot 8) (q_439_5b_3b P k)) (q_439_5b_4 P k)
noncomputable def q_439_5b_2 (P : Px) (k : Nat) : CS := bCons (sAsg 9 (cCall P k (cVal (.ref 251)) (lCons (cSub (cSlot 8) (cVal (.int 0))) (lCons (cSub (cSlot 8) (cVal (.int 1))) (lCons (cSub (cSlot 8) (cVal (.int 2))) (lCons (cSub (cSlot 8) (cVal (.int 3))) (lCons (cSub (cSlot 6) (cVal (.int 4))) lNil))))))) (q_439_5b_3 P k)
noncomputable def q_439_5b_1 (P : Px) (k : Nat) : CS := bCons (sAsg 8 (cComp (tg1 (Str.ofString "part")) (cSlice P (cSlot 6) (some 4)) (cComp (tg1 (Str.ofString "i")) (cBin .Add (cSlice P (cSlot 0) none) (cSlot 0)) (cSlot 0)))) (q_439_5b_2 P k)
noncomputable def q_439_5b (P : Px) (k : Nat) : CS := bCons (sAsg 6 (cCall P k (cVal (.ref 386)) (lCons (cSlot 5) lNil))) (q_439_5b_1 P k)
noncomputable def q_439_5 (P : Px) (k : Nat) : CS := bCons (sFor1 5 (cSlot 2) (q_439_5b P k)) (q_439_6 P k)
noncomputable def q_439_4 (P : Px) (k : Nat) : CS := bCons (sAsg 4 (cLst lNil)) (q_439_5 P k)
noncomputable def q_439_3 (P : Px) (k : Nat) : CS := bCons (sAsg 3 (cLst lNil)) (q_439_4 P k)
noncomputable def q_439_2 (P : Px) (k : Nat) : CS := bCons (sAsg 2 (cTup (lCons (cCall P k (cVal (.ref 381)) (lCons (cCall P k (cVal (.ref 374)) (lCons (cSlot 1) (lCons (cVal (.int 0)) lNil))) (lCons (cVal (.bool false)) lNil))) (lCons (cCall P k (cVal (.ref 381)) (lCons (cCall P k (cVal (.ref 374)) (lCons (cSlot 1) (lCons (cVal (.int 1)) lNil))) (lCons (cVal (.bool true)) lNil))) lNil)))) (q_439_3 P k)
noncomputable def q_439_1 (P : Px) (k : Nat) : CS := bCons (sIf (tCmp .Eq (cCall P k (cVal (.blt "len")) (lCons (cSlot 1) lNil)) (cVal (.int 0))) (bCons (sAsg 1 (cLst (lCons (cVal (.int 0)) lNil))) bNil) bNil) (q_439_2 P k)
noncomputable def q_439 (P : Px) (k : Nat) : CS := bCons (sAsg 1 (cComp (tg1 (Str.ofString "x")) (cSlice P (cSlot 0) (some 10)) (cBin .Mod (cSlot 0) (cVal (.int 1000000007))))) (q_439_1 P k)
section
variable {prog : Program} {w : World} {h : Heap}
theorem r_70 (ok : PxOk (PX prog w h)) (k : Nat) : BS (PX prog w h) k (fT 15).2 [Str.ofString "ids", Str.ofString "out", Str.ofString "nid"] (fT 15).1 (q_70 (PX prog w h) k) := b_cons (s_asg 1 (by kernel_rfl) rfl (e_list (by decide) l_nil)) (b_cons (s_for1 ok 2 (by kernel_rfl) rfl (e_call ok (e_glob ok (v := .blt "sorted") (by kernel_rfl) (by kernel_rfl)) (l_cons rfl (e_slot ok 0 (by kernel_rfl)) l_nil)) (b_cons (s_if (t_or (t_not (t_name (e_slot ok 1 (by kernel_rfl)))) (t_cmp ok rfl (e_sub (e_slot ok 1 (by kernel_rfl)) e_neg) (e_slot ok 2 (by kernel_rfl)))) (b_cons (s_expr rfl (e_meth ok rfl (e_slot ok 1 (by kernel_rfl)) (l_cons rfl (e_slot ok 2 (by kernel_rfl)) l_nil))) b_nil) b_nil) b_nil)) (b_cons (s_ret (e_slot ok 1 (by kernel_rfl))) b_nil))
theorem g_70 (ok : PxOk (PX prog w h)) {k : Nat} {args : List AV} {W : Store} {Q : AV → Store → Prop} {X : Store → Prop} (hl : args.length = 1) (hq : q_70 (PX prog w h) k X (start [Str.ofString "ids"] [Str.ofString "out", Str.ofString "nid"] args) W (retQ Q)) : CodeOk (PX prog w h) (k + 5) 70 args W Q X := fun_call ok (f_70 w) (t_70 w) (r_70 ok k) hl.symm hq
theorem r_84 (ok : PxOk (PX prog w h)) (k : Nat) : BS (PX prog w h) k (mT 16 0).2 [Str.ofString "self", Str.ofString "voters", Str.ofString "learners", Str.ofString "outgoing", Str.ofString "learners_next", Str.ofString "auto_leave"] (mT 16 0).1 (q_84 (PX prog w h) k) := b_cons (s_setA ok (e_call ok (e_glob ok (v := .ref 70) (by kernel_rfl) (by kernel_rfl)) (l_cons rfl (e_slot ok 1 (by kernel_rfl)) l_nil)) (e_slot ok 0 (by kernel_rfl))) (b_cons (s_setA ok (e_call ok (e_glob ok (v := .ref 70) (by kernel_rfl) (by kernel_rfl)) (l_cons rfl (e_slot ok 2 (by kernel_rfl)) l_nil)) (e_slot ok 0 (by kernel_rfl))) (b_cons (s_setA ok (e_call ok (e_glob ok (v := .ref 70) (by kernel_rfl) (by kernel_rfl)) (l_cons rfl (e_slot ok 3 (by kernel_rfl)) l_nil)) (e_slot ok 0 (by kernel_rfl))) (b_cons (s_setA ok (e_call ok (e_glob ok (v := .ref 70) (by kernel_rfl) (by kernel_rfl)) (l_cons rfl (e_slot ok 4 (by kernel_rfl)) l_nil)) (e_slot ok 0 (by kernel_rfl))) (b_cons (s_setA ok (e_slot ok 5 (by kernel_rfl)) (e_slot ok 0 (by kernel_rfl))) b_nil))))
theorem g_84 (ok : PxOk (PX prog w h)) {k : Nat} {args : List AV} {W : Store} {Q : AV → Store → Prop} {X : Store → Prop} (hl : args.length = 6) (hq : q_84 (PX prog w h) k X (start [Str.ofString "self", Str.ofString "voters", Str.ofString "learners", Str.ofString "outgoing", Str.ofString "learners_next", Str.ofString "auto_leave"] [] args) W (retQ Q)) : CodeOk (PX prog w h) (k + 5) 84 args W Q X := fun_call ok (f_84 w) (t_84 w) (r_84 ok k) hl.symm hq
theorem r_91 (ok : PxOk (PX prog w h)) (k : Nat) : BS (PX prog w h) k (mT 16 1).2 [Str.ofString "self"] (mT 16 1).1 (q_91 (PX prog w h) k) := b_cons (s_ret (e_tuple (by decide) (l_cons rfl (e_call ok (e_glob ok (v := .ty "tuple") (by kernel_rfl) (by kernel_rfl)) (l_cons rfl (e_attr ok rfl (e_slot ok 0 (by kernel_rfl))) l_nil)) (l_cons rfl (e_call ok (e_glob ok (v := .ty "tuple") (by kernel_rfl) (by kernel_rfl)) (l_cons rfl (e_attr ok rfl (e_slot ok 0 (by kernel_rfl))) l_nil)) (l_cons rfl (e_call ok (e_glob ok (v := .ty "tuple") (by kernel_rfl) (by kernel_rfl)) (l_cons rfl (e_attr ok rfl (e_slot ok 0 (by kernel_rfl))) l_nil)) (l_cons rfl (e_call ok (e_glob ok (v := .ty "tuple") (by kernel_rfl) (by kernel_rfl)) (l_cons rfl (e_attr ok rfl (e_slot ok 0 (by kernel_rfl))) l_nil)) (l_cons rfl (e_attr ok rfl (e_slot ok 0 (by kernel_rfl))) l_nil))))))) b_nil
theorem g_91 (ok : PxOk (PX prog w h)) {k : Nat} {args : List AV} {W : Store} {Q : AV → Store → Prop} {X : Store → Prop} (hl : args.length = 1) (hq : q_91 (PX prog w h) k X (start [Str.ofString "self"] [] args) W (retQ Q)) : CodeOk (PX prog w h) (k + 5) 91 args W Q X := fun_call ok (f_91 w) (t_91 w) (r_91 ok k) hl.symm hq
theorem r_98 (ok : PxOk (PX prog w h)) (k : Nat) : BS (PX prog w h) k (mT 16 2).2 [Str.ofString "self"] (mT 16 2).1 (q_98 (PX prog w h) k) := b_cons (s_ret (e_call ok (e_glob ok (v := .ref 101) (by kernel_rfl) (by kernel_rfl)) (l_cons rfl (e_attr ok rfl (e_slot ok 0 (by kernel_rfl))) (l_cons rfl (e_attr ok rfl (e_slot ok 0 (by kernel_rfl))) (l_cons rfl (e_attr ok rfl (e_slot ok 0 (by kernel_rfl))) (l_cons rfl (e_attr ok rfl (e_slot ok 0 (by kernel_rfl))) (l_cons rfl (e_attr ok rfl (e_slot ok 0 (by kernel_rfl))) l_nil))))))) b_nil
theorem g_98 (ok : PxOk (PX prog w h)) {k : Nat} {args : List AV} {W : Store} {Q : AV → Store → Prop} {X : Store → Prop} (hl : args.length = 1) (hq : q_98 (PX prog w h) k X (start [Str.ofString "self"] [] args) W (retQ Q)) : CodeOk (PX prog w h) (k + 5) 98 args W Q X := fun_call ok (f_98 w) (t_98 w) (r_98 ok k) hl.symm hq
theorem r_117 (ok : PxOk (PX prog w h)) (k : Nat) : BS (PX prog w h) k (mT 17 0).2 [Str.ofString "self", Str.ofString "transition", Str.ofString "changes", Str.ofString "context"] (mT 17 0).1 (q_117 (PX prog w h) k) := b_cons (s_setA ok (e_slot ok 1 (by kernel_rfl)) (e_slot ok 0 (by kernel_rfl))) (b_cons (s_setA ok (e_comp ok tg2_ok (by kernel_rfl) (e_slot ok 2 (by kernel_rfl)) (e_tuple (by decide) (l_cons rfl (e_slot ok 1 (by kernel_rfl)) (l_cons rfl (e_slot ok 0 (by kernel_rfl)) l_nil)))) (e_slot ok 0 (by kernel_rfl))) (b_cons (s_setA ok (e_slot ok 3 (by kernel_rfl)) (e_slot ok 0 (by kernel_rfl))) b_nil))
theorem g_117 (ok : PxOk (PX prog w h)) {k : Nat} {args : List AV} {W : Store} {Q : AV → Store → Prop} {X : Store → Prop} (hl : args.length = 4) (hq : q_117 (PX prog w h) k X (start [Str.ofString "self", Str.ofString "transition", Str.ofString "changes", Str.ofString "context"] [] args) W (retQ Q)) : CodeOk (PX prog w h) (k + 5) 117 args W Q X := fun_call ok (f_117 w) (t_117 w) (r_117 ok k) hl.symm hq
theorem r_124 (ok : PxOk (PX prog w h)) (k : Nat) : BS (PX prog w h) k (mT 17 1).2 [Str.ofString "self"] (mT 17 1).1 (q_124 (PX prog w h) k) := b_cons (s_ret (e_tuple (by decide) (l_cons rfl (e_attr ok rfl (e_slot ok 0 (by kernel_rfl))) (l_cons rfl (e_call ok (e_glob ok (v := .ty "tuple") (by kernel_rfl) (by kernel_rfl)) (l_cons rfl (e_attr ok rfl (e_slot ok 0 (by kernel_rfl))) l_nil)) (l_cons rfl (e_attr ok rfl (e_slot ok 0 (by kernel_rfl))) l_nil))))) b_nil
theorem g_124 (ok : PxOk (PX prog w h)) {k : Nat} {args : List AV} {W : Store} {Q : AV → Store → Prop} {X : Store → Prop} (hl : args.length = 1) (hq : q_124 (PX prog w h) k X (start [Str.ofString "self"] [] args) W (retQ Q)) : CodeOk (PX prog w h) (k + 5) 124 args W Q X := fun_call ok (f_124 w) (t_124 w) (r_124 ok k) hl.symm hq
theorem r_131 (ok : PxOk (PX prog w h)) (k : Nat) : BS (PX prog w h) k (mT 17 2).2 [Str.ofString "self"] (mT 17 2).1 (q_131 (PX prog w h) k) := b_cons (s_if (t_cmp ok rfl (e_attr ok rfl (e_slot ok 0 (by kernel_rfl))) (e_tuple (by decide) (l_cons rfl (e_glob ok (v := .int 0) (by kernel_rfl) (by kernel_rfl)) (l_cons rfl (e_glob ok (v := .int 1) (by kernel_rfl) (by kernel_rfl)) (l_cons rfl (e_glob ok (v := .int 2) (by kernel_rfl) (by kernel_rfl)) l_nil))))) (b_cons s_never b_nil) b_nil) (b_cons (s_if (t_and (t_cmp ok rfl (e_attr ok rfl (e_slot ok 0 (by kernel_rfl))) (e_glob ok (v := .int 0) (by kernel_rfl) (by kernel_rfl))) (t_cmp ok rfl (e_call ok (e_glob ok (v := .blt "len") (by kernel_rfl) (by kernel_rfl)) (l_cons rfl (e_attr ok rfl (e_slot ok 0 (by kernel_rfl))) l_nil)) e_int)) (b_cons (s_ret (e_tuple (by decide) (l_cons rfl e_bool (l_cons rfl e_bool l_nil)))) b_nil) b_nil) (b_cons (s_ret (e_tuple (by decide) (l_cons rfl (e_cmp ok rfl (e_attr ok rfl (e_slot ok 0 (by kernel_rfl))) (e_glob ok (v := .int 2) (by kernel_rfl) (by kernel_rfl))) (l_cons rfl e_bool l_nil)))) b_nil))
theorem g_131 (ok : PxOk (PX prog w h)) {k : Nat} {args : List AV} {W : Store} {Q : AV → Store → Prop} {X : Store → Prop} (hl : args.length = 1) (hq : q_131 (PX prog w h) k X (start [Str.ofString "self"] [] args) W (retQ Q)) : CodeOk (PX prog w h) (k + 5) 131 args W Q X := fun_call ok (f_131 w) (t_131 w) (r_131 ok k) hl.symm hq
theorem r_138 (ok : PxOk (PX prog w h)) (k : Nat) : BS (PX prog w h) k (mT 17 3).2 [Str.ofString "self"] (mT 17 3).1 (q_138 (PX prog w h) k) := b_cons (s_ret (e_and (e_cmp ok rfl (e_attr ok rfl (e_slot ok 0 (by kernel_rfl))) (e_glob ok (v := .int 0) (by kernel_rfl) (by kernel_rfl))) (e_not (e_attr ok rfl (e_slot ok 0 (by kernel_rfl)))))) b_nil
theorem g_138 (ok : PxOk (PX prog w h)) {k : Nat} {args : List AV} {W : Store} {Q : AV → Store → Prop} {X : Store → Prop} (hl : args.length = 1) (hq : q_138 (PX prog w h) k X (start [Str.ofString "self"] [] args) W (retQ Q)) : CodeOk (PX prog w h) (k + 5) 138 args W Q X := fun_call ok (f_138 w) (t_138 w) (r_138 ok k) hl.symm hq
theorem r_150 (ok : PxOk (PX prog w h)) (k : Nat) : BS (PX prog w h) k (fT 22).2 [Str.ofString "ids", Str.ofString "acked", Str.ofString "held"] (fT 22).1 (q_150 (PX prog w h) k) := b_cons (s_if (t_not (t_name (e_slot ok 0 (by kernel_rfl)))) (b_cons (s_ret (e_glob ok (v := .int 18446744073709551615) (by kernel_rfl) (by kernel_rfl))) b_nil) b_nil) (b_cons (s_asg 2 (by kernel_rfl) rfl (e_call ok (e_glob ok (v := .blt "sorted") (by kernel_rfl) (by kernel_rfl)) (l_cons rfl (e_comp ok tg1_ok (by kernel_rfl) (e_slot ok 0 (by kernel_rfl)) (e_meth ok rfl (e_slot ok 2 (by kernel_rfl)) (l_cons rfl (e_slot ok 0 (by kernel_rfl)) (l_cons rfl e_int l_nil)))) l_nil))) (b_cons (s_ret (e_sub (e_slot ok 2 (by kernel_rfl)) (e_bin (e_call ok (e_glob ok (v := .blt "len") (by kernel_rfl) (by kernel_rfl)) (l_cons rfl (e_slot ok 2 (by kernel_rfl)) l_nil)) (e_bin (e_bin (e_call ok (e_glob ok (v := .blt "len") (by kernel_rfl) (by kernel_rfl)) (l_cons rfl (e_slot ok 2 (by kernel_rfl)) l_nil)) e_int) e_int)))) b_nil))
theorem g_150 (ok : PxOk (PX prog w h)) {k : Nat} {args : List AV} {W : Store} {Q : AV → Store → Prop} {X : Store → Prop} (hl : args.length = 2) (hq : q_150 (PX prog w h) k X (start [Str.ofString "ids", Str.ofString "acked"] [Str.ofString "held"] args) W (retQ Q)) : CodeOk (PX prog w h) (k + 5) 150 args W Q X := fun_call ok (f_150 w) (t_150 w) (r_150 ok k) hl.symm hq
theorem r_157 (ok : PxOk (PX prog w h)) (k : Nat) : BS (PX prog w h) k (fT 23).2 [Str.ofString "ids", Str.ofString "votes", Str.ofString "granted", Str.ofString "missing", Str.ofString "nid", Str.ofString "need"] (fT 23).1 (q_157 (PX prog w h) k) := b_cons (s_if (t_not (t_name (e_slot ok 0 (by kernel_rfl)))) (b_cons (s_ret (e_glob ok (v := .int 3) (by kernel_rfl) (by kernel_rfl))) b_nil) b_nil) (b_cons (s_asg 2 (by kernel_rfl) rfl e_int) (b_cons (s_asg 3 (by kernel_rfl) rfl e_int) (b_cons (s_for1 ok 4 (by kernel_rfl) rfl (e_slot ok 0 (by kernel_rfl)) (b_cons (s_if (t_cmp ok rfl (e_slot ok 4 (by kernel_rfl)) (e_slot ok 1 (by kernel_rfl))) (b_cons (s_aug ok 3 (by kernel_rfl) (by kernel_rfl) e_int) b_nil) (b_cons (s_if (t_sub (e_sub (e_slot ok 1 (by kernel_rfl)) (e_slot ok 4 (by kernel_rfl)))) (b_cons (s_aug ok 2 (by kernel_rfl) (by kernel_rfl) e_int) b_nil) b_nil) b_nil)) b_nil)) (b_cons (s_asg 5 (by kernel_rfl) rfl (e_bin (e_bin (e_call ok (e_glob ok (v := .blt "len") (by kernel_rfl) (by kernel_rfl)) (l_cons rfl (e_slot ok 0 (by kernel_rfl)) l_nil)) e_int) e_int)) (b_cons (s_if (t_cmp ok rfl (e_slot ok 2 (by kernel_rfl)) (e_slot ok 5 (by kernel_rfl))) (b_cons (s_ret (e_glob ok (v := .int 3) (by kernel_rfl) (by kernel_rfl))) b_nil) b_nil) (b_cons (s_if (t_cmp ok rfl (e_bin (e_slot ok 2 (by kernel_rfl)) (e_slot ok 3 (by kernel_rfl))) (e_slot ok 5 (by kernel_rfl))) (b_cons (s_ret (e_glob ok (v := .int 1) (by kernel_rfl) (by kernel_rfl))) b_nil) b_nil) (b_cons (s_ret (e_glob ok (v := .int 2) (by kernel_rfl) (by kernel_rfl))) b_nil)))))))
theorem g_157 (ok : PxOk (PX prog w h)) {k : Nat} {args : List AV} {W : Store} {Q : AV → Store → Prop} {X : Store → Prop} (hl : args.length = 2) (hq : q_157 (PX prog w h) k X (start [Str.ofString "ids", Str.ofString "votes"] [Str.ofString "granted", Str.ofString "missing", Str.ofString "nid", Str.ofString "need"] args) W (retQ Q)) : CodeOk (PX prog w h) (k + 5) 157 args W Q X := fun_call ok (f_157 w) (t_157 w) (r_157 ok k) hl.symm hq
theorem r_164 (ok : PxOk (PX prog w h)) (k : Nat) : BS (PX prog w h) k (fT 24).2 [Str.ofString "a", Str.ofString "b", Str.ofString "acked", Str.ofString "left", Str.ofString "right"] (fT 24).1 (q_164 (PX prog w h) k) := b_cons (s_asg 3 (by kernel_rfl) rfl (e_call ok (e_glob ok (v := .ref 150) (by kernel_rfl) (by kernel_rfl)) (l_cons rfl (e_slot ok 0 (by kernel_rfl)) (l_cons rfl (e_slot ok 2 (by kernel_rfl)) l_nil)))) (b_cons (s_asg 4 (by kernel_rfl) rfl (e_call ok (e_glob ok (v := .ref 150) (by kernel_rfl) (by kernel_rfl)) (l_cons rfl (e_slot ok 1 (by kernel_rfl)) (l_cons rfl (e_slot ok 2 (by kernel_rfl)) l_nil)))) (b_cons (s_if (t_cmp ok rfl (e_slot ok 3 (by kernel_rfl)) (e_slot ok 4 (by kernel_rfl))) (b_cons (s_ret (e_slot ok 3 (by kernel_rfl))) b_nil) b_nil) (b_cons (s_ret (e_slot ok 4 (by kernel_rfl))) b_nil)))
theorem g_164 (ok : PxOk (PX prog w h)) {k : Nat} {args : List AV} {W : Store} {Q : AV → Store → Prop} {X : Store → Prop} (hl : args.length = 3) (hq : q_164 (PX prog w h) k X (start [Str.ofString "a", Str.ofString "b", Str.ofString "acked"] [Str.ofString "left", Str.ofString "right"] args) W (retQ Q)) : CodeOk (PX prog w h) (k + 5) 164 args W Q X := fun_call ok (f_164 w) (t_164 w) (r_164 ok k) hl.symm hq
theorem r_171 (ok : PxOk (PX prog w h)) (k : Nat) : BS (PX prog w h) k (fT 25).2 [Str.ofString "a", Str.ofString "b", Str.ofString "votes", Str.ofString "left", Str.ofString "right"] (fT 25).1 (q_171 (PX prog w h) k) := b_cons (s_asg 3 (by kernel_rfl) rfl (e_call ok (e_glob ok (v := .ref 157) (by kernel_rfl) (by kernel_rfl)) (l_cons rfl (e_slot ok 0 (by kernel_rfl)) (l_cons rfl (e_slot ok 2 (by kernel_rfl)) l_nil)))) (b_cons (s_asg 4 (by kernel_rfl) rfl (e_call ok (e_glob ok (v := .ref 157) (by kernel_rfl) (by kernel_rfl)) (l_cons rfl (e_slot ok 1 (by kernel_rfl)) (l_cons rfl (e_slot ok 2 (by kernel_rfl)) l_nil)))) (b_cons (s_if (t_cmp ok rfl (e_slot ok 3 (by kernel_rfl)) (e_slot ok 4 (by kernel_rfl))) (b_cons (s_ret (e_slot ok 3 (by kernel_rfl))) b_nil) b_nil) (b_cons (s_if (t_or (t_cmp ok rfl (e_slot ok 3 (by kernel_rfl)) (e_glob ok (v := .int 2) (by kernel_rfl) (by kernel_rfl))) (t_cmp ok rfl (e_slot ok 4 (by kernel_rfl)) (e_glob ok (v := .int 2) (by kernel_rfl) (by kernel_rfl)))) (b_cons (s_ret (e_glob ok (v := .int 2) (by kernel_rfl) (by kernel_rfl))) b_nil) b_nil) (b_cons (s_ret (e_glob ok (v := .int 1) (by kernel_rfl) (by kernel_rfl))) b_nil))))
theorem g_171 (ok : PxOk (PX prog w h)) {k : Nat} {args : List AV} {W : Store} {Q : AV → Store → Prop} {X : Store → Prop} (hl : args.length = 3) (hq : q_171 (PX prog w h) k X (start [Str.ofString "a", Str.ofString "b", Str.ofString "votes"] [Str.ofString "left", Str.ofString "right"] args) W (retQ Q)) : CodeOk (PX prog w h) (k + 5) 171 args W Q X := fun_call ok (f_171 w) (t_171 w) (r_171 ok k) hl.symm hq
theorem r_185 (ok : PxOk (PX prog w h)) (k : Nat) : BS (PX prog w h) k (mT 26 0).2 [Str.ofString "self", Str.ofString "voters", Str.ofString "outgoing", Str.ofString "learners", Str.ofString "learners_next", Str.ofString "auto_leave"] (mT 26 0).1 (q_185 (PX prog w h) k) := b_cons (s_setA ok (e_call ok (e_glob ok (v := .ref 70) (by kernel_rfl) (by kernel_rfl)) (l_cons rfl (e_slot ok 1 (by kernel_rfl)) l_nil)) (e_slot ok 0 (by kernel_rfl))) (b_cons (s_setA ok (e_call ok (e_glob ok (v := .ref 70) (by kernel_rfl) (by kernel_rfl)) (l_cons rfl (e_slot ok 2 (by kernel_rfl)) l_nil)) (e_slot ok 0 (by kernel_rfl))) (b_cons (s_setA ok (e_call ok (e_glob ok (v := .ref 70) (by kernel_rfl) (by kernel_rfl)) (l_cons rfl (e_slot ok 3 (by kernel_rfl)) l_nil)) (e_slot ok 0 (by kernel_rfl))) (b_cons (s_setA ok (e_call ok (e_glob ok (v := .ref 70) (by kernel_rfl) (by kernel_rfl)) (l_cons rfl (e_slot ok 4 (by kernel_rfl)) l_nil)) (e_slot ok 0 (by kernel_rfl))) (b_cons (s_setA ok (e_slot ok 5 (by kernel_rfl)) (e_slot ok 0 (by kernel_rfl))) b_nil))))
theorem g_185 (ok : PxOk (PX prog w h)) {k : Nat} {args : List AV} {W : Store} {Q : AV → Store → Prop} {X : Store → Prop} (hl : args.length = 6) (hq : q_185 (PX prog w h) k X (start [Str.ofString "self", Str.ofString "voters", Str.ofString "outgoing", Str.ofString "learners", Str.ofString "learners_next", Str.ofString "auto_leave"] [] args) W (retQ Q)) : CodeOk (PX prog w h) (k + 5) 185 args W Q X := fun_call ok (f_185 w) (t_185 w) (r_185 ok k) hl.symm hq
theorem r_192 (ok : PxOk (PX prog w h)) (k : Nat) : BS (PX prog w h) k (mT 26 1).2 [Str.ofString "self"] (mT 26 1).1 (q_192 (PX prog w h) k) := b_cons (s_ret (e_tuple (by decide) (l_cons rfl (e_call ok (e_glob ok (v := .ty "tuple") (by kernel_rfl) (by kernel_rfl)) (l_cons rfl (e_attr ok rfl (e_slot ok 0 (by kernel_rfl))) l_nil)) (l_cons rfl (e_call ok (e_glob ok (v := .ty "tuple") (by kernel_rfl) (by kernel_rfl)) (l_cons rfl (e_attr ok rfl (e_slot ok 0 (by kernel_rfl))) l_nil)) (l_cons rfl (e_call ok (e_glob ok (v := .ty "tuple") (by kernel_rfl) (by kernel_rfl)) (l_cons rfl (e_attr ok rfl (e_slot ok 0 (by kernel_rfl))) l_nil)) (l_cons rfl (e_call ok (e_glob ok (v := .ty "tuple") (by kernel_rfl) (by kernel_rfl)) (l_cons rfl (e_attr ok rfl (e_slot ok 0 (by kernel_rfl))) l_nil)) (l_cons rfl (e_attr ok rfl (e_slot ok 0 (by kernel_rfl))) l_nil))))))) b_nil
theorem g_192 (ok : PxOk (PX prog w h)) {k : Nat} {args : List AV} {W : Store} {Q : AV → Store → Prop} {X : Store → Prop} (hl : args.length = 1) (hq : q_192 (PX prog w h) k X (start [Str.ofString "self"] [] args) W (retQ Q)) : CodeOk (PX prog w h) (k + 5) 192 args W Q X := fun_call ok (f_192 w) (t_192 w) (r_192 ok k) hl.symm hq
theorem r_199 (ok : PxOk (PX prog w h)) (k : Nat) : BS (PX prog w h) k (mT 26 2).2 [Str.ofString "self"] (mT 26 2).1 (q_199 (PX prog w h) k) := b_cons (s_ret (e_call ok (e_glob ok (v := .ref 251) (by kernel_rfl) (by kernel_rfl)) (l_cons rfl (e_attr ok rfl (e_slot ok 0 (by kernel_rfl))) (l_cons rfl (e_attr ok rfl (e_slot ok 0 (by kernel_rfl))) (l_cons rfl (e_attr ok rfl (e_slot ok 0 (by kernel_rfl))) (l_cons rfl (e_attr ok rfl (e_slot ok 0 (by kernel_rfl))) (l_cons rfl (e_attr ok rfl (e_slot ok 0 (by kernel_rfl))) l_nil))))))) b_nil
theorem g_199 (ok : PxOk (PX prog w h)) {k : Nat} {args : List AV} {W : Store} {Q : AV → Store → Prop} {X : Store → Prop} (hl : args.length = 1) (hq : q_199 (PX prog w h) k X (start [Str.ofString "self"] [] args) W (retQ Q)) : CodeOk (PX prog w h) (k + 5) 199 args W Q X := fun_call ok (f_199 w) (t_199 w) (r_199 ok k) hl.symm hq
theorem r_206 (ok : PxOk (PX prog w h)) (k : Nat) : BS (PX prog w h) k (mT 26 3).2 [Str.ofString "self"] (mT 26 3).1 (q_206 (PX prog w h) k) := b_cons (s_ret (e_cmp ok rfl (e_call ok (e_glob ok (v := .blt "len") (by kernel_rfl) (by kernel_rfl)) (l_cons rfl (e_attr ok rfl (e_slot ok 0 (by kernel_rfl))) l_nil)) e_int)) b_nil
theorem g_206 (ok : PxOk (PX prog w h)) {k : Nat} {args : List AV} {W : Store} {Q : AV → Store → Prop} {X : Store → Prop} (hl : args.length = 1) (hq : q_206 (PX prog w h) k X (start [Str.ofString "self"] [] args) W (retQ Q)) : CodeOk (PX prog w h) (k + 5) 206 args W Q X := fun_call ok (f_206 w) (t_206 w) (r_206 ok k) hl.symm hq
theorem r_213 (ok : PxOk (PX prog w h)) (k : Nat) : BS (PX prog w h) k (mT 26 4).2 [Str.ofString "self"] (mT 26 4).1 (q_213 (PX prog w h) k) := b_cons (s_ret (e_call ok (e_glob ok (v := .ref 70) (by kernel_rfl) (by kernel_rfl)) (l_cons rfl (e_bin (e_attr ok rfl (e_slot ok 0 (by kernel_rfl))) (e_attr ok rfl (e_slot ok 0 (by kernel_rfl)))) l_nil))) b_nil
theorem g_213 (ok : PxOk (PX prog w h)) {k : Nat} {args : List AV} {W : Store} {Q : AV → Store → Prop} {X : Store → Prop} (hl : args.length = 1) (hq : q_213 (PX prog w h) k X (start [Str.ofString "self"] [] args) W (retQ Q)) : CodeOk (PX prog w h) (k + 5) 213 args W Q X := fun_call ok (f_213 w) (t_213 w) (r_213 ok k) hl.symm hq
theorem r_220 (ok : PxOk (PX prog w h)) (k : Nat) : BS (PX prog w h) k (mT 26 5).2 [Str.ofString "self"] (mT 26 5).1 (q_220 (PX prog w h) k) := b_cons (s_ret (e_call ok (e_glob ok (v := .ref 70) (by kernel_rfl) (by kernel_rfl)) (l_cons rfl (e_bin (e_bin (e_attr ok rfl (e_slot ok 0 (by kernel_rfl))) (e_attr ok rfl (e_slot ok 0 (by kernel_rfl)))) (e_attr ok rfl (e_slot ok 0 (by kernel_rfl)))) l_nil))) b_nil
theorem g_220 (ok : PxOk (PX prog w h)) {k : Nat} {args : List AV} {W : Store} {Q : AV → Store → Prop} {X : Store → Prop} (hl : args.length = 1) (hq : q_220 (PX prog w h) k X (start [Str.ofString "self"] [] args) W (retQ Q)) : CodeOk (PX prog w h) (k + 5) 220 args W Q X := fun_call ok (f_220 w) (t_220 w) (r_220 ok k) hl.symm hq
theorem r_227 (ok : PxOk (PX prog w h)) (k : Nat) : BS (PX prog w h) k (mT 26 6).2 [Str.ofString "self", Str.ofString "acked"] (mT 26 6).1 (q_227 (PX prog w h) k) := b_cons (s_ret (e_call ok (e_glob ok (v := .ref 164) (by kernel_rfl) (by kernel_rfl)) (l_cons rfl (e_attr ok rfl (e_slot ok 0 (by kernel_rfl))) (l_cons rfl (e_attr ok rfl (e_slot ok 0 (by kernel_rfl))) (l_cons rfl (e_slot ok 1 (by kernel_rfl)) l_nil))))) b_nil
theorem g_227 (ok : PxOk (PX prog w h)) {k : Nat} {args : List AV} {W : Store} {Q : AV → Store → Prop} {X : Store → Prop} (hl : args.length = 2) (hq : q_227 (PX prog w h) k X (start [Str.ofString "self", Str.ofString "acked"] [] args) W (retQ Q)) : CodeOk (PX prog w h) (k + 5) 227 args W Q X := fun_call ok (f_227 w) (t_227 w) (r_227 ok k) hl.symm hq
theorem r_234 (ok : PxOk (PX prog w h)) (k : Nat) : BS (PX prog w h) k (mT 26 7).2 [Str.ofString "self", Str.ofString "votes"] (mT 26 7).1 (q_234 (PX prog w h) k) := b_cons (s_ret (e_call ok (e_glob ok (v := .ref 171) (by kernel_rfl) (by kernel_rfl)) (l_cons rfl (e_attr ok rfl (e_slot ok 0 (by kernel_rfl))) (l_cons rfl (e_attr ok rfl (e_slot ok 0 (by kernel_rfl))) (l_cons rfl (e_slot ok 1 (by kernel_rfl)) l_nil))))) b_nil
theorem g_234 (ok : PxOk (PX prog w h)) {k : Nat} {args : List AV} {W : Store} {Q : AV → Store → Prop} {X : Store → Prop} (hl : args.length = 2) (hq : q_234 (PX prog w h) k X (start [Str.ofString "self", Str.ofString "votes"] [] args) W (retQ Q)) : CodeOk (PX prog w h) (k + 5) 234 args W Q X := fun_call ok (f_234 w) (t_234 w) (r_234 ok k) hl.symm hq
theorem r_241 (ok : PxOk (PX prog w h)) (k : Nat) : BS (PX prog w h) k (mT 26 8).2 [Str.ofString "self"] (mT 26 8).1 (q_241 (PX prog w h) k) := b_cons (s_ret (e_call ok (e_glob ok (v := .ref 101) (by kernel_rfl) (by kernel_rfl)) (l_cons rfl (e_attr ok rfl (e_slot ok 0 (by kernel_rfl))) (l_cons rfl (e_attr ok rfl (e_slot ok 0 (by kernel_rfl))) (l_cons rfl (e_attr ok rfl (e_slot ok 0 (by kernel_rfl))) (l_cons rfl (e_attr ok rfl (e_slot ok 0 (by kernel_rfl))) (l_cons rfl (e_attr ok rfl (e_slot ok 0 (by kernel_rfl))) l_nil))))))) b_nil
theorem g_241 (ok : PxOk (PX prog w h)) {k : Nat} {args : List AV} {W : Store} {Q : AV → Store → Prop} {X : Store → Prop} (hl : args.length = 1) (hq : q_241 (PX prog w h) k X (start [Str.ofString "self"] [] args) W (retQ Q)) : CodeOk (PX prog w h) (k + 5) 241 args W Q X := fun_call ok (f_241 w) (t_241 w) (r_241 ok k) hl.symm hq
theorem r_248 (ok : PxOk (PX prog w h)) (k : Nat) : BS (PX prog w h) k (mT 26 9).2 [Str.ofString "self", Str.ofString "nid"] (mT 26 9).1 (q_248 (PX prog w h) k) := b_cons (s_if (t_cmp ok rfl (e_glob ok (v := .int 0) (by kernel_rfl) (by kernel_rfl)) (e_meth ok rfl (e_slot ok 0 (by kernel_rfl)) l_nil)) (b_cons s_never b_nil) b_nil) (b_cons (s_for1 ok 1 (by kernel_rfl) rfl (e_attr ok rfl (e_slot ok 0 (by kernel_rfl))) (b_cons (s_if (t_cmp ok rfl (e_slot ok 1 (by kernel_rfl)) (e_attr ok rfl (e_slot ok 0 (by kernel_rfl)))) (b_cons s_never b_nil) b_nil) (b_cons (s_if (t_cmp ok rfl (e_slot ok 1 (by kernel_rfl)) (e_attr ok rfl (e_slot ok 0 (by kernel_rfl)))) (b_cons s_never b_nil) b_nil) (b_cons (s_if (t_cmp ok rfl (e_slot ok 1 (by kernel_rfl)) (e_attr ok rfl (e_slot ok 0 (by kernel_rfl)))) (b_cons s_never b_nil) b_nil) b_nil)))) (b_cons (s_for1 ok 1 (by kernel_rfl) rfl (e_attr ok rfl (e_slot ok 0 (by kernel_rfl))) (b_cons (s_if (t_cmp ok rfl (e_slot ok 1 (by kernel_rfl)) (e_attr ok rfl (e_slot ok 0 (by kernel_rfl)))) (b_cons s_never b_nil) b_nil) (b_cons (s_if (t_cmp ok rfl (e_slot ok 1 (by kernel_rfl)) (e_attr ok rfl (e_slot ok 0 (by kernel_rfl)))) (b_cons s_never b_nil) b_nil) b_nil))) (b_cons (s_if (t_not (t_call (e_meth ok rfl (e_slot ok 0 (by kernel_rfl)) l_nil))) (b_cons (s_if (t_attr (e_attr ok rfl (e_slot ok 0 (by kernel_rfl)))) (b_cons s_never b_nil) b_nil) b_nil) b_nil) b_nil)))
theorem g_248 (ok : PxOk (PX prog w h)) {k : Nat} {args : List AV} {W : Store} {Q : AV → Store → Prop} {X : Store → Prop} (hl : args.length = 1) (hq : q_248 (PX prog w h) k X (start [Str.ofString "self"] [Str.ofString "nid"] args) W (retQ Q)) : CodeOk (PX prog w h) (k + 5) 248 args W Q X := fun_call ok (f_248 w) (t_248 w) (r_248 ok k) hl.symm hq
theorem r_262 (ok : PxOk (PX prog w h)) (k : Nat) : BS (PX prog w h) k (fT 27).2 [Str.ofString "conf", Str.ofString "config"] (fT 27).1 (q_262 (PX prog w h) k) := b_cons (s_asg 1 (by kernel_rfl) rfl (e_call ok (e_glob ok (v := .ref 251) (by kernel_rfl) (by kernel_rfl)) (l_cons rfl (e_attr ok rfl (e_slot ok 0 (by kernel_rfl))) (l_cons rfl (e_attr ok rfl (e_slot ok 0 (by kernel_rfl))) (l_cons rfl (e_attr ok rfl (e_slot ok 0 (by kernel_rfl))) (l_cons rfl (e_attr ok rfl (e_slot ok 0 (by kernel_rfl))) (l_cons rfl (e_attr ok rfl (e_slot ok 0 (by kernel_rfl))) l_nil))))))) (b_cons (s_expr rfl (e_meth ok rfl (e_slot ok 1 (by kernel_rfl)) l_nil)) (b_cons (s_ret (e_slot ok 1 (by kernel_rfl))) b_nil))
theorem g_262 (ok : PxOk (PX prog w h)) {k : Nat} {args : List AV} {W : Store} {Q : AV → Store → Prop} {X : Store → Prop} (hl : args.length = 1) (hq : q_262 (PX prog w h) k X (start [Str.ofString "conf"] [Str.ofString "config"] args) W (retQ Q)) : CodeOk (PX prog w h) (k + 5) 262 args W Q X := fun_call ok (f_262 w) (t_262 w) (r_262 ok k) hl.symm hq
theorem r_269 (ok : PxOk (PX prog w h)) (k : Nat) : BS (PX prog w h) k (fT 28).2 [Str.ofString "ids", Str.ofString "nid"] (fT 28).1 (q_269 (PX prog w h) k) := b_cons (s_ret (e_call ok (e_glob ok (v := .ref 70) (by kernel_rfl) (by kernel_rfl)) (l_cons rfl (e_bin (e_slot ok 0 (by kernel_rfl)) (e_list (by decide) (l_cons rfl (e_slot ok 1 (by kernel_rfl)) l_nil))) l_nil))) b_nil
theorem g_269 (ok : PxOk (PX prog w h)) {k : Nat} {args : List AV} {W : Store} {Q : AV → Store → Prop} {X : Store → Prop} (hl : args.length = 2) (hq : q_269 (PX prog w h) k X (start [Str.ofString "ids", Str.ofString "nid"] [] args) W (retQ Q)) : CodeOk (PX prog w h) (k + 5) 269 args W Q X := fun_call ok (f_269 w) (t_269 w) (r_269 ok k) hl.symm hq
theorem r_274 (ok : PxOk (PX prog w h)) (k : Nat) : BS (PX prog w h) k (fT 29).2 [Str.ofString "ids", Str.ofString "nid"] (fT 29).1 (q_274 (PX prog w h) k) := b_cons (s_ret (e_compIf ok tg1_ok (by kernel_rfl) (e_slot ok 0 (by kernel_rfl)) (t_cmp ok rfl (e_slot ok 0 (by kernel_rfl)) (e_slot ok 2 (by kernel_rfl))) (e_slot ok 0 (by kernel_rfl)))) b_nil
theorem g_274 (ok : PxOk (PX prog w h)) {k : Nat} {args : List AV} {W : Store} {Q : AV → Store → Prop} {X : Store → Prop} (hl : args.length = 2) (hq : q_274 (PX prog w h) k X (start [Str.ofString "ids", Str.ofString "nid"] [] args) W (retQ Q)) : CodeOk (PX prog w h) (k + 5) 274 args W Q X := fun_call ok (f_274 w) (t_274 w) (r_274 ok k) hl.symm hq
theorem r_281 (ok : PxOk (PX prog w h)) (k : Nat) : BS (PX prog w h) k (fT 30).2 [Str.ofString "a", Str.ofString "b", Str.ofString "count", Str.ofString "nid"] (fT 30).1 (q_281 (PX prog w h) k) := b_cons (s_asg 2 (by kernel_rfl) rfl e_int) (b_cons (s_for1 ok 3 (by kernel_rfl) rfl (e_slot ok 0 (by kernel_rfl)) (b_cons (s_if (t_cmp ok rfl (e_slot ok 3 (by kernel_rfl)) (e_slot ok 1 (by kernel_rfl))) (b_cons (s_aug ok 2 (by kernel_rfl) (by kernel_rfl) e_int) b_nil) b_nil) b_nil)) (b_cons (s_for1 ok 3 (by kernel_rfl) rfl (e_slot ok 1 (by kernel_rfl)) (b_cons (s_if (t_cmp ok rfl (e_slot ok 3 (by kernel_rfl)) (e_slot ok 0 (by kernel_rfl))) (b_cons (s_aug ok 2 (by kernel_rfl) (by kernel_rfl) e_int) b_nil) b_nil) b_nil)) (b_cons (s_ret (e_slot ok 2 (by kernel_rfl))) b_nil)))
theorem g_281 (ok : PxOk (PX prog w h)) {k : Nat} {args : List AV} {W : Store} {Q : AV → Store → Prop} {X : Store → Prop} (hl : args.length = 2) (hq : q_281 (PX prog w h) k X (start [Str.ofString "a", Str.ofString "b"] [Str.ofString "count", Str.ofString "nid"] args) W (retQ Q)) : CodeOk (PX prog w h) (k + 5) 281 args W Q X := fun_call ok (f_281 w) (t_281 w) (r_281 ok k) hl.symm hq
theorem r_295 (ok : PxOk (PX prog w h)) (k : Nat) : BS (PX prog w h) k (mT 31 0).2 [Str.ofString "self", Str.ofString "config"] (mT 31 0).1 (q_295 (PX prog w h) k) := b_cons (s_setA ok (e_slot ok 1 (by kernel_rfl)) (e_slot ok 0 (by kernel_rfl))) b_nil
theorem g_295 (ok : PxOk (PX prog w h)) {k : Nat} {args : List AV} {W : Store} {Q : AV → Store → Prop} {X : Store → Prop} (hl : args.length = 2) (hq : q_295 (PX prog w h) k X (start [Str.ofString "self", Str.ofString "config"] [] args) W (retQ Q)) : CodeOk (PX prog w h) (k + 5) 295 args W Q X := fun_call ok (f_295 w) (t_295 w) (r_295 ok k) hl.symm hq
theorem r_302 (ok : PxOk (PX prog w h)) (k : Nat) : BS (PX prog w h) k (mT 31 1).2 [Str.ofString "self", Str.ofString "auto_leave", Str.ofString "changes", Str.ofString "made"] (mT 31 1).1 (q_302 (PX prog w h) k) := b_cons (s_asg 3 (by kernel_rfl) rfl (e_meth ok rfl (e_slot ok 0 (by kernel_rfl)) l_nil)) (b_cons (s_if (t_call (e_meth ok rfl (e_slot ok 3 (by kernel_rfl)) l_nil)) (b_cons (s_raise ok (by kernel_rfl) e_str) b_nil) b_nil) (b_cons (s_if (t_not (t_attr (e_attr ok rfl (e_slot ok 3 (by kernel_rfl))))) (b_cons (s_raise ok (by kernel_rfl) e_str) b_nil) b_nil) (b_cons (s_setA ok (e_call ok (e_glob ok (v := .ref 70) (by kernel_rfl) (by kernel_rfl)) (l_cons rfl (e_attr ok rfl (e_slot ok 3 (by kernel_rfl))) l_nil)) (e_slot ok 3 (by kernel_rfl))) (b_cons (s_expr rfl (e_meth ok rfl (e_slot ok 0 (by kernel_rfl)) (l_cons rfl (e_slot ok 3 (by kernel_rfl)) (l_cons rfl (e_slot ok 2 (by kernel_rfl)) l_nil)))) (b_cons (s_setA ok (e_slot ok 1 (by kernel_rfl)) (e_slot ok 3 (by kernel_rfl))) (b_cons (s_expr rfl (e_meth ok rfl (e_slot ok 3 (by kernel_rfl)) l_nil)) (b_cons (s_ret (e_slot ok 3 (by kernel_rfl))) b_nil)))))))
theorem g_302 (ok : PxOk (PX prog w h)) {k : Nat} {args : List AV} {W : Store} {Q : AV → Store → Prop} {X : Store → Prop} (hl : args.length = 3) (hq : q_302 (PX prog w h) k X (start [Str.ofString "self", Str.ofString "auto_leave", Str.ofString "changes"] [Str.ofString "made"] args) W (retQ Q)) : CodeOk (PX prog w h) (k + 5) 302 args W Q X := fun_call ok (f_302 w) (t_302 w) (r_302 ok k) hl.symm hq
theorem r_309 (ok : PxOk (PX prog w h)) (k : Nat) : BS (PX prog w h) k (mT 31 2).2 [Str.ofString "self", Str.ofString "made"] (mT 31 2).1 (q_309 (PX prog w h) k) := b_cons (s_asg 1 (by kernel_rfl) rfl (e_meth ok rfl (e_slot ok 0 (by kernel_rfl)) l_nil)) (b_cons (s_if (t_not (t_call (e_meth ok rfl (e_slot ok 1 (by kernel_rfl)) l_nil))) (b_cons (s_raise ok (by kernel_rfl) e_str) b_nil) b_nil) (b_cons (s_setA ok (e_call ok (e_glob ok (v := .ref 70) (by kernel_rfl) (by kernel_rfl)) (l_cons rfl (e_bin (e_attr ok rfl (e_slot ok 1 (by kernel_rfl))) (e_attr ok rfl (e_slot ok 1 (by kernel_rfl)))) l_nil)) (e_slot ok 1 (by kernel_rfl))) (b_cons (s_setA ok (e_list (by decide) l_nil) (e_slot ok 1 (by kernel_rfl))) (b_cons (s_setA ok (e_list (by decide) l_nil) (e_slot ok 1 (by kernel_rfl))) (b_cons (s_setA ok e_bool (e_slot ok 1 (by kernel_rfl))) (b_cons (s_if (t_not (t_attr (e_attr ok rfl (e_slot ok 1 (by kernel_rfl))))) (b_cons (s_raise ok (by kernel_rfl) e_str) b_nil) b_nil) (b_cons (s_expr rfl (e_meth ok rfl (e_slot ok 1 (by kernel_rfl)) l_nil)) (b_cons (s_ret (e_slot ok 1 (by kernel_rfl))) b_nil))))))))
theorem g_309 (ok : PxOk (PX prog w h)) {k : Nat} {args : List AV} {W : Store} {Q : AV → Store → Prop} {X : Store → Prop} (hl : args.length = 1) (hq : q_309 (PX prog w h) k X (start [Str.ofString "self"] [Str.ofString "made"] args) W (retQ Q)) : CodeOk (PX prog w h) (k + 5) 309 args W Q X := fun_call ok (f_309 w) (t_309 w) (r_309 ok k) hl.symm hq
theorem r_316 (ok : PxOk (PX prog w h)) (k : Nat) : BS (PX prog w h) k (mT 31 3).2 [Str.ofString "self", Str.ofString "changes", Str.ofString "made"] (mT 31 3).1 (q_316 (PX prog w h) k) := b_cons (s_asg 2 (by kernel_rfl) rfl (e_meth ok rfl (e_slot ok 0 (by kernel_rfl)) l_nil)) (b_cons (s_if (t_call (e_meth ok rfl (e_slot ok 2 (by kernel_rfl)) l_nil)) (b_cons (s_raise ok (by kernel_rfl) e_str) b_nil) b_nil) (b_cons (s_if (t_not (t_attr (e_attr ok rfl (e_slot ok 2 (by kernel_rfl))))) (b_cons (s_raise ok (by kernel_rfl) e_str) b_nil) b_nil) (b_cons (s_expr rfl (e_meth ok rfl (e_slot ok 0 (by kernel_rfl)) (l_cons rfl (e_slot ok 2 (by kernel_rfl)) (l_cons rfl (e_slot ok 1 (by kernel_rfl)) l_nil)))) (b_cons (s_if (t_cmp ok rfl (e_call ok (e_glob ok (v := .ref 281) (by kernel_rfl) (by kernel_rfl)) (l_cons rfl (e_attr ok rfl (e_attr ok rfl (e_slot ok 0 (by kernel_rfl)))) (l_cons rfl (e_attr ok rfl (e_slot ok 2 (by kernel_rfl))) l_nil))) e_int) (b_cons (s_raise ok (by kernel_rfl) e_str) b_nil) b_nil) (b_cons (s_expr rfl (e_meth ok rfl (e_slot ok 2 (by kernel_rfl)) l_nil)) (b_cons (s_ret (e_slot ok 2 (by kernel_rfl))) b_nil))))))
theorem g_316 (ok : PxOk (PX prog w h)) {k : Nat} {args : List AV} {W : Store} {Q : AV → Store → Prop} {X : Store → Prop} (hl : args.length = 2) (hq : q_316 (PX prog w h) k X (start [Str.ofString "self", Str.ofString "changes"] [Str.ofString "made"] args) W (retQ Q)) : CodeOk (PX prog w h) (k + 5) 316 args W Q X := fun_call ok (f_316 w) (t_316 w) (r_316 ok k) hl.symm hq
theorem r_323 (ok : PxOk (PX prog w h)) (k : Nat) : BS (PX prog w h) k (mT 31 4).2 [Str.ofString "self"] (mT 31 4).1 (q_323 (PX prog w h) k) := b_cons (s_expr rfl (e_meth ok rfl (e_attr ok rfl (e_slot ok 0 (by kernel_rfl))) l_nil)) (b_cons (s_ret (e_meth ok rfl (e_attr ok rfl (e_slot ok 0 (by kernel_rfl))) l_nil)) b_nil)
theorem g_323 (ok : PxOk (PX prog w h)) {k : Nat} {args : List AV} {W : Store} {Q : AV → Store → Prop} {X : Store → Prop} (hl : args.length = 1) (hq : q_323 (PX prog w h) k X (start [Str.ofString "self"] [] args) W (retQ Q)) : CodeOk (PX prog w h) (k + 5) 323 args W Q X := fun_call ok (f_323 w) (t_323 w) (r_323 ok k) hl.symm hq
theorem r_330 (ok : PxOk (PX prog w h)) (k : Nat) : BS (PX prog w h) k (mT 31 5).2 [Str.ofString "self", Str.ofString "made", Str.ofString "changes", Str.ofString "kind", Str.ofString "nid"] (mT 31 5).1 (q_330 (PX prog w h) k) := b_cons (s_for2 ok 3 4 (by kernel_rfl) (by kernel_rfl) (by kernel_rfl) rfl (e_slot ok 2 (by kernel_rfl)) (b_cons (s_if (t_cmp ok rfl (e_slot ok 4 (by kernel_rfl)) (e_glob ok (v := .int 0) (by kernel_rfl) (by kernel_rfl))) (b_cons s_cont b_nil) b_nil) (b_cons (s_if (t_cmp ok rfl (e_slot ok 3 (by kernel_rfl)) (e_glob ok (v := .int 0) (by kernel_rfl) (by kernel_rfl))) (b_cons (s_expr rfl (e_meth ok rfl (e_slot ok 0 (by kernel_rfl)) (l_cons rfl (e_slot ok 1 (by kernel_rfl)) (l_cons rfl (e_slot ok 4 (by kernel_rfl)) l_nil)))) b_nil) (b_cons (s_if (t_cmp ok rfl (e_slot ok 3 (by kernel_rfl)) (e_glob ok (v := .int 3) (by kernel_rfl) (by kernel_rfl))) (b_cons (s_expr rfl (e_meth ok rfl (e_slot ok 0 (by kernel_rfl)) (l_cons rfl (e_slot ok 1 (by kernel_rfl)) (l_cons rfl (e_slot ok 4 (by kernel_rfl)) l_nil)))) b_nil) (b_cons (s_if (t_cmp ok rfl (e_slot ok 3 (by kernel_rfl)) (e_glob ok (v := .int 1) (by kernel_rfl) (by kernel_rfl))) (b_cons (s_expr rfl (e_meth ok rfl (e_slot ok 0 (by kernel_rfl)) (l_cons rfl (e_slot ok 1 (by kernel_rfl)) (l_cons rfl (e_slot ok 4 (by kernel_rfl)) l_nil)))) b_nil) (b_cons (s_if (t_cmp ok rfl (e_slot ok 3 (by kernel_rfl)) (e_glob ok (v := .int 2) (by kernel_rfl) (by kernel_rfl))) (b_cons (s_raise ok (by kernel_rfl) (e_fstr (by decide) (e_slot ok 3 (by kernel_rfl)))) b_nil) b_nil) b_nil)) b_nil)) b_nil)) b_nil))) (b_cons (s_if (t_not (t_attr (e_attr ok rfl (e_slot ok 1 (by kernel_rfl))))) (b_cons (s_raise ok (by kernel_rfl) e_str) b_nil) b_nil) b_nil)
theorem g_330 (ok : PxOk (PX prog w h)) {k : Nat} {args : List AV} {W : Store} {Q : AV → Store → Prop} {X : Store → Prop} (hl : args.length = 3) (hq : q_330 (PX prog w h) k X (start [Str.ofString "self", Str.ofString "made", Str.ofString "changes"] [Str.ofString "kind", Str.ofString "nid"] args) W (retQ Q)) : CodeOk (PX prog w h) (k + 5) 330 args W Q X := fun_call ok (f_330 w) (t_330 w) (r_330 ok k) hl.symm hq
theorem r_337 (ok : PxOk (PX prog w h)) (k : Nat) : BS (PX prog w h) k (mT 31 6).2 [Str.ofString "self", Str.ofString "made", Str.ofString "nid"] (mT 31 6).1 (q_337 (PX prog w h) k) := b_cons (s_setA ok (e_call ok (e_glob ok (v := .ref 274) (by kernel_rfl) (by kernel_rfl)) (l_cons rfl (e_attr ok rfl (e_slot ok 1 (by kernel_rfl))) (l_cons rfl (e_slot ok 2 (by kernel_rfl)) l_nil))) (e_slot ok 1 (by kernel_rfl))) (b_cons (s_setA ok (e_call ok (e_glob ok (v := .ref 274) (by kernel_rfl) (by kernel_rfl)) (l_cons rfl (e_attr ok rfl (e_slot ok 1 (by kernel_rfl))) (l_cons rfl (e_slot ok 2 (by kernel_rfl)) l_nil))) (e_slot ok 1 (by kernel_rfl))) (b_cons (s_setA ok (e_call ok (e_glob ok (v := .ref 269) (by kernel_rfl) (by kernel_rfl)) (l_cons rfl (e_attr ok rfl (e_slot ok 1 (by kernel_rfl))) (l_cons rfl (e_slot ok 2 (by kernel_rfl)) l_nil))) (e_slot ok 1 (by kernel_rfl))) b_nil))
theorem g_337 (ok : PxOk (PX prog w h)) {k : Nat} {args : List AV} {W : Store} {Q : AV → Store → Prop} {X : Store → Prop} (hl : args.length = 3) (hq : q_337 (PX prog w h) k X (start [Str.ofString "self", Str.ofString "made", Str.ofString "nid"] [] args) W (retQ Q)) : CodeOk (PX prog w h) (k + 5) 337 args W Q X := fun_call ok (f_337 w) (t_337 w) (r_337 ok k) hl.symm hq
theorem r_344 (ok : PxOk (PX prog w h)) (k : Nat) : BS (PX prog w h) k (mT 31 7).2 [Str.ofString "self", Str.ofString "made", Str.ofString "nid"] (mT 31 7).1 (q_344 (PX prog w h) k) := b_cons (s_if (t_cmp ok rfl (e_slot ok 2 (by kernel_rfl)) (e_attr ok rfl (e_slot ok 1 (by kernel_rfl)))) (b_cons s_retN b_nil) b_nil) (b_cons (s_expr rfl (e_meth ok rfl (e_slot ok 0 (by kernel_rfl)) (l_cons rfl (e_slot ok 1 (by kernel_rfl)) (l_cons rfl (e_slot ok 2 (by kernel_rfl)) l_nil)))) (b_cons (s_if (t_cmp ok rfl (e_slot ok 2 (by kernel_rfl)) (e_attr ok rfl (e_slot ok 1 (by kernel_rfl)))) (b_cons (s_setA ok (e_call ok (e_glob ok (v := .ref 269) (by kernel_rfl) (by kernel_rfl)) (l_cons rfl (e_attr ok rfl (e_slot ok 1 (by kernel_rfl))) (l_cons rfl (e_slot ok 2 (by kernel_rfl)) l_nil))) (e_slot ok 1 (by kernel_rfl))) b_nil) (b_cons (s_setA ok (e_call ok (e_glob ok (v := .ref 269) (by kernel_rfl) (by kernel_rfl)) (l_cons rfl (e_attr ok rfl (e_slot ok 1 (by kernel_rfl))) (l_cons rfl (e_slot ok 2 (by kernel_rfl)) l_nil))) (e_slot ok 1 (by kernel_rfl))) b_nil)) b_nil))
theorem g_344 (ok : PxOk (PX prog w h)) {k : Nat} {args : List AV} {W : Store} {Q : AV → Store → Prop} {X : Store → Prop} (hl : args.length = 3) (hq : q_344 (PX prog w h) k X (start [Str.ofString "self", Str.ofString "made", Str.ofString "nid"] [] args) W (retQ Q)) : CodeOk (PX prog w h) (k + 5) 344 args W Q X := fun_call ok (f_344 w) (t_344 w) (r_344 ok k) hl.symm hq
theorem r_351 (ok : PxOk (PX prog w h)) (k : Nat) : BS (PX prog w h) k (mT 31 8).2 [Str.ofString "self", Str.ofString "made", Str.ofString "nid"] (mT 31 8).1 (q_351 (PX prog w h) k) := b_cons (s_setA ok (e_call ok (e_glob ok (v := .ref 274) (by kernel_rfl) (by kernel_rfl)) (l_cons rfl (e_attr ok rfl (e_slot ok 1 (by kernel_rfl))) (l_cons rfl (e_slot ok 2 (by kernel_rfl)) l_nil))) (e_slot ok 1 (by kernel_rfl))) (b_cons (s_setA ok (e_call ok (e_glob ok (v := .ref 274) (by kernel_rfl) (by kernel_rfl)) (l_cons rfl (e_attr ok rfl (e_slot ok 1 (by kernel_rfl))) (l_cons rfl (e_slot ok 2 (by kernel_rfl)) l_nil))) (e_slot ok 1 (by kernel_rfl))) (b_cons (s_setA ok (e_call ok (e_glob ok (v := .ref 274) (by kernel_rfl) (by kernel_rfl)) (l_cons rfl (e_attr ok rfl (e_slot ok 1 (by kernel_rfl))) (l_cons rfl (e_slot ok 2 (by kernel_rfl)) l_nil))) (e_slot ok 1 (by kernel_rfl))) b_nil))
theorem g_351 (ok : PxOk (PX prog w h)) {k : Nat} {args : List AV} {W : Store} {Q : AV → Store → Prop} {X : Store → Prop} (hl : args.length = 3) (hq : q_351 (PX prog w h) k X (start [Str.ofString "self", Str.ofString "made", Str.ofString "nid"] [] args) W (retQ Q)) : CodeOk (PX prog w h) (k + 5) 351 args W Q X := fun_call ok (f_351 w) (t_351 w) (r_351 ok k) hl.symm hq
theorem r_365 (ok : PxOk (PX prog w h)) (k : Nat) : BS (PX prog w h) k (fT 32).2 [Str.ofString "config", Str.ofString "change", Str.ofString "changer", Str.ofString "auto_leave", Str.ofString "use"] (fT 32).1 (q_365 (PX prog w h) k) := b_cons (s_asg 2 (by kernel_rfl) rfl (e_call ok (e_glob ok (v := .ref 354) (by kernel_rfl) (by kernel_rfl)) (l_cons rfl (e_slot ok 0 (by kernel_rfl)) l_nil))) (b_cons (s_if (t_call (e_meth ok rfl (e_slot ok 1 (by kernel_rfl)) l_nil)) (b_cons (s_ret (e_meth ok rfl (e_slot ok 2 (by kernel_rfl)) l_nil)) b_nil) b_nil) (b_cons (s_asg2 3 4 (by kernel_rfl) (by kernel_rfl) (by kernel_rfl) rfl (e_meth ok rfl (e_slot ok 1 (by kernel_rfl)) l_nil)) (b_cons (s_if (t_name (e_slot ok 4 (by kernel_rfl))) (b_cons (s_ret (e_meth ok rfl (e_slot ok 2 (by kernel_rfl)) (l_cons rfl (e_slot ok 3 (by kernel_rfl)) (l_cons rfl (e_attr ok rfl (e_slot ok 1 (by kernel_rfl))) l_nil)))) b_nil) b_nil) (b_cons (s_ret (e_meth ok rfl (e_slot ok 2 (by kernel_rfl)) (l_cons rfl (e_attr ok rfl (e_slot ok 1 (by kernel_rfl))) l_nil))) b_nil))))
theorem g_365 (ok : PxOk (PX prog w h)) {k : Nat} {args : List AV} {W : Store} {Q : AV → Store → Prop} {X : Store → Prop} (hl : args.length = 2) (hq : q_365 (PX prog w h) k X (start [Str.ofString "config", Str.ofString "change"] [Str.ofString "changer", Str.ofString "auto_leave", Str.ofString "use"] args) W (retQ Q)) : CodeOk (PX prog w h) (k + 5) 365 args W Q X := fun_call ok (f_365 w) (t_365 w) (r_365 ok k) hl.symm hq
theorem r_374 (ok : PxOk (PX prog w h)) (k : Nat) : BS (PX prog w h) k (fT 36).2 [Str.ofString "nums", Str.ofString "i"] (fT 36).1 (q_374 (PX prog w h) k) := b_cons (s_ret (e_bin (e_sub (e_slot ok 0 (by kernel_rfl)) (e_bin (e_slot ok 1 (by kernel_rfl)) (e_call ok (e_glob ok (v := .blt "len") (by kernel_rfl) (by kernel_rfl)) (l_cons rfl (e_slot ok 0 (by kernel_rfl)) l_nil)))) (e_bin e_int (e_bin (e_slot ok 1 (by kernel_rfl)) (e_call ok (e_glob ok (v := .blt "len") (by kernel_rfl) (by kernel_rfl)) (l_cons rfl (e_slot ok 0 (by kernel_rfl)) l_nil)))))) b_nil
theorem g_374 (ok : PxOk (PX prog w h)) {k : Nat} {args : List AV} {W : Store} {Q : AV → Store → Prop} {X : Store → Prop} (hl : args.length = 2) (hq : q_374 (PX prog w h) k X (start [Str.ofString "nums", Str.ofString "i"] [] args) W (retQ Q)) : CodeOk (PX prog w h) (k + 5) 374 args W Q X := fun_call ok (f_374 w) (t_374 w) (r_374 ok k) hl.symm hq
theorem r_381 (ok : PxOk (PX prog w h)) (k : Nat) : BS (PX prog w h) k (fT 37).2 [Str.ofString "x", Str.ofString "joint", Str.ofString "table", Str.ofString "now", Str.ofString "was", Str.ofString "i", Str.ofString "role"] (fT 37).1 (q_381 (PX prog w h) k) := b_cons (s_asg 2 (by kernel_rfl) rfl (e_tuple (by decide) (l_cons rfl (e_tuple (by decide) (l_cons rfl e_int (l_cons rfl e_int l_nil))) (l_cons rfl (e_tuple (by decide) (l_cons rfl e_int (l_cons rfl e_int l_nil))) (l_cons rfl (e_tuple (by decide) (l_cons rfl e_int (l_cons rfl e_int l_nil))) (l_cons rfl (e_tuple (by decide) (l_cons rfl e_int (l_cons rfl e_int l_nil))) (l_cons rfl (e_tuple (by decide) (l_cons rfl e_int (l_cons rfl e_int l_nil))) (l_cons rfl (e_tuple (by decide) (l_cons rfl e_int (l_cons rfl e_int l_nil))) (l_cons rfl (e_tuple (by decide) (l_cons rfl e_int (l_cons rfl e_int l_nil))) (l_cons rfl (e_tuple (by decide) (l_cons rfl e_int (l_cons rfl e_int l_nil))) l_nil)))))))))) (b_cons (s_if (t_name (e_slot ok 1 (by kernel_rfl))) (b_cons (s_asg 2 (by kernel_rfl) rfl (e_tuple (by decide) (l_cons rfl (e_tuple (by decide) (l_cons rfl e_int (l_cons rfl e_int l_nil))) (l_cons rfl (e_tuple (by decide) (l_cons rfl e_int (l_cons rfl e_int l_nil))) (l_cons rfl (e_tuple (by decide) (l_cons rfl e_int (l_cons rfl e_int l_nil))) (l_cons rfl (e_tuple (by decide) (l_cons rfl e_int (l_cons rfl e_int l_nil))) (l_cons rfl (e_tuple (by decide) (l_cons rfl e_int (l_cons rfl e_int l_nil))) (l_cons rfl (e_tuple (by decide) (l_cons rfl e_int (l_cons rfl e_int l_nil))) (l_cons rfl (e_tuple (by decide) (l_cons rfl e_int (l_cons rfl e_int l_nil))) (l_cons rfl (e_tuple (by decide) (l_cons rfl e_int (l_cons rfl e_int l_nil))) l_nil)))))))))) b_nil) b_nil) (b_cons (s_asg 3 (by kernel_rfl) rfl (e_list (by decide) (l_cons rfl e_int (l_cons rfl e_int (l_cons rfl e_int (l_cons rfl e_int (l_cons rfl e_int (l_cons rfl e_int (l_cons rfl e_int l_nil))))))))) (b_cons (s_asg 4 (by kernel_rfl) rfl (e_list (by decide) (l_cons rfl e_int (l_cons rfl e_int (l_cons rfl e_int (l_cons rfl e_int (l_cons rfl e_int (l_cons rfl e_int (l_cons rfl e_int l_nil))))))))) (b_cons (s_for1 ok 5 (by kernel_rfl) rfl (e_call ok (e_glob ok (v := .ty "range") (by kernel_rfl) (by kernel_rfl)) (l_cons rfl e_int (l_cons rfl (e_bin e_int (e_bin (e_bin (e_slot ok 0 (by kernel_rfl)) e_int) e_int)) l_nil))) (b_cons (s_asg 6 (by kernel_rfl) rfl (e_sub (e_slot ok 2 (by kernel_rfl)) (e_bin (e_bin (e_slot ok 0 (by kernel_rfl)) (e_bin e_int (e_bin (e_slot ok 5 (by kernel_rfl)) e_int))) e_int))) (b_cons (s_setI (e_sub (e_slot ok 6 (by kernel_rfl)) e_int) (e_slot ok 3 (by kernel_rfl)) (e_slot ok 5 (by kernel_rfl))) (b_cons (s_setI (e_sub (e_slot ok 6 (by kernel_rfl)) e_int) (e_slot ok 4 (by kernel_rfl)) (e_slot ok 5 (by kernel_rfl))) b_nil)))) (b_cons (s_ret (e_tuple (by decide) (l_cons rfl (e_call ok (e_glob ok (v := .ty "tuple") (by kernel_rfl) (by kernel_rfl)) (l_cons rfl (e_slot ok 3 (by kernel_rfl)) l_nil)) (l_cons rfl (e_call ok (e_glob ok (v := .ty "tuple") (by kernel_rfl) (by kernel_rfl)) (l_cons rfl (e_slot ok 4 (by kernel_rfl)) l_nil)) (l_cons rfl (e_and (e_cmp ok rfl e_int (e_slot ok 4 (by kernel_rfl))) (e_cmp ok rfl (e_bin (e_bin (e_slot ok 0 (by kernel_rfl)) e_int) e_int) e_int)) l_nil))))) b_nil)))))
theorem g_381 (ok : PxOk (PX prog w h)) {k : Nat} {args : List AV} {W : Store} {Q : AV → Store → Prop} {X : Store → Prop} (hl : args.length = 2) (hq : q_381 (PX prog w h) k X (start [Str.ofString "x", Str.ofString "joint"] [Str.ofString "table", Str.ofString "now", Str.ofString "was", Str.ofString "i", Str.ofString "role"] args) W (retQ Q)) : CodeOk (PX prog w h) (k + 5) 381 args W Q X := fun_call ok (f_381 w) (t_381 w) (r_381 ok k) hl.symm hq
theorem r_386 (ok : PxOk (PX prog w h)) (k : Nat) : BS (PX prog w h) k (fT 38).2 [Str.ofString "state", Str.ofString "now", Str.ofString "was", Str.ofString "auto"] (fT 38).1 (q_386 (PX prog w h) k) := b_cons (s_asg3 1 2 3 (by kernel_rfl) (by kernel_rfl) (by kernel_rfl) rfl (e_slot ok 0 (by kernel_rfl))) (b_cons (s_ret (e_tuple (by decide) (l_cons rfl (e_call ok (e_glob ok (v := .ty "tuple") (by kernel_rfl) (by kernel_rfl)) (l_cons rfl (e_compIf ok tg1_ok (by kernel_rfl) (e_glob ok (v := .tup [.int 1, .int 2, .int 3, .int 4, .int 5, .int 6]) (by kernel_rfl) (by kernel_rfl)) (t_cmp ok rfl (e_sub (e_slot ok 2 (by kernel_rfl)) (e_slot ok 0 (by kernel_rfl))) e_int) (e_slot ok 0 (by kernel_rfl))) l_nil)) (l_cons rfl (e_call ok (e_glob ok (v := .ty "tuple") (by kernel_rfl) (by kernel_rfl)) (l_cons rfl (e_compIf ok tg1_ok (by kernel_rfl) (e_glob ok (v := .tup [.int 1, .int 2, .int 3, .int 4, .int 5, .int 6]) (by kernel_rfl) (by kernel_rfl)) (t_cmp ok rfl (e_sub (e_slot ok 3 (by kernel_rfl)) (e_slot ok 0 (by kernel_rfl))) e_int) (e_slot ok 0 (by kernel_rfl))) l_nil)) (l_cons rfl (e_call ok (e_glob ok (v := .ty "tuple") (by kernel_rfl) (by kernel_rfl)) (l_cons rfl (e_compIf ok tg1_ok (by kernel_rfl) (e_glob ok (v := .tup [.int 1, .int 2, .int 3, .int 4, .int 5, .int 6]) (by kernel_rfl) (by kernel_rfl)) (t_cmp ok rfl (e_sub (e_slot ok 2 (by kernel_rfl)) (e_slot ok 0 (by kernel_rfl))) e_int) (e_slot ok 0 (by kernel_rfl))) l_nil)) (l_cons rfl (e_call ok (e_glob ok (v := .ty "tuple") (by kernel_rfl) (by kernel_rfl)) (l_cons rfl (e_compIf ok tg1_ok (by kernel_rfl) (e_glob ok (v := .tup [.int 1, .int 2, .int 3, .int 4, .int 5, .int 6]) (by kernel_rfl) (by kernel_rfl)) (t_cmp ok rfl (e_sub (e_slot ok 2 (by kernel_rfl)) (e_slot ok 0 (by kernel_rfl))) e_int) (e_slot ok 0 (by kernel_rfl))) l_nil)) (l_cons rfl (e_slot ok 3 (by kernel_rfl)) l_nil))))))) b_nil)
theorem g_386 (ok : PxOk (PX prog w h)) {k : Nat} {args : List AV} {W : Store} {Q : AV → Store → Prop} {X : Store → Prop} (hl : args.length = 1) (hq : q_386 (PX prog w h) k X (start [Str.ofString "state"] [Str.ofString "now", Str.ofString "was", Str.ofString "auto"] args) W (retQ Q)) : CodeOk (PX prog w h) (k + 5) 386 args W Q X := fun_call ok (f_386 w) (t_386 w) (r_386 ok k) hl.symm hq
theorem r_393 (ok : PxOk (PX prog w h)) (k : Nat) : BS (PX prog w h) k (fT 39).2 [Str.ofString "x", Str.ofString "steps", Str.ofString "d", Str.ofString "_", Str.ofString "e"] (fT 39).1 (q_393 (PX prog w h) k) := b_cons (s_asg 1 (by kernel_rfl) rfl (e_list (by decide) l_nil)) (b_cons (s_asg 2 (by kernel_rfl) rfl (e_bin (e_slot ok 0 (by kernel_rfl)) e_int)) (b_cons (s_for1 ok 3 (by kernel_rfl) rfl (e_call ok (e_glob ok (v := .ty "range") (by kernel_rfl) (by kernel_rfl)) (l_cons rfl (e_bin (e_slot ok 0 (by kernel_rfl)) e_int) l_nil)) (b_cons (s_asg 4 (by kernel_rfl) rfl (e_bin (e_slot ok 2 (by kernel_rfl)) e_int)) (b_cons (s_expr rfl (e_meth ok rfl (e_slot ok 1 (by kernel_rfl)) (l_cons rfl (e_tuple (by decide) (l_cons rfl (e_sub (e_glob ok (v := .tup [.int 0, .int 1, .int 3, .int 0, .int 3, .int 1, .int 4, .int 2]) (by kernel_rfl) (by kernel_rfl)) (e_bin (e_slot ok 4 (by kernel_rfl)) e_int)) (l_cons rfl (e_bin (e_bin (e_bin (e_bin (e_slot ok 4 (by kernel_rfl)) e_int) (e_slot ok 4 (by kernel_rfl))) e_int) e_int) l_nil))) l_nil))) (b_cons (s_asg 2 (by kernel_rfl) rfl (e_bin (e_slot ok 2 (by kernel_rfl)) e_int)) b_nil)))) (b_cons (s_ret (e_slot ok 1 (by kernel_rfl))) b_nil)))
theorem g_393 (ok : PxOk (PX prog w h)) {k : Nat} {args : List AV} {W : Store} {Q : AV → Store → Prop} {X : Store → Prop} (hl : args.length = 1) (hq : q_393 (PX prog w h) k X (start [Str.ofString "x"] [Str.ofString "steps", Str.ofString "d", Str.ofString "_", Str.ofString "e"] args) W (retQ Q)) : CodeOk (PX prog w h) (k + 5) 393 args W Q X := fun_call ok (f_393 w) (t_393 w) (r_393 ok k) hl.symm hq
theorem r_398 (ok : PxOk (PX prog w h)) (k : Nat) : BS (PX prog w h) k (fT 40).2 [Str.ofString "state", Str.ofString "what", Str.ofString "flag", Str.ofString "steps", Str.ofString "now", Str.ofString "was", Str.ofString "auto", Str.ofString "half", Str.ofString "new", Str.ofString "moved", Str.ofString "i", Str.ofString "words", Str.ofString "role"] (fT 40).1 (q_398 (PX prog w h) k) := b_cons (s_asg3 4 5 6 (by kernel_rfl) (by kernel_rfl) (by kernel_rfl) rfl (e_slot ok 0 (by kernel_rfl))) (b_cons (s_if (t_or (t_cmp ok rfl e_int (e_slot ok 4 (by kernel_rfl))) (t_cmp ok rfl (e_cmp ok rfl e_int (e_slot ok 5 (by kernel_rfl))) (e_cmp ok rfl (e_slot ok 1 (by kernel_rfl)) e_int))) (b_cons (s_ret e_none) b_nil) b_nil) (b_cons (s_if (t_cmp ok rfl (e_slot ok 1 (by kernel_rfl)) e_int) (b_cons (s_ret (e_tuple (by decide) (l_cons rfl (e_call ok (e_glob ok (v := .ty "tuple") (by kernel_rfl) (by kernel_rfl)) (l_cons rfl (e_comp ok tg1_ok (by kernel_rfl) (e_slot ok 4 (by kernel_rfl)) (e_sub (e_tuple (by decide) (l_cons rfl e_int (l_cons rfl e_int (l_cons rfl e_int (l_cons rfl e_int l_nil))))) (e_slot ok 0 (by kernel_rfl)))) l_nil)) (l_cons rfl (e_tuple (by decide) (l_cons rfl e_int (l_cons rfl e_int (l_cons rfl e_int (l_cons rfl e_int (l_cons rfl e_int (l_cons rfl e_int (l_cons rfl e_int l_nil)))))))) (l_cons rfl e_bool l_nil))))) b_nil) b_nil) (b_cons (s_asg 7 (by kernel_rfl) rfl (e_slot ok 5 (by kernel_rfl))) (b_cons (s_if (t_cmp ok rfl (e_slot ok 1 (by kernel_rfl)) e_int) (b_cons (s_asg 7 (by kernel_rfl) rfl (e_call ok (e_glob ok (v := .ty "tuple") (by kernel_rfl) (by kernel_rfl)) (l_cons rfl (e_comp ok tg1_ok (by kernel_rfl) (e_slot ok 4 (by kernel_rfl)) (e_sub (e_tuple (by decide) (l_cons rfl e_int (l_cons rfl e_int (l_cons rfl e_int (l_cons rfl e_int l_nil))))) (e_slot ok 0 (by kernel_rfl)))) l_nil))) b_nil) b_nil) (b_cons (s_asg 8 (by kernel_rfl) rfl (e_list (by decide) (l_cons rfl e_int l_nil))) (b_cons (s_asg 9 (by kernel_rfl) rfl e_int) (b_cons (s_for1 ok 10 (by kernel_rfl) rfl (e_glob ok (v := .tup [.int 1, .int 2, .int 3, .int 4, .int 5, .int 6]) (by kernel_rfl) (by kernel_rfl)) (b_cons (s_asgCI ok 11 (by kernel_rfl) tg1_ok (by kernel_rfl) (e_slot ok 3 (by kernel_rfl)) (t_and (t_cmp ok rfl (e_sub (e_slot ok 0 (by kernel_rfl)) e_int) (e_slot ok 11 (by kernel_rfl))) (t_cmp ok rfl (e_sub (e_slot ok 0 (by kernel_rfl)) e_int) e_int)) (e_sub (e_slot ok 0 (by kernel_rfl)) e_int)) (b_cons (s_asg 12 (by kernel_rfl) rfl (e_sub (e_slot ok 4 (by kernel_rfl)) (e_slot ok 10 (by kernel_rfl)))) (b_cons (s_if (t_cmp ok rfl e_int (e_slot ok 11 (by kernel_rfl))) (b_cons (s_ret e_none) b_nil) b_nil) (b_cons (s_if (t_cmp ok rfl (e_call ok (e_glob ok (v := .blt "len") (by kernel_rfl) (by kernel_rfl)) (l_cons rfl (e_slot ok 11 (by kernel_rfl)) l_nil)) e_int) (b_cons (s_asg 12 (by kernel_rfl) rfl (e_sub (e_tuple (by decide) (l_cons rfl e_int (l_cons rfl e_int (l_cons rfl e_int (l_cons rfl (e_bin e_int (e_sub (e_slot ok 7 (by kernel_rfl)) (e_slot ok 10 (by kernel_rfl)))) l_nil))))) (e_sub (e_slot ok 11 (by kernel_rfl)) e_neg))) b_nil) b_nil) (b_cons (s_expr rfl (e_meth ok rfl (e_slot ok 8 (by kernel_rfl)) (l_cons rfl (e_slot ok 12 (by kernel_rfl)) l_nil))) (b_cons (s_if (t_cmp ok rfl (e_cmp ok rfl (e_slot ok 12 (by kernel_rfl)) e_int) (e_cmp ok rfl (e_sub (e_slot ok 4 (by kernel_rfl)) (e_slot ok 10 (by kernel_rfl))) e_int)) (b_cons (s_aug ok 9 (by kernel_rfl) (by kernel_rfl) e_int) b_nil) b_nil) b_nil))))))) (b_cons (s_if (t_or (t_cmp ok rfl e_int (e_slot ok 8 (by kernel_rfl))) (t_and (t_cmp ok rfl (e_slot ok 1 (by kernel_rfl)) e_int) (t_cmp ok rfl (e_slot ok 9 (by kernel_rfl)) e_int))) (b_cons (s_ret e_none) b_nil) b_nil) (b_cons (s_ret (e_tuple (by decide) (l_cons rfl (e_call ok (e_glob ok (v := .ty "tuple") (by kernel_rfl) (by kernel_rfl)) (l_cons rfl (e_slot ok 8 (by kernel_rfl)) l_nil)) (l_cons rfl (e_slot ok 7 (by kernel_rfl)) (l_cons rfl (e_and (e_cmp ok rfl (e_slot ok 1 (by kernel_rfl)) e_int) (e_slot ok 2 (by kernel_rfl))) l_nil))))) b_nil)))))))))
theorem g_398 (ok : PxOk (PX prog w h)) {k : Nat} {args : List AV} {W : Store} {Q : AV → Store → Prop} {X : Store → Prop} (hl : args.length = 4) (hq : q_398 (PX prog w h) k X (start [Str.ofString "state", Str.ofString "what", Str.ofString "flag", Str.ofString "steps"] [Str.ofString "now", Str.ofString "was", Str.ofString "auto", Str.ofString "half", Str.ofString "new", Str.ofString "moved", Str.ofString "i", Str.ofString "words", Str.ofString "role"] args) W (retQ Q)) : CodeOk (PX prog w h) (k + 5) 398 args W Q X := fun_call ok (f_398 w) (t_398 w) (r_398 ok k) hl.symm hq
theorem r_405 (ok : PxOk (PX prog w h)) (k : Nat) : BS (PX prog w h) k (fT 41).2 [Str.ofString "x", Str.ofString "votes", Str.ofString "acked", Str.ofString "i", Str.ofString "vote", Str.ofString "held"] (fT 41).1 (q_405 (PX prog w h) k) := b_cons (s_asg 1 (by kernel_rfl) rfl e_dict) (b_cons (s_asg 2 (by kernel_rfl) rfl e_dict) (b_cons (s_for1 ok 3 (by kernel_rfl) rfl (e_call ok (e_glob ok (v := .ty "range") (by kernel_rfl) (by kernel_rfl)) (l_cons rfl e_int (l_cons rfl e_int l_nil))) (b_cons (s_asg 4 (by kernel_rfl) rfl (e_bin (e_bin (e_slot ok 0 (by kernel_rfl)) (e_bin e_int (e_bin (e_slot ok 3 (by kernel_rfl)) e_int))) e_int)) (b_cons (s_asg 5 (by kernel_rfl) rfl (e_sub (e_tuple (by decide) (l_cons rfl e_int (l_cons rfl e_neg (l_cons rfl e_int (l_cons rfl e_int (l_cons rfl e_int l_nil)))))) (e_bin (e_bin (e_slot ok 0 (by kernel_rfl)) (e_bin e_int (e_bin (e_slot ok 3 (by kernel_rfl)) e_int))) e_int))) (b_cons (s_if (t_cmp ok rfl (e_slot ok 4 (by kernel_rfl)) e_int) (b_cons (s_setI (e_cmp ok rfl (e_slot ok 4 (by kernel_rfl)) e_int) (e_slot ok 1 (by kernel_rfl)) (e_slot ok 3 (by kernel_rfl))) b_nil) b_nil) (b_cons (s_if (t_cmp ok rfl (e_slot ok 5 (by kernel_rfl)) e_int) (b_cons (s_setI (e_slot ok 5 (by kernel_rfl)) (e_slot ok 2 (by kernel_rfl)) (e_slot ok 3 (by kernel_rfl))) b_nil) b_nil) b_nil))))) (b_cons (s_ret (e_tuple (by decide) (l_cons rfl (e_slot ok 1 (by kernel_rfl)) (l_cons rfl (e_slot ok 2 (by kernel_rfl)) l_nil)))) b_nil)))
theorem g_405 (ok : PxOk (PX prog w h)) {k : Nat} {args : List AV} {W : Store} {Q : AV → Store → Prop} {X : Store → Prop} (hl : args.length = 1) (hq : q_405 (PX prog w h) k X (start [Str.ofString "x"] [Str.ofString "votes", Str.ofString "acked", Str.ofString "i", Str.ofString "vote", Str.ofString "held"] args) W (retQ Q)) : CodeOk (PX prog w h) (k + 5) 405 args W Q X := fun_call ok (f_405 w) (t_405 w) (r_405 ok k) hl.symm hq
theorem r_410 (ok : PxOk (PX prog w h)) (k : Nat) : BS (PX prog w h) k (fT 42).2 [Str.ofString "halves", Str.ofString "acked", Str.ofString "mark", Str.ofString "half", Str.ofString "there"] (fT 42).1 (q_410 (PX prog w h) k) := b_cons (s_for1 ok 3 (by kernel_rfl) rfl (e_slot ok 0 (by kernel_rfl)) (b_cons (s_asgCI ok 4 (by kernel_rfl) tg1_ok (by kernel_rfl) (e_slot ok 3 (by kernel_rfl)) (t_or (t_cmp ok rfl (e_slot ok 3 (by kernel_rfl)) e_int) (t_and (t_cmp ok rfl (e_slot ok 0 (by kernel_rfl)) (e_slot ok 2 (by kernel_rfl))) (t_cmp ok rfl (e_sub (e_slot ok 2 (by kernel_rfl)) (e_slot ok 0 (by kernel_rfl))) (e_slot ok 3 (by kernel_rfl))))) (e_slot ok 0 (by kernel_rfl))) (b_cons (s_if (t_cmp ok rfl (e_bin e_int (e_call ok (e_glob ok (v := .blt "len") (by kernel_rfl) (by kernel_rfl)) (l_cons rfl (e_slot ok 4 (by kernel_rfl)) l_nil))) (e_call ok (e_glob ok (v := .blt "len") (by kernel_rfl) (by kernel_rfl)) (l_cons rfl (e_slot ok 3 (by kernel_rfl)) l_nil))) (b_cons (s_ret e_bool) b_nil) b_nil) b_nil))) (b_cons (s_ret e_bool) b_nil)
theorem g_410 (ok : PxOk (PX prog w h)) {k : Nat} {args : List AV} {W : Store} {Q : AV → Store → Prop} {X : Store → Prop} (hl : args.length = 3) (hq : q_410 (PX prog w h) k X (start [Str.ofString "halves", Str.ofString "acked", Str.ofString "mark"] [Str.ofString "half", Str.ofString "there"] args) W (retQ Q)) : CodeOk (PX prog w h) (k + 5) 410 args W Q X := fun_call ok (f_410 w) (t_410 w) (r_410 ok k) hl.symm hq
theorem r_417 (ok : PxOk (PX prog w h)) (k : Nat) : BS (PX prog w h) k (fT 43).2 [Str.ofString "parts"] (fT 43).1 (q_417 (PX prog w h) k) := b_cons (s_expr rfl (e_meth ok rfl (e_attr ok rfl (e_slot ok 0 (by kernel_rfl))) (l_cons rfl e_int l_nil))) (b_cons (s_expr rfl (e_meth ok rfl (e_attr ok rfl (e_slot ok 0 (by kernel_rfl))) (l_cons rfl e_int l_nil))) (b_cons (s_expr rfl (e_meth ok rfl (e_attr ok rfl (e_slot ok 0 (by kernel_rfl))) (l_cons rfl e_int l_nil))) (b_cons (s_expr rfl (e_meth ok rfl (e_attr ok rfl (e_slot ok 0 (by kernel_rfl))) (l_cons rfl e_int l_nil))) b_nil)))
theorem g_417 (ok : PxOk (PX prog w h)) {k : Nat} {args : List AV} {W : Store} {Q : AV → Store → Prop} {X : Store → Prop} (hl : args.length = 1) (hq : q_417 (PX prog w h) k X (start [Str.ofString "parts"] [] args) W (retQ Q)) : CodeOk (PX prog w h) (k + 5) 417 args W Q X := fun_call ok (f_417 w) (t_417 w) (r_417 ok k) hl.symm hq
theorem r_422 (ok : PxOk (PX prog w h)) (k : Nat) : BS (PX prog w h) k (fT 44).2 [Str.ofString "config", Str.ofString "row", Str.ofString "votes", Str.ofString "acked", Str.ofString "half", Str.ofString "halves", Str.ofString "fate", Str.ofString "yes", Str.ofString "no", Str.ofString "best", Str.ofString "marks", Str.ofString "lent"] (fT 44).1 (q_422 (PX prog w h) k) := b_cons (s_asgCI ok 5 (by kernel_rfl) tg1_ok (by kernel_rfl) (e_slice (some 2) rfl (e_slot ok 1 (by kernel_rfl))) (t_cmp ok rfl (e_call ok (e_glob ok (v := .blt "len") (by kernel_rfl) (by kernel_rfl)) (l_cons rfl (e_slot ok 0 (by kernel_rfl)) l_nil)) e_int) (e_slot ok 0 (by kernel_rfl))) (b_cons (s_asg 6 (by kernel_rfl) rfl e_int) (b_cons (s_for1 ok 4 (by kernel_rfl) rfl (e_slot ok 5 (by kernel_rfl)) (b_cons (s_asg 7 (by kernel_rfl) rfl (e_call ok (e_glob ok (v := .blt "len") (by kernel_rfl) (by kernel_rfl)) (l_cons rfl (e_compIf ok tg1_ok (by kernel_rfl) (e_slot ok 4 (by kernel_rfl)) (t_and (t_cmp ok rfl (e_slot ok 0 (by kernel_rfl)) (e_slot ok 3 (by kernel_rfl))) (t_sub (e_sub (e_slot ok 3 (by kernel_rfl)) (e_slot ok 0 (by kernel_rfl))))) (e_slot ok 0 (by kernel_rfl))) l_nil))) (b_cons (s_asg 8 (by kernel_rfl) rfl (e_call ok (e_glob ok (v := .blt "len") (by kernel_rfl) (by kernel_rfl)) (l_cons rfl (e_compIf ok tg1_ok (by kernel_rfl) (e_slot ok 4 (by kernel_rfl)) (t_and (t_cmp ok rfl (e_slot ok 0 (by kernel_rfl)) (e_slot ok 3 (by kernel_rfl))) (t_not (t_sub (e_sub (e_slot ok 3 (by kernel_rfl)) (e_slot ok 0 (by kernel_rfl)))))) (e_slot ok 0 (by kernel_rfl))) l_nil))) (b_cons (s_if (t_cmp ok rfl (e_bin e_int (e_slot ok 8 (by kernel_rfl))) (e_call ok (e_glob ok (v := .blt "len") (by kernel_rfl) (by kernel_rfl)) (l_cons rfl (e_slot ok 4 (by kernel_rfl)) l_nil))) (b_cons (s_asg 6 (by kernel_rfl) rfl e_int) b_nil) (b_cons (s_if (t_cmp ok rfl (e_bin e_int (e_slot ok 7 (by kernel_rfl))) (e_call ok (e_glob ok (v := .blt "len") (by kernel_rfl) (by kernel_rfl)) (l_cons rfl (e_slot ok 4 (by kernel_rfl)) l_nil))) (b_cons (s_asg 6 (by kernel_rfl) rfl (e_call ok (e_glob ok (v := .blt "min") (by kernel_rfl) (by kernel_rfl)) (l_cons rfl (e_slot ok 6 (by kernel_rfl)) (l_cons rfl e_int l_nil)))) b_nil) b_nil) b_nil)) b_nil)))) (b_cons (s_asg 9 (by kernel_rfl) rfl (e_glob ok (v := .int 18446744073709551615) (by kernel_rfl) (by kernel_rfl))) (b_cons (s_if (t_cmp ok rfl (e_call ok (e_glob ok (v := .blt "len") (by kernel_rfl) (by kernel_rfl)) (l_cons rfl (e_slot ok 5 (by kernel_rfl)) l_nil)) e_int) (b_cons (s_asg 10 (by kernel_rfl) rfl (e_bin (e_list (by decide) (l_cons rfl e_int l_nil)) (e_comp ok tg1_ok (by kernel_rfl) (e_slot ok 3 (by kernel_rfl)) (e_sub (e_slot ok 4 (by kernel_rfl)) (e_slot ok 0 (by kernel_rfl)))))) (b_cons (s_asg 9 (by kernel_rfl) rfl (e_call ok (e_glob ok (v := .blt "max") (by kernel_rfl) (by kernel_rfl)) (l_cons rfl (e_compIf ok tg1_ok (by kernel_rfl) (e_slot ok 10 (by kernel_rfl)) (t_call (e_call ok (e_glob ok (v := .ref 410) (by kernel_rfl) (by kernel_rfl)) (l_cons rfl (e_slot ok 6 (by kernel_rfl)) (l_cons rfl (e_slot ok 4 (by kernel_rfl)) (l_cons rfl (e_slot ok 0 (by kernel_rfl)) l_nil))))) (e_slot ok 0 (by kernel_rfl))) l_nil))) b_nil)) b_nil) (b_cons (s_asgD ok 11 (by kernel_rfl) (by kernel_rfl) (e_slot ok 2 (by kernel_rfl)) (e_slot ok 0 (by kernel_rfl)) (e_sub (e_slot ok 3 (by kernel_rfl)) (e_slot ok 0 (by kernel_rfl)))) (b_cons (s_if (t_or (t_cmp ok rfl (e_meth ok rfl (e_slot ok 0 (by kernel_rfl)) (l_cons rfl (e_slot ok 11 (by kernel_rfl)) l_nil)) (e_sub (e_tuple (by decide) (l_cons rfl (e_glob ok (v := .int 2) (by kernel_rfl) (by kernel_rfl)) (l_cons rfl (e_glob ok (v := .int 1) (by kernel_rfl) (by kernel_rfl)) (l_cons rfl (e_glob ok (v := .int 3) (by kernel_rfl) (by kernel_rfl)) l_nil)))) (e_slot ok 6 (by kernel_rfl)))) (t_cmp ok rfl (e_slot ok 11 (by kernel_rfl)) (e_slot ok 2 (by kernel_rfl)))) (b_cons (s_ret e_bool) b_nil) b_nil) (b_cons (s_asgD ok 11 (by kernel_rfl) (by kernel_rfl) (e_slot ok 3 (by kernel_rfl)) (e_slot ok 0 (by kernel_rfl)) (e_sub (e_slot ok 4 (by kernel_rfl)) (e_slot ok 0 (by kernel_rfl)))) (b_cons (s_ret (e_and (e_cmp ok rfl (e_meth ok rfl (e_slot ok 0 (by kernel_rfl)) (l_cons rfl (e_slot ok 11 (by kernel_rfl)) l_nil)) (e_slot ok 9 (by kernel_rfl))) (e_cmp ok rfl (e_slot ok 11 (by kernel_rfl)) (e_slot ok 3 (by kernel_rfl))))) b_nil))))))))
theorem g_422 (ok : PxOk (PX prog w h)) {k : Nat} {args : List AV} {W : Store} {Q : AV → Store → Prop} {X : Store → Prop} (hl : args.length = 4) (hq : q_422 (PX prog w h) k X (start [Str.ofString "config", Str.ofString "row", Str.ofString "votes", Str.ofString "acked"] [Str.ofString "half", Str.ofString "halves", Str.ofString "fate", Str.ofString "yes", Str.ofString "no", Str.ofString "best", Str.ofString "marks", Str.ofString "lent"] args) W (retQ Q)) : CodeOk (PX prog w h) (k + 5) 422 args W Q X := fun_call ok (f_422 w) (t_422 w) (r_422 ok k) hl.symm hq
theorem r_427 (ok : PxOk (PX prog w h)) (k : Nat) : BS (PX prog w h) k (fT 45).2 [Str.ofString "config", Str.ofString "state", Str.ofString "votes", Str.ofString "acked", Str.ofString "now", Str.ofString "was", Str.ofString "auto", Str.ofString "row", Str.ofString "some", Str.ofString "told", Str.ofString "twin"] (fT 45).1 (q_427 (PX prog w h) k) := b_cons (s_asg3 4 5 6 (by kernel_rfl) (by kernel_rfl) (by kernel_rfl) rfl (e_slot ok 1 (by kernel_rfl))) (b_cons (s_asg 7 (by kernel_rfl) rfl (e_call ok (e_glob ok (v := .ref 386) (by kernel_rfl) (by kernel_rfl)) (l_cons rfl (e_slot ok 1 (by kernel_rfl)) l_nil))) (b_cons (s_if (t_or (t_cmp ok rfl (e_meth ok rfl (e_slot ok 0 (by kernel_rfl)) l_nil) (e_slot ok 7 (by kernel_rfl))) (t_cmp ok rfl (e_meth ok rfl (e_slot ok 0 (by kernel_rfl)) l_nil) (e_cmp ok rfl e_int (e_slot ok 5 (by kernel_rfl))))) (b_cons (s_ret e_bool) b_nil) b_nil) (b_cons (s_if (t_not (t_call (e_call ok (e_glob ok (v := .ref 422) (by kernel_rfl) (by kernel_rfl)) (l_cons rfl (e_slot ok 0 (by kernel_rfl)) (l_cons rfl (e_slot ok 7 (by kernel_rfl)) (l_cons rfl (e_slot ok 2 (by kernel_rfl)) (l_cons rfl (e_slot ok 3 (by kernel_rfl)) l_nil))))))) (b_cons (s_ret e_bool) b_nil) b_nil) (b_cons (s_asg 8 (by kernel_rfl) rfl (e_meth ok rfl (e_slot ok 0 (by kernel_rfl)) l_nil)) (b_cons (s_if (t_cmp ok rfl (e_slot ok 8 (by kernel_rfl)) (e_compIf ok tg1_ok (by kernel_rfl) (e_glob ok (v := .tup [.int 1, .int 2, .int 3, .int 4, .int 5, .int 6]) (by kernel_rfl) (by kernel_rfl)) (t_or (t_cmp ok rfl (e_sub (e_slot ok 5 (by kernel_rfl)) (e_slot ok 0 (by kernel_rfl))) e_int) (t_cmp ok rfl (e_sub (e_slot ok 6 (by kernel_rfl)) (e_slot ok 0 (by kernel_rfl))) e_int)) (e_slot ok 0 (by kernel_rfl)))) (b_cons (s_ret e_bool) b_nil) b_nil) (b_cons (s_expr rfl (e_meth ok rfl (e_slot ok 8 (by kernel_rfl)) (l_cons rfl e_int l_nil))) (b_cons (s_asg 8 (by kernel_rfl) rfl (e_meth ok rfl (e_slot ok 0 (by kernel_rfl)) l_nil)) (b_cons (s_if (t_cmp ok rfl (e_slot ok 8 (by kernel_rfl)) (e_compIf ok tg1_ok (by kernel_rfl) (e_glob ok (v := .tup [.int 1, .int 2, .int 3, .int 4, .int 5, .int 6]) (by kernel_rfl) (by kernel_rfl)) (t_or (t_cmp ok rfl (e_sub (e_slot ok 5 (by kernel_rfl)) (e_slot ok 0 (by kernel_rfl))) e_int) (t_cmp ok rfl (e_sub (e_slot ok 6 (by kernel_rfl)) (e_slot ok 0 (by kernel_rfl))) e_int)) (e_slot ok 0 (by kernel_rfl)))) (b_cons (s_ret e_bool) b_nil) b_nil) (b_cons (s_expr rfl (e_meth ok rfl (e_slot ok 8 (by kernel_rfl)) (l_cons rfl e_int l_nil))) (b_cons (s_asg 9 (by kernel_rfl) rfl (e_meth ok rfl (e_slot ok 0 (by kernel_rfl)) l_nil)) (b_cons (s_if (t_cmp ok rfl (e_meth ok rfl (e_slot ok 9 (by kernel_rfl)) l_nil) (e_tuple (by decide) (l_cons rfl (e_sub (e_slot ok 7 (by kernel_rfl)) e_int) (l_cons rfl (e_sub (e_slot ok 7 (by kernel_rfl)) e_int) (l_cons rfl (e_sub (e_slot ok 7 (by kernel_rfl)) e_int) (l_cons rfl (e_sub (e_slot ok 7 (by kernel_rfl)) e_int) (l_cons rfl (e_sub (e_slot ok 7 (by kernel_rfl)) e_int) l_nil))))))) (b_cons (s_ret e_bool) b_nil) b_nil) (b_cons (s_asg 10 (by kernel_rfl) rfl (e_call ok (e_glob ok (v := .ref 262) (by kernel_rfl) (by kernel_rfl)) (l_cons rfl (e_slot ok 9 (by kernel_rfl)) l_nil))) (b_cons (s_expr rfl (e_call ok (e_glob ok (v := .ref 417) (by kernel_rfl) (by kernel_rfl)) (l_cons rfl (e_slot ok 9 (by kernel_rfl)) l_nil))) (b_cons (s_if (t_cmp ok rfl (e_meth ok rfl (e_slot ok 10 (by kernel_rfl)) l_nil) (e_slot ok 7 (by kernel_rfl))) (b_cons (s_ret e_bool) b_nil) b_nil) (b_cons (s_expr rfl (e_call ok (e_glob ok (v := .ref 417) (by kernel_rfl) (by kernel_rfl)) (l_cons rfl (e_slot ok 10 (by kernel_rfl)) l_nil))) (b_cons (s_ret (e_cmp ok rfl (e_meth ok rfl (e_slot ok 0 (by kernel_rfl)) l_nil) (e_slot ok 7 (by kernel_rfl)))) b_nil))))))))))))))))
theorem g_427 (ok : PxOk (PX prog w h)) {k : Nat} {args : List AV} {W : Store} {Q : AV → Store → Prop} {X : Store → Prop} (hl : args.length = 4) (hq : q_427 (PX prog w h) k X (start [Str.ofString "config", Str.ofString "state", Str.ofString "votes", Str.ofString "acked"] [Str.ofString "now", Str.ofString "was", Str.ofString "auto", Str.ofString "row", Str.ofString "some", Str.ofString "told", Str.ofString "twin"] args) W (retQ Q)) : CodeOk (PX prog w h) (k + 5) 427 args W Q X := fun_call ok (f_427 w) (t_427 w) (r_427 ok k) hl.symm hq
theorem r_434 (ok : PxOk (PX prog w h)) (k : Nat) : BS (PX prog w h) k (fT 46).2 [Str.ofString "changer", Str.ofString "config", Str.ofString "way", Str.ofString "flag", Str.ofString "steps", Str.ofString "change"] (fT 46).1 (q_434 (PX prog w h) k) := b_cons (s_try ok (by kernel_rfl) (b_cons (s_if (t_cmp ok rfl (e_slot ok 2 (by kernel_rfl)) e_int) (b_cons (s_ret (e_meth ok rfl (e_slot ok 0 (by kernel_rfl)) (l_cons rfl (e_slot ok 3 (by kernel_rfl)) (l_cons rfl (e_slot ok 4 (by kernel_rfl)) l_nil)))) b_nil) b_nil) (b_cons (s_if (t_cmp ok rfl (e_slot ok 2 (by kernel_rfl)) e_int) (b_cons (s_ret (e_meth ok rfl (e_slot ok 0 (by kernel_rfl)) l_nil)) b_nil) b_nil) (b_cons (s_if (t_cmp ok rfl (e_slot ok 2 (by kernel_rfl)) e_int) (b_cons (s_ret (e_call ok (e_glob ok (v := .ref 365) (by kernel_rfl) (by kernel_rfl)) (l_cons rfl (e_slot ok 1 (by kernel_rfl)) (l_cons rfl (e_slot ok 5 (by kernel_rfl)) l_nil)))) b_nil) b_nil) (b_cons (s_ret (e_meth ok rfl (e_slot ok 0 (by kernel_rfl)) (l_cons rfl (e_slot ok 4 (by kernel_rfl)) l_nil))) b_nil))))) b_nil
theorem g_434 (ok : PxOk (PX prog w h)) {k : Nat} {args : List AV} {W : Store} {Q : AV → Store → Prop} {X : Store → Prop} (hl : args.length = 6) (hq : q_434 (PX prog w h) k X (start [Str.ofString "changer", Str.ofString "config", Str.ofString "way", Str.ofString "flag", Str.ofString "steps", Str.ofString "change"] [] args) W (retQ Q)) : CodeOk (PX prog w h) (k + 5) 434 args W Q X := fun_call ok (f_434 w) (t_434 w) (r_434 ok k) hl.symm hq
theorem r_439 (ok : PxOk (PX prog w h)) (k : Nat) : BS (PX prog w h) k (fT 47).2 [Str.ofString "script", Str.ofString "nums", Str.ofString "states", Str.ofString "configs", Str.ofString "changers", Str.ofString "state", Str.ofString "row", Str.ofString "part", Str.ofString "halves", Str.ofString "config", Str.ofString "c", Str.ofString "lent", Str.ofString "told", Str.ofString "change", Str.ofString "votes", Str.ofString "acked", Str.ofString "k", Str.ofString "kept", Str.ofString "turn", Str.ofString "z", Str.ofString "way", Str.ofString "odd", Str.ofString "flag", Str.ofString "said", Str.ofString "on", Str.ofString "what", Str.ofString "steps", Str.ofString "want", Str.ofString "got", Str.ofString "again", Str.ofString "j"] (fT 47).1 (q_439 (PX prog w h) k) := b_cons (s_asgC ok 1 (by kernel_rfl) tg1_ok (by kernel_rfl) (e_slice (some 10) rfl (e_slot ok 0 (by kernel_rfl))) (e_bin (e_slot ok 0 (by kernel_rfl)) e_int)) (b_cons (s_if (t_cmp ok rfl (e_call ok (e_glob ok (v := .blt "len") (by kernel_rfl) (by kernel_rfl)) (l_cons rfl (e_slot ok 1 (by kernel_rfl)) l_nil)) e_int) (b_cons (s_asg 1 (by kernel_rfl) rfl (e_list (by decide) (l_cons rfl e_int l_nil))) b_nil) b_nil) (b_cons (s_asg 2 (by kernel_rfl) rfl (e_tuple (by decide) (l_cons rfl (e_call ok (e_glob ok (v := .ref 381) (by kernel_rfl) (by kernel_rfl)) (l_cons rfl (e_call ok (e_glob ok (v := .ref 374) (by kernel_rfl) (by kernel_rfl)) (l_cons rfl (e_slot ok 1 (by kernel_rfl)) (l_cons rfl e_int l_nil))) (l_cons rfl e_bool l_nil))) (l_cons rfl (e_call ok (e_glob ok (v := .ref 381) (by kernel_rfl) (by kernel_rfl)) (l_cons rfl (e_call ok (e_glob ok (v := .ref 374) (by kernel_rfl) (by kernel_rfl)) (l_cons rfl (e_slot ok 1 (by kernel_rfl)) (l_cons rfl e_int l_nil))) (l_cons rfl e_bool l_nil))) l_nil)))) (b_cons (s_asg 3 (by kernel_rfl) rfl (e_list (by decide) l_nil)) (b_cons (s_asg 4 (by kernel_rfl) rfl (e_list (by decide) l_nil)) (b_cons (s_for1 ok 5 (by kernel_rfl) rfl (e_slot ok 2 (by kernel_rfl)) (b_cons (s_asg 6 (by kernel_rfl) rfl (e_call ok (e_glob ok (v := .ref 386) (by kernel_rfl) (by kernel_rfl)) (l_cons rfl (e_slot ok 5 (by kernel_rfl)) l_nil))) (b_cons (s_asgC ok 8 (by kernel_rfl) tg1_ok (by kernel_rfl) (e_slice (some 4) rfl (e_slot ok 6 (by kernel_rfl))) (e_comp ok tg1_ok (by kernel_rfl) (e_bin (e_slice none rfl (e_slot ok 0 (by kernel_rfl))) (e_slot ok 0 (by kernel_rfl))) (e_slot ok 0 (by kernel_rfl)))) (b_cons (s_asg 9 (by kernel_rfl) rfl (e_call ok (e_glob ok (v := .ref 251) (by kernel_rfl) (by kernel_rfl)) (l_cons rfl (e_sub (e_slot ok 8 (by kernel_rfl)) e_int) (l_cons rfl (e_sub (e_slot ok 8 (by kernel_rfl)) e_int) (l_cons rfl (e_sub (e_slot ok 8 (by kernel_rfl)) e_int) (l_cons rfl (e_sub (e_slot ok 8 (by kernel_rfl)) e_int) (l_cons rfl (e_sub (e_slot ok 6 (by kernel_rfl)) e_int) l_nil))))))) (b_cons (s_for1 ok 7 (by kernel_rfl) rfl (e_slot ok 8 (by kernel_rfl)) (b_cons (s_expr rfl (e_meth ok rfl (e_slot ok 7 (by kernel_rfl)) (l_cons rfl e_int l_nil))) b_nil)) (b_cons (s_expr rfl (e_meth ok rfl (e_slot ok 3 (by kernel_rfl)) (l_cons rfl (e_slot ok 9 (by kernel_rfl)) l_nil))) (b_cons (s_expr rfl (e_meth ok rfl (e_slot ok 4 (by kernel_rfl)) (l_cons rfl (e_call ok (e_glob ok (v := .ref 354) (by kernel_rfl) (by kernel_rfl)) (l_cons rfl (e_slot ok 9 (by kernel_rfl)) l_nil)) l_nil))) b_nil))))))) (b_cons (s_asg 10 (by kernel_rfl) rfl (e_call ok (e_glob ok (v := .ref 374) (by kernel_rfl) (by kernel_rfl)) (l_cons rfl (e_slot ok 1 (by kernel_rfl)) (l_cons rfl e_int l_nil)))) (b_cons (s_asg 11 (by kernel_rfl) rfl (e_call ok (e_glob ok (v := .ref 393) (by kernel_rfl) (by kernel_rfl)) (l_cons rfl (e_bin (e_slot ok 10 (by kernel_rfl)) e_int) l_nil))) (b_cons (s_asg 12 (by kernel_rfl) rfl (e_call ok (e_glob ok (v := .ty "tuple") (by kernel_rfl) (by kernel_rfl)) (l_cons rfl (e_slot ok 11 (by kernel_rfl)) l_nil))) (b_cons (s_asg 13 (by kernel_rfl) rfl (e_call ok (e_glob ok (v := .ref 141) (by kernel_rfl) (by kernel_rfl)) (l_cons rfl (e_bin (e_slot ok 10 (by kernel_rfl)) e_int) (l_cons rfl (e_slot ok 11 (by kernel_rfl)) (l_cons rfl e_bytes l_nil))))) (b_cons (s_expr rfl (e_meth ok rfl (e_slot ok 11 (by kernel_rfl)) l_nil)) (b_cons (s_expr rfl (e_meth ok rfl (e_slot ok 11 (by kernel_rfl)) (l_cons rfl (e_tuple (by decide) (l_cons rfl e_int (l_cons rfl e_int l_nil))) l_nil))) (b_cons (s_asg2 14 15 (by kernel_rfl) (by kernel_rfl) (by kernel_rfl) rfl (e_call ok (e_glob ok (v := .ref 405) (by kernel_rfl) (by kernel_rfl)) (l_cons rfl (e_slot ok 10 (by kernel_rfl)) l_nil))) (b_cons (s_for1 ok 16 (by kernel_rfl) rfl (e_tuple (by decide) (l_cons rfl e_int (l_cons rfl e_int l_nil))) (b_cons (s_if (t_not (t_call (e_call ok (e_glob ok (v := .ref 427) (by kernel_rfl) (by kernel_rfl)) (l_cons rfl (e_sub (e_slot ok 3 (by kernel_rfl)) (e_slot ok 16 (by kernel_rfl))) (l_cons rfl (e_sub (e_slot ok 2 (by kernel_rfl)) (e_slot ok 16 (by kernel_rfl))) (l_cons rfl (e_slot ok 14 (by kernel_rfl)) (l_cons rfl (e_slot ok 15 (by kernel_rfl)) l_nil))))))) (b_cons (s_ret e_bool) b_nil) b_nil) b_nil)) (b_cons (s_asg 17 (by kernel_rfl) rfl (e_list (by decide) l_nil)) (b_cons (s_for1 ok 18 (by kernel_rfl) rfl (e_call ok (e_glob ok (v := .ty "range") (by kernel_rfl) (by kernel_rfl)) (l_cons rfl e_int l_nil)) (b_cons (s_asg 19 (by kernel_rfl) rfl (e_call ok (e_glob ok (v := .ref 374) (by kernel_rfl) (by kernel_rfl)) (l_cons rfl (e_slot ok 1 (by kernel_rfl)) (l_cons rfl (e_bin e_int (e_bin (e_slot ok 18 (by kernel_rfl)) e_int)) l_nil)))) (b_cons (s_asg 20 (by kernel_rfl) rfl (e_bin (e_slot ok 19 (by kernel_rfl)) e_int)) (b_cons (s_asg 21 (by kernel_rfl) rfl (e_cmp ok rfl (e_bin (e_bin (e_slot ok 19 (by kernel_rfl)) e_int) e_int) e_int)) (b_cons (s_if (t_cmp ok rfl (e_bin (e_slot ok 18 (by kernel_rfl)) e_int) e_int) (b_cons (s_asg 20 (by kernel_rfl) rfl e_int) (b_cons (s_asg 21 (by kernel_rfl) rfl e_bool) b_nil)) (b_cons (s_if (t_cmp ok rfl (e_slot ok 18 (by kernel_rfl)) e_int) (b_cons (s_asg 20 (by kernel_rfl) rfl e_int) (b_cons (s_asg 21 (by kernel_rfl) rfl e_bool) b_nil)) b_nil) b_nil)) (b_cons (s_asg 22 (by kernel_rfl) rfl (e_cmp ok rfl (e_bin (e_bin (e_slot ok 19 (by kernel_rfl)) e_int) e_int) e_int)) (b_cons (s_asg 11 (by kernel_rfl) rfl (e_call ok (e_glob ok (v := .ref 393) (by kernel_rfl) (by kernel_rfl)) (l_cons rfl (e_bin (e_slot ok 19 (by kernel_rfl)) e_int) l_nil))) (b_cons (s_asg 23 (by kernel_rfl) rfl (e_call ok (e_glob ok (v := .ty "tuple") (by kernel_rfl) (by kernel_rfl)) (l_cons rfl (e_slot ok 11 (by kernel_rfl)) l_nil))) (b_cons (s_if (t_cmp ok rfl (e_slot ok 20 (by kernel_rfl)) e_int) (b_cons (s_asg 24 (by kernel_rfl) rfl (e_cmp ok rfl (e_bin (e_slot ok 10 (by kernel_rfl)) e_int) e_int)) (b_cons (s_asg 25 (by kernel_rfl) rfl e_int) (b_cons (s_if (t_and (t_cmp ok rfl (e_bin (e_slot ok 10 (by kernel_rfl)) e_int) e_int) (t_cmp ok rfl (e_call ok (e_glob ok (v := .blt "len") (by kernel_rfl) (by kernel_rfl)) (l_cons rfl (e_slot ok 12 (by kernel_rfl)) l_nil)) e_int)) (b_cons (s_asg 25 (by kernel_rfl) rfl (e_bin e_int (e_bin e_int (e_call ok (e_glob ok (v := .blt "len") (by kernel_rfl) (by kernel_rfl)) (l_cons rfl (e_slot ok 12 (by kernel_rfl)) l_nil))))) b_nil) b_nil) (b_cons (s_asg 26 (by kernel_rfl) rfl (e_slot ok 12 (by kernel_rfl))) b_nil)))) (b_cons (s_asg 25 (by kernel_rfl) rfl (e_bin (e_slot ok 20 (by kernel_rfl)) e_int)) (b_cons (s_asg 24 (by kernel_rfl) rfl (e_slot ok 22 (by kernel_rfl))) (b_cons (s_asg 26 (by kernel_rfl) rfl (e_slot ok 23 (by kernel_rfl))) b_nil)))) (b_cons (s_asg 16 (by kernel_rfl) rfl e_int) (b_cons (s_if (t_cmp ok rfl (e_cmp ok rfl (e_slot ok 25 (by kernel_rfl)) e_int) (e_slot ok 21 (by kernel_rfl))) (b_cons (s_asg 16 (by kernel_rfl) rfl e_int) b_nil) b_nil) (b_cons (s_asg 27 (by kernel_rfl) rfl (e_call ok (e_glob ok (v := .ref 398) (by kernel_rfl) (by kernel_rfl)) (l_cons rfl (e_sub (e_slot ok 2 (by kernel_rfl)) (e_slot ok 16 (by kernel_rfl))) (l_cons rfl (e_slot ok 25 (by kernel_rfl)) (l_cons rfl (e_slot ok 24 (by kernel_rfl)) (l_cons rfl (e_slot ok 26 (by kernel_rfl)) l_nil)))))) (b_cons (s_asg 28 (by kernel_rfl) rfl (e_call ok (e_glob ok (v := .ref 434) (by kernel_rfl) (by kernel_rfl)) (l_cons rfl (e_sub (e_slot ok 4 (by kernel_rfl)) (e_slot ok 16 (by kernel_rfl))) (l_cons rfl (e_sub (e_slot ok 3 (by kernel_rfl)) (e_slot ok 16 (by kernel_rfl))) (l_cons rfl (e_slot ok 20 (by kernel_rfl)) (l_cons rfl (e_slot ok 22 (by kernel_rfl)) (l_cons rfl (e_slot ok 11 (by kernel_rfl)) (l_cons rfl (e_slot ok 13 (by kernel_rfl)) l_nil)))))))) (b_cons (s_asg 29 (by kernel_rfl) rfl (e_call ok (e_glob ok (v := .ref 434) (by kernel_rfl) (by kernel_rfl)) (l_cons rfl (e_sub (e_slot ok 4 (by kernel_rfl)) (e_slot ok 16 (by kernel_rfl))) (l_cons rfl (e_sub (e_slot ok 3 (by kernel_rfl)) (e_slot ok 16 (by kernel_rfl))) (l_cons rfl (e_slot ok 20 (by kernel_rfl)) (l_cons rfl (e_slot ok 22 (by kernel_rfl)) (l_cons rfl (e_slot ok 11 (by kernel_rfl)) (l_cons rfl (e_slot ok 13 (by kernel_rfl)) l_nil)))))))) (b_cons (s_if (t_or (t_cmp ok rfl (e_call ok (e_glob ok (v := .ty "tuple") (by kernel_rfl) (by kernel_rfl)) (l_cons rfl (e_slot ok 11 (by kernel_rfl)) l_nil)) (e_slot ok 23 (by kernel_rfl))) (t_cmp ok rfl (e_meth ok rfl (e_slot ok 13 (by kernel_rfl)) l_nil) (e_tuple (by decide) (l_cons rfl (e_bin (e_slot ok 10 (by kernel_rfl)) e_int) (l_cons rfl (e_slot ok 12 (by kernel_rfl)) (l_cons rfl e_bytes l_nil)))))) (b_cons (s_ret e_bool) b_nil) b_nil) (b_cons (s_if (t_or (t_cmp ok rfl (e_cmp ok rfl (e_slot ok 28 (by kernel_rfl)) e_none) (e_cmp ok rfl (e_slot ok 27 (by kernel_rfl)) e_none)) (t_cmp ok rfl (e_cmp ok rfl (e_slot ok 29 (by kernel_rfl)) e_none) (e_cmp ok rfl (e_slot ok 27 (by kernel_rfl)) e_none))) (b_cons (s_ret e_bool) b_nil) b_nil) (b_cons (s_if (t_cmp ok rfl (e_slot ok 27 (by kernel_rfl)) e_none) (b_cons (s_asg2 14 15 (by kernel_rfl) (by kernel_rfl) (by kernel_rfl) rfl (e_call ok (e_glob ok (v := .ref 405) (by kernel_rfl) (by kernel_rfl)) (l_cons rfl (e_slot ok 19 (by kernel_rfl)) l_nil))) (b_cons (s_if (t_not (t_call (e_call ok (e_glob ok (v := .ref 427) (by kernel_rfl) (by kernel_rfl)) (l_cons rfl (e_slot ok 28 (by kernel_rfl)) (l_cons rfl (e_slot ok 27 (by kernel_rfl)) (l_cons rfl (e_slot ok 14 (by kernel_rfl)) (l_cons rfl (e_slot ok 15 (by kernel_rfl)) l_nil))))))) (b_cons (s_ret e_bool) b_nil) b_nil) (b_cons (s_expr rfl (e_call ok (e_glob ok (v := .ref 417) (by kernel_rfl) (by kernel_rfl)) (l_cons rfl (e_slot ok 28 (by kernel_rfl)) l_nil))) (b_cons (s_expr rfl (e_meth ok rfl (e_slot ok 17 (by kernel_rfl)) (l_cons rfl (e_tuple (by decide) (l_cons rfl (e_slot ok 29 (by kernel_rfl)) (l_cons rfl (e_call ok (e_glob ok (v := .ref 386) (by kernel_rfl) (by kernel_rfl)) (l_cons rfl (e_slot ok 27 (by kernel_rfl)) l_nil)) l_nil))) l_nil))) b_nil)))) b_nil) (b_cons (s_for1 ok 30 (by kernel_rfl) rfl (e_tuple (by decide) (l_cons rfl e_int (l_cons rfl e_int l_nil))) (b_cons (s_if (t_cmp ok rfl (e_meth ok rfl (e_sub (e_slot ok 3 (by kernel_rfl)) (e_slot ok 30 (by kernel_rfl))) l_nil) (e_call ok (e_glob ok (v := .ref 386) (by kernel_rfl) (by kernel_rfl)) (l_cons rfl (e_sub (e_slot ok 2 (by kernel_rfl)) (e_slot ok 30 (by kernel_rfl))) l_nil))) (b_cons (s_ret e_bool) b_nil) b_nil) b_nil)) b_nil)))))))))))))))))) (b_cons (s_for2 ok 9 6 (by kernel_rfl) (by kernel_rfl) (by kernel_rfl) rfl (e_slot ok 17 (by kernel_rfl)) (b_cons (s_if (t_cmp ok rfl (e_meth ok rfl (e_slot ok 9 (by kernel_rfl)) l_nil) (e_slot ok 6 (by kernel_rfl))) (b_cons (s_ret e_bool) b_nil) b_nil) (b_cons (s_expr rfl (e_call ok (e_glob ok (v := .ref 417) (by kernel_rfl) (by kernel_rfl)) (l_cons rfl (e_slot ok 9 (by kernel_rfl)) l_nil))) b_nil))) (b_cons (s_asg2 14 15 (by kernel_rfl) (by kernel_rfl) (by kernel_rfl) rfl (e_call ok (e_glob ok (v := .ref 405) (by kernel_rfl) (by kernel_rfl)) (l_cons rfl (e_call ok (e_glob ok (v := .ref 374) (by kernel_rfl) (by kernel_rfl)) (l_cons rfl (e_slot ok 1 (by kernel_rfl)) (l_cons rfl e_int l_nil))) l_nil))) (b_cons (s_ret (e_and (e_call ok (e_glob ok (v := .ref 427) (by kernel_rfl) (by kernel_rfl)) (l_cons rfl (e_sub (e_slot ok 3 (by kernel_rfl)) e_int) (l_cons rfl (e_sub (e_slot ok 2 (by kernel_rfl)) e_int) (l_cons rfl (e_slot ok 14 (by kernel_rfl)) (l_cons rfl (e_slot ok 15 (by kernel_rfl)) l_nil))))) (e_call ok (e_glob ok (v := .ref 427) (by kernel_rfl) (by kernel_rfl)) (l_cons rfl (e_sub (e_slot ok 3 (by kernel_rfl)) e_int) (l_cons rfl (e_sub (e_slot ok 2 (by kernel_rfl)) e_int) (l_cons rfl (e_slot ok 14 (by kernel_rfl)) (l_cons rfl (e_slot ok 15 (by kernel_rfl)) l_nil))))))) b_nil))))))))))))))))))
theorem g_439 (ok : PxOk (PX prog w h)) {k : Nat} {args : List AV} {W : Store} {Q : AV → Store → Prop} {X : Store → Prop} (hl : args.length = 1) (hq : q_439 (PX prog w h) k X (start [Str.ofString "script"] [Str.ofString "nums", Str.ofString "states", Str.ofString "configs", Str.ofString "changers", Str.ofString "state", Str.ofString "row", Str.ofString "part", Str.ofString "halves", Str.ofString "config", Str.ofString "c", Str.ofString "lent", Str.ofString "told", Str.ofString "change", Str.ofString "votes", Str.ofString "acked", Str.ofString "k", Str.ofString "kept", Str.ofString "turn", Str.ofString "z", Str.ofString "way", Str.ofString "odd", Str.ofString "flag", Str.ofString "said", Str.ofString "on", Str.ofString "what", Str.ofString "steps", Str.ofString "want", Str.ofString "got", Str.ofString "again", Str.ofString "j"] args) W (retQ Q)) : CodeOk (PX prog w h) (k + 5) 439 args W Q X := fun_call ok (f_439 w) (t_439 w) (r_439 ok k) hl.symm hq
end
/-! ### stores -/
def Ext (W W' : Store) : Prop := ∀ b c, W b = some c → W' b = some c
theorem Ext.refl (W : Store) : Ext W W := fun _ _ h => h
theorem Ext.trans {W₁ W₂ W₃ : Store} (x : Ext W₁ W₂) (y : Ext W₂ W₃) : Ext W₁ W₃ := fun b c h => y b c (x b c h)
theorem Ext.upd {W W' : Store} {a : Addr} {c : Cell} (x : Ext W W') (h : W a = none) : Ext W (upd W' a c) := fun b c' e => by
  have : b ≠ a := fun q => by rw [q, h] at e; cases e
  simp only [Mine.upd, this, if_false]; exact x b c' e
theorem Ext.none {W W' : Store} (x : Ext W W') {a : Addr} (h : W' a = none) : W a = none := by
  cases e : W a with
  | none => rfl
  | some c => rw [x a c e] at h; cases h
theorem upd_same (W : Store) (a : Addr) (c : Cell) : upd W a c a = some c := by simp [upd]
theorem upd_ne {W : Store} {a b : Addr} {c : Cell} (h : b ≠ a) : upd W a c b = W b := by simp [upd, h]
theorem ne_of {W : Store} {a b : Addr} {c : Cell} (h1 : W a = some c) (h2 : W b = none) : a ≠ b := fun e => by rw [e, h2] at h1; cases h1
theorem upd_fresh {W : Store} {a b : Addr} {c c' : Cell} (h1 : W b = some c') (h2 : W a = none) : upd W a c b = some c' := by rw [upd_ne (ne_of h1 h2)]; exact h1
theorem upd_none {W : Store} {a b : Addr} {c : Cell} (h : upd W a c b = none) : W b = none ∧ b ≠ a := by
  by_cases e : b = a
  · subst e; rw [upd_same] at h; cases h
  · rw [upd_ne e] at h; exact ⟨h, e⟩


/-! ### rules: calls, methods, fields -/
section
variable {P : Px} {X : Store → Prop} {n : Nat} {W : Store} {Q : AV → Store → Prop}
theorem c_fn {a : Addr} {args : List AV} {k : Nat} (hk : keepIn P.K (.ref a) = true) (h : CodeOk P k a args W Q X) (hn : k ≤ n := by decide) : Call P n (.ref a) args W Q X := ⟨⟨hk, h.call hn⟩⟩
theorem c_sorted {x : Addr} {ns : List Int} (h1 : W x = some (.list (ivs ns))) (h2 : ns.length ≤ 60) (h : ∀ ns' r, ns'.Perm ns → ns'.Pairwise (· ≤ ·) → W r = none → Q (.ref r) (upd W r (.list (ivs ns')))) : Call P n (.blt "sorted") [.ref x] W Q X :=
  ⟨⟨ns, h1, h2, fun ns' a b r e => h ns' r a b e⟩⟩
theorem c_lenL {x : Addr} {l : List AV} (h1 : W x = some (.list l)) (h2 : l.length ≤ 1000) (h : Q (.int l.length) W) : Call P n (.blt "len") [.ref x] W Q X := ⟨⟨l, h1, h2, h⟩⟩
theorem c_lenT {l : List AV} (h2 : l.length ≤ 1000) (h : Q (.int l.length) W) : Call P n (.blt "len") [.tup l] W Q X := ⟨⟨h2, h⟩⟩
theorem c_max {x : Addr} {ns : List Int} (h1 : W x = some (.list (ivs ns))) (h0 : ns ≠ []) (h2 : ns.length ≤ 60) (h : ∀ k, k ∈ ns → (∀ y ∈ ns, y ≤ k) → Q (.int k) W) : Call P n (.blt "max") [.ref x] W Q X := ⟨⟨ns, h1, h0, h2, h⟩⟩
theorem c_min {x y : Int} (h : Q (.int (if y < x then y else x)) W) : Call P n (.blt "min") [.int x, .int y] W Q X := ⟨h⟩
theorem c_tuple {x : Addr} {l : List AV} (h1 : W x = some (.list l)) (h2 : l.length ≤ 1000) (h : Q (.tup l) W) : Call P n (.ty "tuple") [.ref x] W Q X := ⟨⟨l, h1, h2, h⟩⟩
theorem c_range1 {b : Int} (h0 : 0 ≤ b) (h1 : b ≤ 1000) (h : Q (.rng 0 b) W) : Call P n (.ty "range") [.int b] W Q X := ⟨⟨h0, h1, h⟩⟩
theorem c_range2 {a b : Int} (h0 : 0 ≤ a) (h1 : a ≤ b) (h2 : b ≤ 1000) (h : Q (.rng a b) W) : Call P n (.ty "range") [.int a, .int b] W Q X := ⟨⟨h0, h1, h2, h⟩⟩
theorem m_app {a : Addr} {l : List AV} {args : Store → (List AV → Store → Prop) → Prop} (h1 : W a = some (.list l)) (h : args W fun vs W₂ => appOk a vs W₂ Q) : Meth P n (.ref a) (Str.ofString "append") args W Q X := ⟨.inl ⟨rfl, ⟨l, h1⟩, h⟩⟩
theorem m_rev {a : Addr} {l : List AV} {args : Store → (List AV → Store → Prop) → Prop} (h1 : W a = some (.list l)) (h : args W fun vs W₂ => revOk a vs W₂ Q) : Meth P n (.ref a) (Str.ofString "reverse") args W Q X := ⟨.inr (.inl ⟨rfl, ⟨l, h1⟩, h⟩)⟩
theorem m_get {a : Addr} {l : List (Int × AV)} {args : Store → (List AV → Store → Prop) → Prop} (h1 : W a = some (.dict l)) (h : args W fun vs W₂ => getOk a vs W₂ Q) : Meth P n (.ref a) (Str.ofString "get") args W Q X := ⟨.inr (.inr (.inl ⟨rfl, ⟨l, h1⟩, h⟩))⟩
theorem m_meth {a C d f : Addr} {x : Str} {l : List (Str × AV)} {args : Store → (List AV → Store → Prop) → Prop} (h1 : W a = some (.inst C d)) (h2 : W d = some (.attrs l)) (hC : ClsOk P.K C) (hM : MethOk P.K C x f) (hl : l.lookup x = none)
    (h : args W fun vs W₂ => CallOk P n f (.ref a :: vs) W₂ Q X) : Meth P n (.ref a) x args W Q X := ⟨.inr (.inr (.inr ⟨C, d, l, f, h1, h2, hC, hM, hl, h⟩))⟩
theorem a_attr {a C d : Addr} {x : Str} {l : List (Str × AV)} {v : AV} (h1 : W a = some (.inst C d)) (h2 : W d = some (.attrs l)) (hC : ClsOk P.K C) (hF : FieldOk P.K C x) (hl : l.lookup x = some v) (h : Q v W) : Attr P (.ref a) x W Q := ⟨⟨C, d, l, v, h1, h2, hC, hF, hl, h⟩⟩
theorem a_set {a C d : Addr} {x : Str} {l : List (Str × AV)} {v : AV} {R : Store → Prop} (h1 : W a = some (.inst C d)) (h2 : W d = some (.attrs l)) (hC : ClsOk P.K C) (hF : FieldOk P.K C x) (hl : l.length ≤ 20) (h : R (upd W d (.attrs (putA l x v)))) : SetA P (.ref a) x v W R := ⟨⟨C, d, l, h1, h2, hC, hF, hl, h⟩⟩
end
/-! ### rules: statements -/
section
variable {X : Store → Prop} {m : Vars} {W : Store} {Q : AFlow → Vars → Store → Prop}
theorem b_go {c r : CS} (h : c X m W (behind (fun m₁ W₁ => r X m₁ W₁ Q) Q)) : bCons c r X m W Q := ⟨_, h, fun _ _ q => q⟩
theorem b_mid {c r : CS} (R : Vars → Store → Prop) (h : c X m W (behind R Q)) (g : ∀ m₁ W₁, R m₁ W₁ → r X m₁ W₁ Q) : bCons c r X m W Q := ⟨R, h, g⟩
theorem if_go {c : CT} {a b : CS} (t : Bool) (h : c X m W fun t' W₁ => t' = t ∧ W = W₁) (ha : t = true → a X m W Q) (hb : t = false → b X m W Q) : sIf c a b X m W Q :=
  ⟨_, h, fun t' W₁ ⟨e, e'⟩ => by subst e e'; exact ⟨ha, hb⟩⟩
/-- a loop by what holds between its turns -/
theorem forL_inv {bnd : AV → Vars → (Vars → Prop) → Prop} {body : CS} {ok : Store → Prop} (hb : ∀ v m (k k' : Vars → Prop), (∀ m, k m → k' m) → bnd v m k → bnd v m k') (Inv : List AV → Vars → Store → Prop) (done : ∀ m W, Inv [] m W → Q .next m W)
    (step : ∀ x xs m W, Inv (x :: xs) m W → bnd x m fun m₁ => body X m₁ W fun f m₂ W₂ => match f with | .next => ok W₂ ∧ Inv xs m₂ W₂ | .cont => ok W₂ ∧ Inv xs m₂ W₂ | .brk => Q .next m₂ W₂ | .ret v => Q (.ret v) m₂ W₂) :
    ∀ xs m W, Inv xs m W → forL bnd (wkS body X) ok Q xs m W
  | [], m, W, h => done m W h
  | x :: xs, m, W, h => hb _ _ _ _ (fun m₁ h => ⟨_, h, fun f m₂ W₂ h => by
      cases f with
      | next => exact ⟨h.1, forL_inv hb Inv done step xs _ _ h.2⟩
      | cont => exact ⟨h.1, forL_inv hb Inv done step xs _ _ h.2⟩
      | brk => exact h
      | ret v => exact h⟩) (step x xs m W h)
theorem for1_go {i : Nat} {body : CS} {ok : Store → Prop} (Inv : List AV → Vars → Store → Prop) {xs : List AV} (h : Inv xs m W) (done : ∀ m W, Inv [] m W → Q .next m W)
    (step : ∀ x xs m W, Inv (x :: xs) m W → body X (setk m i x) W fun f m₂ W₂ => match f with | .next => ok W₂ ∧ Inv xs m₂ W₂ | .cont => ok W₂ ∧ Inv xs m₂ W₂ | .brk => Q .next m₂ W₂ | .ret v => Q (.ret v) m₂ W₂) :
    forL (fun v m k => k (setk m i v)) (wkS body X) ok Q xs m W := forL_inv (bnd := fun v m k => k (setk m i v)) (fun _ _ _ _ f h => f _ h) Inv done step xs m W h
theorem for2_go {i j : Nat} {body : CS} {ok : Store → Prop} (Inv : List AV → Vars → Store → Prop) {xs : List AV} (h : Inv xs m W) (done : ∀ m W, Inv [] m W → Q .next m W)
    (step : ∀ x xs m W, Inv (x :: xs) m W → ∃ a b, x = .tup [a, b] ∧ body X (setk (setk m i a) j b) W fun f m₂ W₂ => match f with | .next => ok W₂ ∧ Inv xs m₂ W₂ | .cont => ok W₂ ∧ Inv xs m₂ W₂ | .brk => Q .next m₂ W₂ | .ret v => Q (.ret v) m₂ W₂) :
    forL (fun v m k => ∃ a b, v = .tup [a, b] ∧ k (setk (setk m i a) j b)) (wkS body X) ok Q xs m W := forL_inv (bnd := fun v m k => ∃ a b, v = .tup [a, b] ∧ k (setk (setk m i a) j b)) (fun _ _ _ _ f ⟨a, b, e, h⟩ => ⟨a, b, e, f _ h⟩) Inv done step xs m W h
end
/-! ### ascending lists of small ints -/
def nine : List Int := [0, 1, 2, 3, 4, 5, 6, 7, 8]
def asc (p : Int → Bool) : List Int := nine.filter p
def Small (ns : List Int) : Prop := ∀ x ∈ ns, 0 ≤ x ∧ x ≤ 8
theorem mem_nine {x : Int} : x ∈ nine ↔ 0 ≤ x ∧ x ≤ 8 := by
  simp only [nine, List.mem_cons, List.not_mem_nil, or_false]; omega
theorem mem_asc {p : Int → Bool} {x : Int} : x ∈ asc p ↔ (0 ≤ x ∧ x ≤ 8) ∧ p x = true := by
  unfold asc; rw [List.mem_filter, mem_nine]
theorem asc_sorted (p : Int → Bool) : (asc p).Pairwise (· < ·) := List.Pairwise.filter p (by simp [nine, List.pairwise_cons])
theorem asc_len (p : Int → Bool) : (asc p).length ≤ 9 := List.length_filter_le p nine
theorem asc_small (p : Int → Bool) : Small (asc p) := fun _ h => (mem_asc.mp h).1
theorem sorted_ext : ∀ {a b : List Int}, a.Pairwise (· < ·) → b.Pairwise (· < ·) → (∀ x, x ∈ a ↔ x ∈ b) → a = b
  | [], [], _, _, _ => rfl
  | [], y :: b, _, _, h => by have := (h y).mpr (.head _); cases this
  | x :: a, [], _, _, h => by have := (h x).mp (.head _); cases this
  | x :: a, y :: b, ha, hb, h => by
    obtain ⟨a1, a2⟩ := List.pairwise_cons.mp ha
    obtain ⟨b1, b2⟩ := List.pairwise_cons.mp hb
    have e : x = y := by
      rcases List.mem_cons.mp ((h x).mp (.head _)) with q | q
      · exact q
      · rcases List.mem_cons.mp ((h y).mpr (.head _)) with r | r
        · exact r.symm
        · have := b1 x q; have := a1 y r; omega
    subst e
    rw [sorted_ext a2 b2 fun z => ?_]
    constructor
    · intro q
      rcases List.mem_cons.mp ((h z).mp (.tail _ q)) with r | r
      · have := a1 z q; omega
      · exact r
    · intro q
      rcases List.mem_cons.mp ((h z).mpr (.tail _ q)) with r | r
      · have := b1 z q; omega
      · exact r
theorem asc_ext {p q : Int → Bool} (h : ∀ x, 0 ≤ x → x ≤ 8 → p x = q x) : asc p = asc q := by
  unfold asc
  apply List.filter_congr
  intro x hx
  obtain ⟨a, b⟩ := mem_nine.mp hx
  exact h x a b
section
variable {prog : Program} {w : World} {h : Heap} {X : Store → Prop} {Q : AV → Store → Prop}
theorem last_at {l : List Int} (hl : l ≠ []) : (ivs l).getLast? = some (.int (l.getLast hl)) := by
  unfold ivs
  rw [List.getLast?_map, List.getLast?_eq_some_getLast hl]; rfl
theorem last_max : ∀ {l : List Int} (hl : l ≠ []), l.Pairwise (· < ·) → ∀ x ∈ l, x ≤ l.getLast hl
  | [a], _, _, x, hx => by simp at hx; simp [hx]
  | a :: b :: r, _, h, x, hx => by
    rw [List.getLast_cons (by simp)]
    obtain ⟨h1, h2⟩ := List.pairwise_cons.mp h
    rcases List.mem_cons.mp hx with q | q
    · subst q
      have := h1 _ (List.getLast_mem (by simp : b :: r ≠ []))
      omega
    · exact last_max (by simp) h2 x q
theorem ivs_len (l : List Int) : (ivs l).length = l.length := List.length_map _
theorem spec_rising (ok : PxOk (PX prog w h)) {a : Addr} {ns : List Int} {W : Store} (hW : W a = some (.list (ivs ns))) (hl : ns.length ≤ 60) (hs : Small ns)
    (hQ : ∀ r W', Ext W W' → W r = none → W' r = some (.list (ivs (asc fun x => decide (x ∈ ns)))) → Q (.ref r) W') : CodeOk (PX prog w h) 25 70 [.ref a] W Q X := by
  refine g_70 ok (k := 20) rfl ?_
  refine b_go ?_
  intro out hout
  refine b_go ?_
  refine c_sorted (upd_fresh hW hout) hl fun ns' r hp hsort hr => ?_
  obtain ⟨hr, hro⟩ := upd_none hr
  have hlen : ns'.length = ns.length := hp.length_eq
  refine ⟨_, _, .list r (ivs ns') (upd_same _ _ _) (by rw [ivs_len]; omega), ?_⟩
  refine for1_go (fun xs m W₁ => ∃ pre rest o i n, xs = ivs rest ∧ ns' = pre ++ rest ∧ o.Pairwise (· < ·) ∧ (∀ x, x ∈ o ↔ x ∈ pre) ∧ o.length ≤ pre.length ∧ m = [(Str.ofString "ids", i), (Str.ofString "out", some (.ref out)), (Str.ofString "nid", n)] ∧ Ext W W₁ ∧ W₁ out = some (.list (ivs o)) ∧ W₁ r = some (.list (ivs ns')))
    ⟨[], ns', [], _, _, rfl, rfl, .nil, by simp, by simp, rfl, ((Ext.refl W).upd hout).upd hr, by rw [upd_ne (Ne.symm hro), upd_same]; rfl, upd_same _ _ _⟩ ?_ ?_
  · rintro m W₁ ⟨pre, rest, o, i, n, e1, e2, h3, h4, h5, rfl, h7, h8, h9⟩
    have : rest = [] := by cases rest <;> first | rfl | cases e1
    subst this
    refine b_go ?_
    refine hQ out W₁ h7 hout ?_
    rw [h8]
    congr 3
    refine sorted_ext h3 (asc_sorted _) fun x => ?_
    rw [h4, mem_asc]
    simp only [List.append_nil] at e2
    rw [← e2]
    simp only [decide_eq_true_eq, hp.mem_iff]
    exact ⟨fun q => ⟨hs x q, q⟩, fun q => q.2⟩
  · rintro x xs m W₁ ⟨pre, rest, o, i, n, e1, e2, h3, h4, h5, rfl, h7, h8, h9⟩
    cases rest with
    | nil => cases e1
    | cons y rest =>
    cases e1
    have hlo : o.length ≤ 60 := by
      have : ns'.length = pre.length + (rest.length + 1) := by rw [e2]; simp
      omega
    have hle : ∀ z ∈ pre, z ≤ y := fun z hz => by
      rw [e2] at hsort
      exact (List.pairwise_append.mp hsort).2.2 z hz y (.head _)
    refine b_go ?_
    refine if_go (decide (y ∉ o)) ?_ (fun hy => ?_) (fun hy => ?_)
    · refine ⟨_, h8, by rw [ivs_len]; omega, ?_⟩
      refine ⟨fun ho => ?_, fun ho => ?_⟩
      · have : o = [] := by cases o <;> first | rfl | cases ho
        subst this
        exact ⟨by simp, rfl⟩
      · have hne : o ≠ [] := fun e => by subst e; cases ho
        refine Or.inl ⟨_, _, h8, .inr ⟨rfl, last_at hne⟩, by rw [ivs_len]; omega, ?_⟩
        refine ⟨?_, rfl⟩
        have hmax := last_max hne h3
        have hmem := List.getLast_mem hne
        have h2 := hle _ ((h4 _).mp hmem)
        by_cases q : o.getLast hne = y
        · simp [q]; rw [← q]; exact hmem
        · have : y ∉ o := fun hy => by have := hmax y hy; omega
          simp [q, this]
    · have hy : y ∉ o := by simpa using hy
      refine b_go ?_
      refine m_app h8 ?_
      refine ⟨_, _, rfl, h8, by rw [ivs_len]; omega, ?_⟩
      refine ⟨rfl, by rw [upd_ne hro]; exact h9, pre ++ [y], rest, o ++ [y], _, _, rfl, by rw [e2]; simp, ?_, ?_, by simp; omega, rfl, h7.upd hout, by rw [upd_same]; simp [ivs], by rw [upd_ne hro]; exact h9⟩
      · refine List.pairwise_append.mpr ⟨h3, List.pairwise_singleton _ _, fun z hz u hu => ?_⟩
        simp only [List.mem_singleton] at hu
        rw [hu]
        have h1 := hle z ((h4 z).mp hz)
        have h2 : z ≠ y := fun e => hy (e ▸ hz)
        omega
      · intro z
        simp only [List.mem_append, h4]
    · have hy : y ∈ o := by simpa using hy
      refine ⟨h9, pre ++ [y], rest, o, _, _, rfl, by rw [e2]; simp, h3, fun z => ?_, by simp; omega, rfl, h7, h8, h9⟩
      simp only [List.mem_append, List.mem_singleton, h4]
      constructor
      · exact .inl
      · rintro (q | q)
        · exact q
        · rw [q]; exact (h4 _).mp hy
end

def cfgL (v o l x : Addr) (au : Bool) : List (Str × AV) := [(Str.ofString "voters", .ref v), (Str.ofString "outgoing", .ref o), (Str.ofString "learners", .ref l), (Str.ofString "learners_next", .ref x), (Str.ofString "auto_leave", .bool au)]
def stL (v o l x : Addr) (au : Bool) : List (Str × AV) := [(Str.ofString "voters", .ref v), (Str.ofString "learners", .ref l), (Str.ofString "outgoing", .ref o), (Str.ofString "learners_next", .ref x), (Str.ofString "auto_leave", .bool au)]
def IsL (W : Store) (a : Addr) (p : Int → Bool) : Prop := W a = some (.list (ivs (asc p)))
/-- a Config (251) or a ConfState (101), and the cells that are its own -/
structure Rec (K : Addr) (at_ : Addr → Addr → Addr → Addr → Bool → List (Str × AV)) (W : Store) (a d v o l x : Addr) (V O L N : Int → Bool) (au : Bool) : Prop where
  inst : W a = some (.inst K d)
  attrs : W d = some (.attrs (at_ v o l x au))
  vs : IsL W v V
  os : IsL W o O
  ls : IsL W l L
  xs : IsL W x N
  nd : [a, d, v, o, l, x].Nodup
def ExtD (d : Addr) (W W' : Store) : Prop := ∀ b c, b ≠ d → W b = some c → W' b = some c
theorem ExtD.of {d : Addr} {W W' : Store} (x : Ext W W') : ExtD d W W' := fun b c _ h => x b c h
theorem ExtD.then {d : Addr} {W W' W'' : Store} (x : ExtD d W W') (y : Ext W' W'') : ExtD d W W'' := fun b c q h => y b c (x b c q h)
theorem ExtD.put {d : Addr} {W W' : Store} {c : Cell} (x : ExtD d W W') : ExtD d W (upd W' d c) := fun b c' q h => by rw [upd_ne q]; exact x b c' q h
theorem ne_cell {W : Store} {a b : Addr} {c c' : Cell} (h1 : W a = some c) (h2 : W b = some c') (h : c ≠ c') : a ≠ b := fun e => by rw [e, h2] at h1; cases h1; exact h rfl
theorem ExtD.none {d : Addr} {W W' : Store} {a : Addr} (x : ExtD d W W') (ha : a ≠ d) (h : W' a = none) : W a = none := by
  cases e : W a with
  | none => rfl
  | some c => rw [x a c ha e] at h; cases h

theorem keepK (p : World) {a : Addr} (h : a ∈ keepL) : keepIn (KK p) (.ref a) = true :=
  List.all_eq_true.mp (keep_ok p) a h

section
variable {prog : Program} {w : World} {h : Heap} {X : Store → Prop} {Q : AV → Store → Prop}
theorem spec_cfg_init (ok : PxOk (PX prog w h)) {a d : Addr} {v0 o0 l0 n0 : Addr} {V O L N : List Int} {au : Bool} {W : Store} (ha : W a = some (.inst 251 d)) (hd : W d = some (.attrs []))
    (hv : W v0 = some (.list (ivs V))) (ho : W o0 = some (.list (ivs O))) (hl : W l0 = some (.list (ivs L))) (hn : W n0 = some (.list (ivs N))) (sv : Small V) (so : Small O) (sl : Small L) (sn : Small N) (zv : V.length ≤ 60) (zo : O.length ≤ 60) (zl : L.length ≤ 60) (zn : N.length ≤ 60)
    (hQ : ∀ W' v o l n, ExtD d W W' → (∀ b ∈ [v, o, l, n], W b = none) → Rec 251 cfgL W' a d v o l n (fun i => decide (i ∈ V)) (fun i => decide (i ∈ O)) (fun i => decide (i ∈ L)) (fun i => decide (i ∈ N)) au → Q .none W') :
    CodeOk (PX prog w h) 55 185 [.ref a, .ref v0, .ref o0, .ref l0, .ref n0, .bool au] W Q X := by
  refine g_185 ok (k := 50) rfl ?_
  have nv : v0 ≠ d := ne_cell hv hd (by simp)
  have no : o0 ≠ d := ne_cell ho hd (by simp)
  have nl : l0 ≠ d := ne_cell hl hd (by simp)
  have nn : n0 ≠ d := ne_cell hn hd (by simp)
  have na : a ≠ d := ne_cell ha hd (by simp)
  try refine b_go ?_
  refine c_fn (keepK _ (by decide)) (spec_rising ok hv zv sv fun v W1 E1 f1 g1 => ?_)
  try refine b_go ?_
  have D1 : ExtD d W W1 := .of E1
  have k1 : W1 d = some (.attrs []) := E1 _ _ hd
  have m1 : v ≠ d := fun e => by rw [e] at f1; rw [hd] at f1; cases f1
  have w1 : W v = none := f1
  refine a_set (D1 _ _ na ha) k1 (c_251 w) (d_251_voters w) (by simp) ?_
  have D1p := D1.put (c := .attrs [(Str.ofString "voters", .ref v)])
  have c11 := g1
  try refine b_go ?_
  refine c_fn (keepK _ (by decide)) (spec_rising ok (D1p _ _ no ho) zo so fun o W2 E2 f2 g2 => ?_)
  try refine b_go ?_
  have D2 : ExtD d W W2 := D1p.then E2
  have k2 : W2 d = some (.attrs [(Str.ofString "voters", .ref v)]) := E2 _ _ (upd_same _ _ _)
  have m2 : o ≠ d := fun e => by rw [e] at f2; rw [upd_same] at f2; cases f2
  have w2 : W o = none := D1p.none m2 f2
  have p12 : v ≠ o := ne_of (c := .list _) (by rw [upd_ne m1]; exact c11) f2
  refine a_set (D2 _ _ na ha) k2 (c_251 w) (d_251_outgoing w) (by simp) ?_
  have D2p := D2.put (c := .attrs [(Str.ofString "voters", .ref v), (Str.ofString "outgoing", .ref o)])
  have c12 := E2 _ _ (show upd W1 d _ v = _ by rw [upd_ne m1]; exact c11)
  have c22 := g2
  try refine b_go ?_
  refine c_fn (keepK _ (by decide)) (spec_rising ok (D2p _ _ nl hl) zl sl fun l W3 E3 f3 g3 => ?_)
  try refine b_go ?_
  have D3 : ExtD d W W3 := D2p.then E3
  have k3 : W3 d = some (.attrs [(Str.ofString "voters", .ref v), (Str.ofString "outgoing", .ref o)]) := E3 _ _ (upd_same _ _ _)
  have m3 : l ≠ d := fun e => by rw [e] at f3; rw [upd_same] at f3; cases f3
  have w3 : W l = none := D2p.none m3 f3
  have p13 : v ≠ l := ne_of (c := .list _) (by rw [upd_ne m1]; exact c12) f3
  have p23 : o ≠ l := ne_of (c := .list _) (by rw [upd_ne m2]; exact c22) f3
  refine a_set (D3 _ _ na ha) k3 (c_251 w) (d_251_learners w) (by simp) ?_
  have D3p := D3.put (c := .attrs [(Str.ofString "voters", .ref v), (Str.ofString "outgoing", .ref o), (Str.ofString "learners", .ref l)])
  have c13 := E3 _ _ (show upd W2 d _ v = _ by rw [upd_ne m1]; exact c12)
  have c23 := E3 _ _ (show upd W2 d _ o = _ by rw [upd_ne m2]; exact c22)
  have c33 := g3
  try refine b_go ?_
  refine c_fn (keepK _ (by decide)) (spec_rising ok (D3p _ _ nn hn) zn sn fun n W4 E4 f4 g4 => ?_)
  try refine b_go ?_
  have D4 : ExtD d W W4 := D3p.then E4
  have k4 : W4 d = some (.attrs [(Str.ofString "voters", .ref v), (Str.ofString "outgoing", .ref o), (Str.ofString "learners", .ref l)]) := E4 _ _ (upd_same _ _ _)
  have m4 : n ≠ d := fun e => by rw [e] at f4; rw [upd_same] at f4; cases f4
  have w4 : W n = none := D3p.none m4 f4
  have p14 : v ≠ n := ne_of (c := .list _) (by rw [upd_ne m1]; exact c13) f4
  have p24 : o ≠ n := ne_of (c := .list _) (by rw [upd_ne m2]; exact c23) f4
  have p34 : l ≠ n := ne_of (c := .list _) (by rw [upd_ne m3]; exact c33) f4
  refine a_set (D4 _ _ na ha) k4 (c_251 w) (d_251_learners_next w) (by simp) ?_
  have D4p := D4.put (c := .attrs [(Str.ofString "voters", .ref v), (Str.ofString "outgoing", .ref o), (Str.ofString "learners", .ref l), (Str.ofString "learners_next", .ref n)])
  have c14 := E4 _ _ (show upd W3 d _ v = _ by rw [upd_ne m1]; exact c13)
  have c24 := E4 _ _ (show upd W3 d _ o = _ by rw [upd_ne m2]; exact c23)
  have c34 := E4 _ _ (show upd W3 d _ l = _ by rw [upd_ne m3]; exact c33)
  have c44 := g4
  try refine b_go ?_
  refine a_set (by rw [upd_ne na]; exact D4 _ _ na ha) (upd_same _ _ _) (c_251 w) (d_251_auto_leave w) (Nat.le_of_ble_eq_true (by kernel_rfl)) ?_
  try refine b_go ?_
  refine hQ _ v o l n (D4p.put) ?_ ⟨by rw [upd_ne na, upd_ne na]; exact D4 _ _ na ha, upd_same _ _ _, (by unfold IsL; rw [upd_ne m1, upd_ne m1]; exact c14), (by unfold IsL; rw [upd_ne m2, upd_ne m2]; exact c24), (by unfold IsL; rw [upd_ne m3, upd_ne m3]; exact c34), (by unfold IsL; rw [upd_ne m4, upd_ne m4]; exact c44), ?_⟩
  · intro b hb
    simp only [List.mem_cons, List.not_mem_nil, or_false] at hb
    rcases hb with rfl | rfl | rfl | rfl <;> assumption
  · have av : ∀ b, W b = none → a ≠ b := fun b hb => ne_of ha hb
    have dv : ∀ b, W b = none → d ≠ b := fun b hb => ne_of hd hb
    simp only [List.nodup_cons, List.mem_cons, List.not_mem_nil, or_false, not_or, not_false_eq_true, List.nodup_nil, and_true]
    exact ⟨⟨na, av _ w1, av _ w2, av _ w3, av _ w4⟩, ⟨dv _ w1, dv _ w2, dv _ w3, dv _ w4⟩, ⟨p12, p13, p14⟩, ⟨p23, p24⟩, p34⟩
theorem spec_st_init (ok : PxOk (PX prog w h)) {a d : Addr} {v0 o0 l0 n0 : Addr} {V O L N : List Int} {au : Bool} {W : Store} (ha : W a = some (.inst 101 d)) (hd : W d = some (.attrs []))
    (hv : W v0 = some (.list (ivs V))) (ho : W o0 = some (.list (ivs O))) (hl : W l0 = some (.list (ivs L))) (hn : W n0 = some (.list (ivs N))) (sv : Small V) (so : Small O) (sl : Small L) (sn : Small N) (zv : V.length ≤ 60) (zo : O.length ≤ 60) (zl : L.length ≤ 60) (zn : N.length ≤ 60)
    (hQ : ∀ W' v o l n, ExtD d W W' → (∀ b ∈ [v, o, l, n], W b = none) → Rec 101 stL W' a d v o l n (fun i => decide (i ∈ V)) (fun i => decide (i ∈ O)) (fun i => decide (i ∈ L)) (fun i => decide (i ∈ N)) au → Q .none W') :
    CodeOk (PX prog w h) 55 84 [.ref a, .ref v0, .ref l0, .ref o0, .ref n0, .bool au] W Q X := by
  refine g_84 ok (k := 50) rfl ?_
  have nv : v0 ≠ d := ne_cell hv hd (by simp)
  have no : o0 ≠ d := ne_cell ho hd (by simp)
  have nl : l0 ≠ d := ne_cell hl hd (by simp)
  have nn : n0 ≠ d := ne_cell hn hd (by simp)
  have na : a ≠ d := ne_cell ha hd (by simp)
  try refine b_go ?_
  refine c_fn (keepK _ (by decide)) (spec_rising ok hv zv sv fun v W1 E1 f1 g1 => ?_)
  try refine b_go ?_
  have D1 : ExtD d W W1 := .of E1
  have k1 : W1 d = some (.attrs []) := E1 _ _ hd
  have m1 : v ≠ d := fun e => by rw [e] at f1; rw [hd] at f1; cases f1
  have w1 : W v = none := f1
  refine a_set (D1 _ _ na ha) k1 (c_101 w) (d_101_voters w) (by simp) ?_
  have D1p := D1.put (c := .attrs [(Str.ofString "voters", .ref v)])
  have c11 := g1
  try refine b_go ?_
  refine c_fn (keepK _ (by decide)) (spec_rising ok (D1p _ _ nl hl) zl sl fun l W2 E2 f2 g2 => ?_)
  try refine b_go ?_
  have D2 : ExtD d W W2 := D1p.then E2
  have k2 : W2 d = some (.attrs [(Str.ofString "voters", .ref v)]) := E2 _ _ (upd_same _ _ _)
  have m2 : l ≠ d := fun e => by rw [e] at f2; rw [upd_same] at f2; cases f2
  have w2 : W l = none := D1p.none m2 f2
  have p12 : v ≠ l := ne_of (c := .list _) (by rw [upd_ne m1]; exact c11) f2
  refine a_set (D2 _ _ na ha) k2 (c_101 w) (d_101_learners w) (by simp) ?_
  have D2p := D2.put (c := .attrs [(Str.ofString "voters", .ref v), (Str.ofString "learners", .ref l)])
  have c12 := E2 _ _ (show upd W1 d _ v = _ by rw [upd_ne m1]; exact c11)
  have c22 := g2
  try refine b_go ?_
  refine c_fn (keepK _ (by decide)) (spec_rising ok (D2p _ _ no ho) zo so fun o W3 E3 f3 g3 => ?_)
  try refine b_go ?_
  have D3 : ExtD d W W3 := D2p.then E3
  have k3 : W3 d = some (.attrs [(Str.ofString "voters", .ref v), (Str.ofString "learners", .ref l)]) := E3 _ _ (upd_same _ _ _)
  have m3 : o ≠ d := fun e => by rw [e] at f3; rw [upd_same] at f3; cases f3
  have w3 : W o = none := D2p.none m3 f3
  have p13 : v ≠ o := ne_of (c := .list _) (by rw [upd_ne m1]; exact c12) f3
  have p23 : l ≠ o := ne_of (c := .list _) (by rw [upd_ne m2]; exact c22) f3
  refine a_set (D3 _ _ na ha) k3 (c_101 w) (d_101_outgoing w) (by simp) ?_
  have D3p := D3.put (c := .attrs [(Str.ofString "voters", .ref v), (Str.ofString "learners", .ref l), (Str.ofString "outgoing", .ref o)])
  have c13 := E3 _ _ (show upd W2 d _ v = _ by rw [upd_ne m1]; exact c12)
  have c23 := E3 _ _ (show upd W2 d _ l = _ by rw [upd_ne m2]; exact c22)
  have c33 := g3
  try refine b_go ?_
  refine c_fn (keepK _ (by decide)) (spec_rising ok (D3p _ _ nn hn) zn sn fun n W4 E4 f4 g4 => ?_)
  try refine b_go ?_
  have D4 : ExtD d W W4 := D3p.then E4
  have k4 : W4 d = some (.attrs [(Str.ofString "voters", .ref v), (Str.ofString "learners", .ref l), (Str.ofString "outgoing", .ref o)]) := E4 _ _ (upd_same _ _ _)
  have m4 : n ≠ d := fun e => by rw [e] at f4; rw [upd_same] at f4; cases f4
  have w4 : W n = none := D3p.none m4 f4
  have p14 : v ≠ n := ne_of (c := .list _) (by rw [upd_ne m1]; exact c13) f4
  have p24 : l ≠ n := ne_of (c := .list _) (by rw [upd_ne m2]; exact c23) f4
  have p34 : o ≠ n := ne_of (c := .list _) (by rw [upd_ne m3]; exact c33) f4
  refine a_set (D4 _ _ na ha) k4 (c_101 w) (d_101_learners_next w) (by simp) ?_
  have D4p := D4.put (c := .attrs [(Str.ofString "voters", .ref v), (Str.ofString "learners", .ref l), (Str.ofString "outgoing", .ref o), (Str.ofString "learners_next", .ref n)])
  have c14 := E4 _ _ (show upd W3 d _ v = _ by rw [upd_ne m1]; exact c13)
  have c24 := E4 _ _ (show upd W3 d _ l = _ by rw [upd_ne m2]; exact c23)
  have c34 := E4 _ _ (show upd W3 d _ o = _ by rw [upd_ne m3]; exact c33)
  have c44 := g4
  try refine b_go ?_
  refine a_set (by rw [upd_ne na]; exact D4 _ _ na ha) (upd_same _ _ _) (c_101 w) (d_101_auto_leave w) (Nat.le_of_ble_eq_true (by kernel_rfl)) ?_
  try refine b_go ?_
  refine hQ _ v o l n (D4p.put) ?_ ⟨by rw [upd_ne na, upd_ne na]; exact D4 _ _ na ha, upd_same _ _ _, (by unfold IsL; rw [upd_ne m1, upd_ne m1]; exact c14), (by unfold IsL; rw [upd_ne m3, upd_ne m3]; exact c34), (by unfold IsL; rw [upd_ne m2, upd_ne m2]; exact c24), (by unfold IsL; rw [upd_ne m4, upd_ne m4]; exact c44), ?_⟩
  · intro b hb
    simp only [List.mem_cons, List.not_mem_nil, or_false] at hb
    rcases hb with rfl | rfl | rfl | rfl <;> assumption
  · have av : ∀ b, W b = none → a ≠ b := fun b hb => ne_of ha hb
    have dv : ∀ b, W b = none → d ≠ b := fun b hb => ne_of hd hb
    simp only [List.nodup_cons, List.mem_cons, List.not_mem_nil, or_false, not_or, not_false_eq_true, List.nodup_nil, and_true]
    exact ⟨⟨na, av _ w1, av _ w3, av _ w2, av _ w4⟩, ⟨dv _ w1, dv _ w3, dv _ w2, dv _ w4⟩, ⟨p13, p12, p14⟩, ⟨p23.symm, p34⟩, p24⟩
end

/-- a record whose own cells are new since W₀ -/
def Cf (K : Addr) (at_ : Addr → Addr → Addr → Addr → Bool → List (Str × AV)) (W₀ W : Store) (a : Addr) (V O L N : Int → Bool) (au : Bool) : Prop :=
  ∃ d v o l x, Rec K at_ W a d v o l x V O L N au ∧ ∀ b ∈ [a, d, v, o, l, x], W₀ b = none
abbrev Cfg := Cf 251 cfgL
abbrev Cst := Cf 101 stL
def none₀ : Store := fun _ => none
theorem asc_mem (p : Int → Bool) : asc (fun i => decide (i ∈ asc p)) = asc p := asc_ext fun x a b => by
  cases e : p x <;> simp [mem_asc, e, a, b]
theorem asc_lemma {p q : Int → Bool} (h : ∀ x, p x = q x) : asc p = asc q := asc_ext fun x _ _ => h x
theorem Rec.ext {K : Addr} {at_ : Addr → Addr → Addr → Addr → Bool → List (Str × AV)} {W W' : Store} {a d v o l x : Addr} {V O L N : Int → Bool} {au : Bool} (R : Rec K at_ W a d v o l x V O L N au) (e : Ext W W') : Rec K at_ W' a d v o l x V O L N au :=
  ⟨e _ _ R.inst, e _ _ R.attrs, e _ _ R.vs, e _ _ R.os, e _ _ R.ls, e _ _ R.xs, R.nd⟩
theorem Cf.ext {K : Addr} {at_ : Addr → Addr → Addr → Addr → Bool → List (Str × AV)} {W₀ W W' : Store} {a : Addr} {V O L N : Int → Bool} {au : Bool} (R : Cf K at_ W₀ W a V O L N au) (e : Ext W W') : Cf K at_ W₀ W' a V O L N au := by
  obtain ⟨d, v, o, l, x, r, f⟩ := R; exact ⟨d, v, o, l, x, r.ext e, f⟩
theorem Cf.base {K : Addr} {at_ : Addr → Addr → Addr → Addr → Bool → List (Str × AV)} {W₀ W₁ W : Store} {a : Addr} {V O L N : Int → Bool} {au : Bool} (R : Cf K at_ W₁ W a V O L N au) (e : Ext W₀ W₁) : Cf K at_ W₀ W a V O L N au := by
  obtain ⟨d, v, o, l, x, r, f⟩ := R; exact ⟨d, v, o, l, x, r, fun b hb => e.none (f b hb)⟩
theorem Cf.any {K : Addr} {at_ : Addr → Addr → Addr → Addr → Bool → List (Str × AV)} {W₁ W : Store} {a : Addr} {V O L N : Int → Bool} {au : Bool} (R : Cf K at_ W₁ W a V O L N au) : Cf K at_ none₀ W a V O L N au := R.base fun _ _ h => by cases h
theorem Cf.congr {K : Addr} {at_ : Addr → Addr → Addr → Addr → Bool → List (Str × AV)} {W₀ W : Store} {a : Addr} {V O L N V' O' L' N' : Int → Bool} {au au' : Bool} (R : Cf K at_ W₀ W a V O L N au) (hv : asc V = asc V') (ho : asc O = asc O') (hl : asc L = asc L') (hn : asc N = asc N') (ha : au = au') : Cf K at_ W₀ W a V' O' L' N' au' := by
  subst ha
  obtain ⟨d, v, o, l, x, ⟨i, at1, h1, h2, h3, h4, nd⟩, f⟩ := R
  unfold IsL at h1 h2 h3 h4
  exact ⟨d, v, o, l, x, ⟨i, at1, by unfold IsL; rw [← hv]; exact h1, by unfold IsL; rw [← ho]; exact h2, by unfold IsL; rw [← hl]; exact h3, by unfold IsL; rw [← hn]; exact h4, nd⟩, f⟩

section
variable {prog : Program} {w : World} {h : Heap} {X : Store → Prop} {Q : AV → Store → Prop} {W : Store}
variable {a d v o l x : Addr} {V O L N : Int → Bool} {au : Bool}
theorem rd_v (R : Rec 251 cfgL W a d v o l x V O L N au) (hq : Q (.ref v) W) : Attr (PX prog w h) (.ref a) (Str.ofString "voters") W Q := a_attr R.inst R.attrs (c_251 w) (d_251_voters w) (by kernel_rfl) hq
theorem rd_o (R : Rec 251 cfgL W a d v o l x V O L N au) (hq : Q (.ref o) W) : Attr (PX prog w h) (.ref a) (Str.ofString "outgoing") W Q := a_attr R.inst R.attrs (c_251 w) (d_251_outgoing w) (by kernel_rfl) hq
theorem rd_l (R : Rec 251 cfgL W a d v o l x V O L N au) (hq : Q (.ref l) W) : Attr (PX prog w h) (.ref a) (Str.ofString "learners") W Q := a_attr R.inst R.attrs (c_251 w) (d_251_learners w) (by kernel_rfl) hq
theorem rd_x (R : Rec 251 cfgL W a d v o l x V O L N au) (hq : Q (.ref x) W) : Attr (PX prog w h) (.ref a) (Str.ofString "learners_next") W Q := a_attr R.inst R.attrs (c_251 w) (d_251_learners_next w) (by kernel_rfl) hq
theorem rd_a (R : Rec 251 cfgL W a d v o l x V O L N au) (hq : Q (.bool au) W) : Attr (PX prog w h) (.ref a) (Str.ofString "auto_leave") W Q := a_attr R.inst R.attrs (c_251 w) (d_251_auto_leave w) (by kernel_rfl) hq
theorem rs_v (R : Rec 101 stL W a d v o l x V O L N au) (hq : Q (.ref v) W) : Attr (PX prog w h) (.ref a) (Str.ofString "voters") W Q := a_attr R.inst R.attrs (c_101 w) (d_101_voters w) (by kernel_rfl) hq
theorem rs_o (R : Rec 101 stL W a d v o l x V O L N au) (hq : Q (.ref o) W) : Attr (PX prog w h) (.ref a) (Str.ofString "outgoing") W Q := a_attr R.inst R.attrs (c_101 w) (d_101_outgoing w) (by kernel_rfl) hq
theorem rs_l (R : Rec 101 stL W a d v o l x V O L N au) (hq : Q (.ref l) W) : Attr (PX prog w h) (.ref a) (Str.ofString "learners") W Q := a_attr R.inst R.attrs (c_101 w) (d_101_learners w) (by kernel_rfl) hq
theorem rs_x (R : Rec 101 stL W a d v o l x V O L N au) (hq : Q (.ref x) W) : Attr (PX prog w h) (.ref a) (Str.ofString "learners_next") W Q := a_attr R.inst R.attrs (c_101 w) (d_101_learners_next w) (by kernel_rfl) hq
theorem rs_a (R : Rec 101 stL W a d v o l x V O L N au) (hq : Q (.bool au) W) : Attr (PX prog w h) (.ref a) (Str.ofString "auto_leave") W Q := a_attr R.inst R.attrs (c_101 w) (d_101_auto_leave w) (by kernel_rfl) hq
end

section
variable {prog : Program} {w : World} {h : Heap} {X : Store → Prop} {Q : AV → Store → Prop} {W : Store}
theorem ExtD.ext {a d : Addr} {c c' : Cell} {W W' : Store} (h1 : ExtD d (upd (upd W d c) a c') W') (ha : W a = Option.none) (hd : W d = Option.none) : Ext W W' := fun b k e => by
  have e1 : b ≠ d := ne_of e hd
  have e2 : b ≠ a := ne_of e ha
  exact h1 b k e1 (by rw [upd_ne e2, upd_ne e1]; exact e)
theorem new_cfg (ok : PxOk (PX prog w h)) {v0 o0 l0 n0 : Addr} {V O L N : List Int} {au : Bool}
    (hv : W v0 = some (.list (ivs V))) (ho : W o0 = some (.list (ivs O))) (hl : W l0 = some (.list (ivs L))) (hn : W n0 = some (.list (ivs N))) (sv : Small V) (so : Small O) (sl : Small L) (sn : Small N) (zv : V.length ≤ 60) (zo : O.length ≤ 60) (zl : L.length ≤ 60) (zn : N.length ≤ 60)
    (hQ : ∀ r W', Ext W W' → Cfg W W' r (fun i => decide (i ∈ V)) (fun i => decide (i ∈ O)) (fun i => decide (i ∈ L)) (fun i => decide (i ∈ N)) au → Q (.ref r) W') :
    CodeOk (PX prog w h) 56 251 [.ref v0, .ref o0, .ref l0, .ref n0, .bool au] W Q X := by
  refine cls_ok ok (i_251 w).1 (i_251 w).2.1 (i_251 w).2.2 fun a d na nd hne => ?_
  have E : Ext W (upd (upd W d (.attrs [])) a (.inst 251 d)) := ((Ext.refl W).upd nd).upd na
  refine spec_cfg_init ok (upd_same _ _ _) (by rw [upd_ne (Ne.symm hne)]; exact upd_same _ _ _) (E _ _ hv) (E _ _ ho) (E _ _ hl) (E _ _ hn) sv so sl sn zv zo zl zn fun W' v o l n D F R => ⟨rfl, ?_⟩
  refine hQ a W' (D.ext na nd) ⟨d, v, o, l, n, R, fun b hb => ?_⟩
  rcases List.mem_cons.mp hb with rfl | hb
  · exact na
  rcases List.mem_cons.mp hb with rfl | hb
  · exact nd
  · exact E.none (F b hb)
theorem new_st (ok : PxOk (PX prog w h)) {v0 o0 l0 n0 : Addr} {V O L N : List Int} {au : Bool}
    (hv : W v0 = some (.list (ivs V))) (ho : W o0 = some (.list (ivs O))) (hl : W l0 = some (.list (ivs L))) (hn : W n0 = some (.list (ivs N))) (sv : Small V) (so : Small O) (sl : Small L) (sn : Small N) (zv : V.length ≤ 60) (zo : O.length ≤ 60) (zl : L.length ≤ 60) (zn : N.length ≤ 60)
    (hQ : ∀ r W', Ext W W' → Cst W W' r (fun i => decide (i ∈ V)) (fun i => decide (i ∈ O)) (fun i => decide (i ∈ L)) (fun i => decide (i ∈ N)) au → Q (.ref r) W') :
    CodeOk (PX prog w h) 56 101 [.ref v0, .ref l0, .ref o0, .ref n0, .bool au] W Q X := by
  refine cls_ok ok (i_101 w).1 (i_101 w).2.1 (i_101 w).2.2 fun a d na nd hne => ?_
  have E : Ext W (upd (upd W d (.attrs [])) a (.inst 101 d)) := ((Ext.refl W).upd nd).upd na
  refine spec_st_init ok (upd_same _ _ _) (by rw [upd_ne (Ne.symm hne)]; exact upd_same _ _ _) (E _ _ hv) (E _ _ ho) (E _ _ hl) (E _ _ hn) sv so sl sn zv zo zl zn fun W' v o l n D F R => ⟨rfl, ?_⟩
  refine hQ a W' (D.ext na nd) ⟨d, v, o, l, n, R, fun b hb => ?_⟩
  rcases List.mem_cons.mp hb with rfl | hb
  · exact na
  rcases List.mem_cons.mp hb with rfl | hb
  · exact nd
  · exact E.none (F b hb)
/-- from a record's own lists -/
theorem new_cfgA (ok : PxOk (PX prog w h)) {v0 o0 l0 n0 : Addr} {V O L N : Int → Bool} {au : Bool}
    (hv : IsL W v0 V) (ho : IsL W o0 O) (hl : IsL W l0 L) (hn : IsL W n0 N) (hQ : ∀ r W', Ext W W' → Cfg W W' r V O L N au → Q (.ref r) W') :
    CodeOk (PX prog w h) 56 251 [.ref v0, .ref o0, .ref l0, .ref n0, .bool au] W Q X :=
  new_cfg ok hv ho hl hn (asc_small _) (asc_small _) (asc_small _) (asc_small _) (Nat.le_trans (asc_len _) (by decide)) (Nat.le_trans (asc_len _) (by decide)) (Nat.le_trans (asc_len _) (by decide)) (Nat.le_trans (asc_len _) (by decide))
    fun r W' e c => hQ r W' e (c.congr (asc_mem _) (asc_mem _) (asc_mem _) (asc_mem _) rfl)
theorem new_stA (ok : PxOk (PX prog w h)) {v0 o0 l0 n0 : Addr} {V O L N : Int → Bool} {au : Bool}
    (hv : IsL W v0 V) (ho : IsL W o0 O) (hl : IsL W l0 L) (hn : IsL W n0 N) (hQ : ∀ r W', Ext W W' → Cst W W' r V O L N au → Q (.ref r) W') :
    CodeOk (PX prog w h) 56 101 [.ref v0, .ref l0, .ref o0, .ref n0, .bool au] W Q X :=
  new_st ok hv ho hl hn (asc_small _) (asc_small _) (asc_small _) (asc_small _) (Nat.le_trans (asc_len _) (by decide)) (Nat.le_trans (asc_len _) (by decide)) (Nat.le_trans (asc_len _) (by decide)) (Nat.le_trans (asc_len _) (by decide))
    fun r W' e c => hQ r W' e (c.congr (asc_mem _) (asc_mem _) (asc_mem _) (asc_mem _) rfl)
end
section
variable {prog : Program} {w : World} {h : Heap} {X : Store → Prop} {Q : AV → Store → Prop} {W : Store}
variable {a d v o l x : Addr} {V O L N : Int → Bool} {au : Bool}
theorem asc_k (p : Int → Bool) : (ivs (asc p)).length ≤ 1000 := by rw [ivs_len]; exact Nat.le_trans (asc_len _) (by decide)
theorem c_tupA {x : Addr} {p : Int → Bool} {P : Px} {n : Nat} (h1 : IsL W x p) (h : Q (.tup (ivs (asc p))) W) : Call P n (.ty "tuple") [.ref x] W Q X := c_tuple h1 (asc_k _) h
def rowV (V O L N : Int → Bool) (au : Bool) : AV := .tup [.tup (ivs (asc V)), .tup (ivs (asc O)), .tup (ivs (asc L)), .tup (ivs (asc N)), .bool au]

theorem spec_cfg_row (ok : PxOk (PX prog w h)) (R : Rec 251 cfgL W a d v o l x V O L N au) (hQ : Q (rowV V O L N au) W) : CodeOk (PX prog w h) 25 192 [.ref a] W Q X := by
  refine g_192 ok (k := 20) rfl ?_
  try refine b_go ?_
  refine rd_v R ?_
  try refine b_go ?_
  refine c_tupA R.vs ?_
  try refine b_go ?_
  refine rd_o R ?_
  try refine b_go ?_
  refine c_tupA R.os ?_
  try refine b_go ?_
  refine rd_l R ?_
  try refine b_go ?_
  refine c_tupA R.ls ?_
  try refine b_go ?_
  refine rd_x R ?_
  try refine b_go ?_
  refine c_tupA R.xs ?_
  try refine b_go ?_
  refine rd_a R ?_
  try refine b_go ?_
  exact hQ
theorem spec_st_row (ok : PxOk (PX prog w h)) (R : Rec 101 stL W a d v o l x V O L N au) (hQ : Q (rowV V L O N au) W) : CodeOk (PX prog w h) 25 91 [.ref a] W Q X := by
  refine g_91 ok (k := 20) rfl ?_
  try refine b_go ?_
  refine rs_v R ?_
  try refine b_go ?_
  refine c_tupA R.vs ?_
  try refine b_go ?_
  refine rs_l R ?_
  try refine b_go ?_
  refine c_tupA R.ls ?_
  try refine b_go ?_
  refine rs_o R ?_
  try refine b_go ?_
  refine c_tupA R.os ?_
  try refine b_go ?_
  refine rs_x R ?_
  try refine b_go ?_
  refine c_tupA R.xs ?_
  try refine b_go ?_
  refine rs_a R ?_
  try refine b_go ?_
  exact hQ
theorem spec_copy (ok : PxOk (PX prog w h)) (R : Rec 251 cfgL W a d v o l x V O L N au) (hQ : ∀ r W', Ext W W' → Cfg W W' r V O L N au → Q (.ref r) W') : CodeOk (PX prog w h) 75 199 [.ref a] W Q X := by
  refine g_199 ok (k := 70) rfl ?_
  try refine b_go ?_
  refine rd_v R ?_
  try refine b_go ?_
  refine rd_o R ?_
  try refine b_go ?_
  refine rd_l R ?_
  try refine b_go ?_
  refine rd_x R ?_
  try refine b_go ?_
  refine rd_a R ?_
  try refine b_go ?_
  refine c_fn (keepK _ (by decide)) (new_cfgA ok R.vs R.os R.ls R.xs fun r W' e c => ?_)
  try refine b_go ?_
  exact hQ r W' e c
theorem spec_conf_state (ok : PxOk (PX prog w h)) (R : Rec 251 cfgL W a d v o l x V O L N au) (hQ : ∀ r W', Ext W W' → Cst W W' r V O L N au → Q (.ref r) W') : CodeOk (PX prog w h) 75 241 [.ref a] W Q X := by
  refine g_241 ok (k := 70) rfl ?_
  try refine b_go ?_
  refine rd_v R ?_
  try refine b_go ?_
  refine rd_l R ?_
  try refine b_go ?_
  refine rd_o R ?_
  try refine b_go ?_
  refine rd_x R ?_
  try refine b_go ?_
  refine rd_a R ?_
  try refine b_go ?_
  refine c_fn (keepK _ (by decide)) (new_stA ok R.vs R.os R.ls R.xs fun r W' e c => ?_)
  try refine b_go ?_
  exact hQ r W' e c
theorem spec_joint (ok : PxOk (PX prog w h)) (R : Rec 251 cfgL W a d v o l x V O L N au) (hQ : Q (.bool (decide (asc O ≠ []))) W) : CodeOk (PX prog w h) 25 206 [.ref a] W Q X := by
  refine g_206 ok (k := 20) rfl ?_
  try refine b_go ?_
  refine rd_o R ?_
  try refine b_go ?_
  refine c_lenL R.os (asc_k _) ?_
  try refine b_go ?_
  show Q (.bool _) W
  have : decide (((ivs (asc O)).length : Int) > 0) = decide (asc O ≠ []) := by
    rw [ivs_len]
    cases asc O <;> simp
  rw [this]
  exact hQ
theorem asc_or (p q : Int → Bool) : asc (fun i => decide (i ∈ asc p ++ asc q)) = asc fun i => p i || q i := asc_ext fun x a b => by
  cases e : p x <;> cases e' : q x <;> simp [mem_asc, e, e', a, b]
theorem small_app {a b : List Int} (x : Small a) (y : Small b) : Small (a ++ b) := fun z hz => by
  rcases List.mem_append.mp hz with q | q
  · exact x z q
  · exact y z q
theorem ivs_app (a b : List Int) : ivs (a ++ b) = ivs a ++ ivs b := by unfold ivs; simp
theorem spec_all_voters (ok : PxOk (PX prog w h)) (R : Rec 251 cfgL W a d v o l x V O L N au) (hQ : ∀ r W', Ext W W' → W r = none → IsL W' r (fun i => V i || O i) → Q (.ref r) W') : CodeOk (PX prog w h) 45 213 [.ref a] W Q X := by
  refine g_213 ok (k := 40) rfl ?_
  try refine b_go ?_
  refine rd_v R ?_
  try refine b_go ?_
  refine rd_o R ?_
  try refine b_go ?_
  refine ⟨_, _, R.vs, R.os, by rw [ivs_len, ivs_len]; have := asc_len V; have := asc_len O; omega, fun y hy => ?_⟩
  rw [← ivs_app]
  try refine b_go ?_
  have E := (Ext.refl W).upd (c := .list (ivs (asc V ++ asc O))) hy
  refine c_fn (keepK _ (by decide)) (spec_rising ok (upd_same _ _ _) (by rw [List.length_append]; have := asc_len V; have := asc_len O; omega) (small_app (asc_small _) (asc_small _)) fun r W' e f g => ?_)
  try refine b_go ?_
  exact hQ r W' (E.trans e) (E.none f) (by unfold IsL; rw [g, asc_or])
theorem spec_members (ok : PxOk (PX prog w h)) (R : Rec 251 cfgL W a d v o l x V O L N au) (hQ : ∀ r W', Ext W W' → W r = none → IsL W' r (fun i => (V i || O i) || L i) → Q (.ref r) W') : CodeOk (PX prog w h) 45 220 [.ref a] W Q X := by
  refine g_220 ok (k := 40) rfl ?_
  have lV := asc_len V
  have lO := asc_len O
  have lL := asc_len L
  try refine b_go ?_
  refine rd_v R ?_
  try refine b_go ?_
  refine rd_o R ?_
  try refine b_go ?_
  refine ⟨_, _, R.vs, R.os, by rw [ivs_len, ivs_len]; omega, fun y hy => ?_⟩
  rw [← ivs_app]
  have E := (Ext.refl W).upd (c := .list (ivs (asc V ++ asc O))) hy
  try refine b_go ?_
  refine rd_l (R.ext E) ?_
  try refine b_go ?_
  refine ⟨_, _, upd_same _ _ _, E _ _ R.ls, by rw [ivs_len, ivs_len, List.length_append]; omega, fun z hz => ?_⟩
  rw [← ivs_app]
  have E2 := E.trans ((Ext.refl _).upd (c := .list (ivs (asc V ++ asc O ++ asc L))) hz)
  try refine b_go ?_
  refine c_fn (keepK _ (by decide)) (spec_rising ok (upd_same _ _ _) (by rw [List.length_append, List.length_append]; omega) (small_app (small_app (asc_small _) (asc_small _)) (asc_small _)) fun r W' e f g => ?_)
  try refine b_go ?_
  refine hQ r W' (E2.trans e) (E2.none f) ?_
  unfold IsL
  rw [g]
  have : asc (fun x => decide (x ∈ asc V ++ asc O ++ asc L)) = asc fun i => (V i || O i) || L i := asc_ext fun x a b => by
    cases e : V x <;> cases e' : O x <;> cases e'' : L x <;> simp [mem_asc, e, e', e'', a, b]
  rw [this]
theorem spec_added (ok : PxOk (PX prog w h)) {p : Int → Bool} {k : Int} (hp : IsL W a p) (h0 : 0 ≤ k) (h8 : k ≤ 8) (hQ : ∀ r W', Ext W W' → W r = none → IsL W' r (fun i => p i || decide (i = k)) → Q (.ref r) W') : CodeOk (PX prog w h) 45 269 [.ref a, .int k] W Q X := by
  refine g_269 ok (k := 40) rfl ?_
  have lp := asc_len p
  try refine b_go ?_
  intro y hy
  have E := (Ext.refl W).upd (c := .list [.int k]) hy
  try refine b_go ?_
  refine ⟨_, _, E _ _ hp, upd_same _ _ _, by rw [ivs_len]; simp; omega, fun z hz => ?_⟩
  rw [show [AV.int k] = ivs [k] from rfl, ← ivs_app]
  have E2 := E.trans ((Ext.refl _).upd (c := .list (ivs (asc p ++ [k]))) hz)
  try refine b_go ?_
  refine c_fn (keepK _ (by decide)) (spec_rising ok (upd_same _ _ _) (by rw [List.length_append]; simp; omega) (small_app (asc_small _) (by intro z hz; simp at hz; omega)) fun r W' e f g => ?_)
  try refine b_go ?_
  refine hQ r W' (E2.trans e) (E2.none f) ?_
  unfold IsL
  rw [g]
  have : asc (fun x => decide (x ∈ asc p ++ [k])) = asc fun i => p i || decide (i = k) := asc_ext fun x a b => by
    cases e : p x <;> by_cases q : x = k <;> simp [mem_asc, e, a, b, q]
  rw [this]
end
section
variable {m : Vars} {ok : Store → Prop} {Q : List AV → Store → Prop} {W : Store} {α : Type}
/-- a comprehension by what holds between its turns -/
theorem compL_inv {bnd : AV → (Vars → Prop) → Prop} {ct : CT} {ce : CE} (g : α → AV) (hb : ∀ a (k k' : Vars → Prop), (∀ m, k m → k' m) → bnd (g a) k → bnd (g a) k') (f : α → Bool) (r : α → AV) (I : Store → Prop) (hok : ∀ W, I W → ok W) :
    ∀ (l : List α), (∀ a ∈ l, ∀ W, I W → bnd (g a) fun m' => ct noX m' W fun b W₁ => b = f a ∧ I W₁ ∧ (f a = true → ce noX m' W₁ fun y W₂ => y = r a ∧ I W₂)) →
    ∀ (ys : List AV) (W : Store), I W → (∀ W', I W' → Q (ys ++ (l.filter f).map r) W') → compL bnd (wkT ct noX) (wkE ce noX) ok Q (l.map g) ys W
  | [], _, ys, W, hI, hQ => by have := hQ W hI; rwa [List.filter_nil, List.map_nil, List.append_nil] at this
  | a :: l, hc, ys, W, hI, hQ => hb _ _ _ (fun m' h => ⟨_, h, fun b W₁ ⟨e, h1, h2⟩ => by
      subst e
      have ih := compL_inv g hb f r I hok l (fun a ha => hc a (.tail _ ha))
      cases hf : f a with
      | true =>
        refine ⟨_, h2 hf, fun y W₂ ⟨e, h3⟩ => ⟨hok _ h3, ?_⟩⟩
        subst e
        refine ih _ _ h3 fun W' h => ?_
        have := hQ W' h
        rwa [List.filter_cons_of_pos hf, List.map_cons, List.append_cons] at this
      | false =>
        refine ⟨hok _ h1, ih _ _ h1 fun W' h => ?_⟩
        have := hQ W' h
        rwa [List.filter_cons_of_neg (by rw [hf]; exact Bool.false_ne_true)] at this⟩) (hc a (.head _) W hI)
/-- the same without a test -/
theorem compM_inv {bnd : AV → (Vars → Prop) → Prop} {ce : CE} (g : α → AV) (hb : ∀ a (k k' : Vars → Prop), (∀ m, k m → k' m) → bnd (g a) k → bnd (g a) k') (r : α → AV) (I : Store → Prop) (hok : ∀ W, I W → ok W) :
    ∀ (l : List α), (∀ a ∈ l, ∀ W, I W → bnd (g a) fun m' => ce noX m' W fun y W₂ => y = r a ∧ I W₂) →
    ∀ (ys : List AV) (W : Store), I W → (∀ W', I W' → Q (ys ++ l.map r) W') → compL bnd (fun _ W' Q' => Q' true W') (wkE ce noX) ok Q (l.map g) ys W
  | [], _, ys, W, hI, hQ => by have := hQ W hI; rwa [List.map_nil, List.append_nil] at this
  | a :: l, hc, ys, W, hI, hQ => hb _ _ _ (fun m' h => ⟨_, h, fun y W₂ ⟨e, h3⟩ => by
      subst e
      refine ⟨hok _ h3, compM_inv g hb r I hok l (fun a ha => hc a (.tail _ ha)) _ _ h3 fun W' h => ?_⟩
      have := hQ W' h
      rwa [List.map_cons, List.append_cons] at this⟩) (hc a (.head _) W hI)
end
section
variable {prog : Program} {w : World} {h : Heap} {X : Store → Prop} {Q : AV → Store → Prop} {W : Store} {a : Addr}
theorem asc_filter (p f : Int → Bool) : (asc p).filter f = asc fun i => f i && p i := by unfold asc; rw [List.filter_filter]
theorem spec_without (ok : PxOk (PX prog w h)) {p : Int → Bool} {k : Int} (hp : IsL W a p) (hQ : ∀ r W', Ext W W' → W r = none → IsL W' r (fun i => decide (i ≠ k) && p i) → Q (.ref r) W') : CodeOk (PX prog w h) 45 274 [.ref a, .int k] W Q X := by
  refine g_274 ok (k := 40) rfl ?_
  refine b_go ?_
  refine ⟨_, _, .list _ _ hp (asc_k _), ?_⟩
  refine compL_inv (fun i : Int => AV.int i) (fun _ _ _ f h => f _ h) (fun i => decide (i ≠ k)) (fun i => AV.int i) (fun W' => W' = W) (fun W' e => e ▸ hp) _ (fun i hi W' e => ⟨rfl, e, fun _ => ⟨rfl, e⟩⟩) [] W rfl fun W' e => ?_
  subst e
  refine ⟨?_, fun r hr => hQ r _ ((Ext.refl _).upd hr) hr ?_⟩
  · rw [List.nil_append, asc_filter]; exact asc_k _
  · unfold IsL; rw [upd_same, List.nil_append, asc_filter]; rfl
end
section
variable {prog : Program} {w : World} {h : Heap} {X : Store → Prop} {Q : AV → Store → Prop} {W : Store}
variable {a d v o l x : Addr} {V O L N : Int → Bool} {au : Bool}
theorem m_call0 {P : Px} {n k : Nat} {a C d f : Addr} {x : Str} {l : List (Str × AV)} {X Y : Store → Prop} {m : Vars} (h1 : W a = some (.inst C d)) (h2 : W d = some (.attrs l)) (hC : ClsOk P.K C) (hM : MethOk P.K C x f) (hl : l.lookup x = none)
    (h : CodeOk P k f [.ref a] W Q X) (hn : k ≤ n := by decide) : Meth P n (.ref a) x (lNil Y m) W Q X := m_meth h1 h2 hC hM hl (h.call hn)
/-- a loop whose turns change nothing but its own name -/
theorem for1_same {i : Nat} {body : CS} {ok : Store → Prop} {X : Store → Prop} {QS : AFlow → Vars → Store → Prop} {α : Type} {g : α → AV} (F : Option AV → Vars) (hok : ok W) (done : ∀ u, QS .next (F u) W) (hs : ∀ u v, setk (F u) i v = F (some v)) : ∀ (l : List α) (u : Option AV),
    (∀ y ∈ l, body X (F (some (g y))) W fun f m₂ W₂ => (f = .next ∨ f = .cont) ∧ m₂ = F (some (g y)) ∧ W₂ = W) →
    forL (fun v m k => k (setk m i v)) (wkS body X) ok QS (l.map g) (F u) W
  | [], u, _ => done u
  | y :: l, u, step => by
    have ih := for1_same F hok done hs l (some (g y)) fun y hy => step y (.tail _ hy)
    show wkS body X (setk (F u) i (g y)) W _
    rw [hs]
    refine ⟨_, step y (.head _), fun f m₂ W₂ ⟨hf, e1, e2⟩ => ?_⟩
    rw [e1, e2]
    rcases hf with rfl | rfl <;> exact ⟨hok, ih⟩
theorem if_mid {X : Store → Prop} {m : Vars} {Q : AFlow → Vars → Store → Prop} {c : CT} {a b : CS} (R : Bool → Store → Prop) (h : c X m W R) (ha : ∀ W₁, R true W₁ → a X m W₁ Q) (hb : ∀ W₁, R false W₁ → b X m W₁ Q) : sIf c a b X m W Q :=
  ⟨R, h, fun t W₁ r => ⟨fun e => ha W₁ (e ▸ r), fun e => hb W₁ (e ▸ r)⟩⟩
/-- what check asks -/
structure Valid (V O L N : Int → Bool) (au : Bool) : Prop where
  zero : V 0 = false ∧ O 0 = false ∧ L 0 = false
  no : ∀ i ∈ asc N, O i = true
  nl : ∀ i ∈ asc N, L i = false
  nv : ∀ i ∈ asc N, V i = false
  lv : ∀ i ∈ asc L, V i = false
  lo : ∀ i ∈ asc L, O i = false
  au : asc O = [] → au = false
theorem in_asc {p : Int → Bool} {i : Int} (h0 : 0 ≤ i) (h8 : i ≤ 8) : decide (i ∈ asc p) = p i := by
  cases e : p i <;> simp [mem_asc, e, h0, h8]
theorem in_ascF {p : Int → Bool} {i : Int} (h : p i = false) : decide (i ∈ asc p) = false := by
  simp [mem_asc, h]

theorem ascF0 {p q r : Int → Bool} (h : p 0 = false ∧ q 0 = false ∧ r 0 = false) : decide ((0 : Int) ∈ asc fun i => p i || q i || r i) = false := in_ascF (by simp [h.1, h.2.1, h.2.2])
theorem in_ascS {p q : Int → Bool} {i : Int} (h : i ∈ asc q) : decide (i ∈ asc p) = p i := in_asc (mem_asc.mp h).1.1 (mem_asc.mp h).1.2
theorem spec_check (ok : PxOk (PX prog w h)) (R : Rec 251 cfgL W a d v o l x V O L N au) (G : Valid V O L N au) (hQ : ∀ W', Ext W W' → Q .none W') : CodeOk (PX prog w h) 75 248 [.ref a] W Q X := by
  refine g_248 ok (k := 70) rfl ?_
  refine b_go (if_mid (fun t W' => t = false ∧ Ext W W') ?_ (fun W' q => nomatch q.1) fun W' q => ?_)
  · refine m_call0 R.inst R.attrs (c_251 w) (m_220 w) (by kernel_rfl) (spec_members ok R fun r W' e f g => ?_)
    exact .inl ⟨_, g, ascF0 G.zero, e⟩
  have R' := R.ext q.2
  refine b_go (rd_x R' ⟨_, _, .list _ _ R'.xs (asc_k _), ?_⟩)
  refine for1_same (g := AV.int) (fun u => [(Str.ofString "self", some (.ref a)), (Str.ofString "nid", u)]) R'.xs (fun u => ?_) (fun _ _ => rfl) (asc N) _ fun y hy => ?_
  · refine b_go (rd_l R' ⟨_, _, .list _ _ R'.ls (asc_k _), ?_⟩)
    refine for1_same (g := AV.int) (fun u => [(Str.ofString "self", some (.ref a)), (Str.ofString "nid", u)]) R'.ls (fun u => ?_) (fun _ _ => rfl) (asc L) _ fun y hy => ?_
    · refine b_go (if_go (!decide (asc O ≠ [])) (m_call0 R'.inst R'.attrs (c_251 w) (m_206 w) (by kernel_rfl) (spec_joint ok R' ⟨rfl, rfl⟩)) (fun h => ?_) fun _ => hQ _ q.2)
      refine b_go (if_go false (rd_a R' ?_) (fun h => nomatch h) fun _ => hQ _ q.2)
      rw [G.au (by simpa using h)]; exact ⟨rfl, rfl⟩
    · refine b_go (if_go false (rd_v R' (.inl ⟨_, R'.vs, ?_⟩)) (fun h => nomatch h) fun _ => ?_)
      · rw [in_ascS hy, G.lv y hy]; exact ⟨rfl, rfl⟩
      refine b_go (if_go false (rd_o R' (.inl ⟨_, R'.os, ?_⟩)) (fun h => nomatch h) fun _ => ⟨.inl rfl, rfl, rfl⟩)
      rw [in_ascS hy, G.lo y hy]; exact ⟨rfl, rfl⟩
  · refine b_go (if_go false (rd_o R' (.inl ⟨_, R'.os, ?_⟩)) (fun h => nomatch h) fun _ => ?_)
    · rw [in_ascS hy, G.no y hy]; exact ⟨rfl, rfl⟩
    refine b_go (if_go false (rd_l R' (.inl ⟨_, R'.ls, ?_⟩)) (fun h => nomatch h) fun _ => ?_)
    · rw [in_ascS hy, G.nl y hy]; exact ⟨rfl, rfl⟩
    refine b_go (if_go false (rd_v R' (.inl ⟨_, R'.vs, ?_⟩)) (fun h => nomatch h) fun _ => ⟨.inl rfl, rfl, rfl⟩)
    rw [in_ascS hy, G.nv y hy]; exact ⟨rfl, rfl⟩
end
theorem nodup_set {r : Addr} : ∀ {l : List Addr} (i : Nat), l.Nodup → r ∉ l → (l.set i r).Nodup
  | [], _, h, _ => h
  | a :: l, 0, h, hr => List.nodup_cons.mpr ⟨fun q => hr (.tail _ q), (List.nodup_cons.mp h).2⟩
  | a :: l, i + 1, h, hr => List.nodup_cons.mpr ⟨fun q => (List.mem_or_eq_of_mem_set q).elim (List.nodup_cons.mp h).1 fun e => hr (e ▸ .head _), nodup_set i (List.nodup_cons.mp h).2 fun q => hr (.tail _ q)⟩
theorem memSet {W : Store} {r : Addr} {l : List Addr} (i : Nat) (f : W r = none) : ∀ b ∈ l.set i r, b ∈ l ∨ W b = none := fun b hb => (List.mem_or_eq_of_mem_set hb).imp id fun e => by rw [show b = r from e]; exact f
theorem ExtD.old {d : Addr} {W₀ W W' : Store} (e : ExtD d W W') (e₀ : Ext W₀ W) (hd : W₀ d = Option.none) : Ext W₀ W' := fun b c h => e b c (ne_of h hd) (e₀ b c h)
section
variable {prog : Program} {w : World} {h : Heap} {X : Store → Prop} {Q : AV → Store → Prop} {W W₀ : Store}
variable {a : Addr} {V O L N : Int → Bool} {au : Bool}
/-- a Changer of a configuration -/
def IsCh (W : Store) (s a : Addr) : Prop := ∃ ds, W s = some (.inst 354 ds) ∧ W ds = some (.attrs [(Str.ofString "config", .ref a)])
theorem IsCh.ext {W W' : Store} {s a : Addr} (x : IsCh W s a) (e : Ext W W') : IsCh W' s a := x.imp fun _ q => ⟨e _ _ q.1, e _ _ q.2⟩
theorem Cf.rec {K : Addr} {at_ : Addr → Addr → Addr → Addr → Bool → List (Str × AV)} {G : Prop} (c : Cf K at_ W₀ W a V O L N au) (k : ∀ d v o l x, Rec K at_ W a d v o l x V O L N au → G) : G :=
  let ⟨d, v, o, l, x, R, _⟩ := c; k d v o l x R
theorem m_cfg {n : Nat} {f : Addr} {x : Str} {args : Store → (List AV → Store → Prop) → Prop} (c : Cfg W₀ W a V O L N au) (hM : MethOk (KK w) 251 x f) (hl : ∀ v o l x', (cfgL v o l x' au).lookup x = none) (h' : args W fun vs W₂ => CallOk (PX prog w h) n f (.ref a :: vs) W₂ Q X) : Meth (PX prog w h) n (.ref a) x args W Q X :=
  c.rec fun _ _ _ _ _ R => m_meth R.inst R.attrs (c_251 w) hM (hl _ _ _ _) h'
theorem m_ch {n : Nat} {s f : Addr} {x : Str} {args : Store → (List AV → Store → Prop) → Prop} (c : IsCh W s a) (hM : MethOk (KK w) 354 x f) (hl : [(Str.ofString "config", AV.ref a)].lookup x = none) (h' : args W fun vs W₂ => CallOk (PX prog w h) n f (.ref s :: vs) W₂ Q X) : Meth (PX prog w h) n (.ref s) x args W Q X :=
  let ⟨_, h1, h2⟩ := c; m_meth h1 h2 (c_354 w) hM hl h'
theorem rd_ch {s : Addr} (c : IsCh W s a) (hq : Q (.ref a) W) : Attr (PX prog w h) (.ref s) (Str.ofString "config") W Q :=
  let ⟨_, h1, h2⟩ := c; a_attr h1 h2 (c_354 w) (d_354_config w) (by kernel_rfl) hq
theorem crd_v (c : Cfg W₀ W a V O L N au) (hq : ∀ v, IsL W v V → Q (.ref v) W) : Attr (PX prog w h) (.ref a) (Str.ofString "voters") W Q := c.rec fun _ _ _ _ _ R => rd_v R (hq _ R.vs)
theorem crd_o (c : Cfg W₀ W a V O L N au) (hq : ∀ v, IsL W v O → Q (.ref v) W) : Attr (PX prog w h) (.ref a) (Str.ofString "outgoing") W Q := c.rec fun _ _ _ _ _ R => rd_o R (hq _ R.os)
theorem crd_l (c : Cfg W₀ W a V O L N au) (hq : ∀ v, IsL W v L → Q (.ref v) W) : Attr (PX prog w h) (.ref a) (Str.ofString "learners") W Q := c.rec fun _ _ _ _ _ R => rd_l R (hq _ R.ls)
theorem crd_x (c : Cfg W₀ W a V O L N au) (hq : ∀ v, IsL W v N → Q (.ref v) W) : Attr (PX prog w h) (.ref a) (Str.ofString "learners_next") W Q := c.rec fun _ _ _ _ _ R => rd_x R (hq _ R.xs)
theorem spec_config_of (ok : PxOk (PX prog w h)) (c : Cst W₀ W a V O L N au) (G : Valid V O L N au) (hQ : ∀ r W', Ext W W' → Cfg W W' r V O L N au → Q (.ref r) W') : CodeOk (PX prog w h) 95 262 [.ref a] W Q X :=
  c.rec fun d v o l x R => by
  refine g_262 ok (k := 90) rfl ?_
  refine b_go (rs_v R (rs_o R (rs_l R (rs_x R (rs_a R ?_)))))
  refine c_fn (keepK _ (by decide)) (new_cfgA ok R.vs R.os R.ls R.xs fun r W' e c => ?_)
  refine b_go (m_cfg c (m_248 w) (fun _ _ _ _ => by kernel_rfl) (c.rec fun _ _ _ _ _ R' => (spec_check ok R' G fun W'' e' => ⟨rfl, ?_⟩).call (by decide)))
  exact b_go (hQ r W'' (e.trans e') (c.ext e'))
theorem spec_checked_copy (ok : PxOk (PX prog w h)) {s : Addr} (hs : IsCh W s a) (c : Cfg W₀ W a V O L N au) (G : Valid V O L N au) (hQ : ∀ r W', Ext W W' → Cfg W W' r V O L N au → Q (.ref r) W') : CodeOk (PX prog w h) 95 323 [.ref s] W Q X := by
  refine g_323 ok (k := 90) rfl ?_
  refine b_go (rd_ch hs (m_cfg c (m_248 w) (fun _ _ _ _ => by kernel_rfl) (c.rec fun _ _ _ _ _ R => (spec_check ok R G fun W' e => ⟨rfl, ?_⟩).call (by decide))))
  refine b_go (rd_ch (hs.ext e) (m_cfg (c.ext e) (m_199 w) (fun _ _ _ _ => by kernel_rfl) ((c.ext e).rec fun _ _ _ _ _ R => (spec_copy ok R fun r W'' e' c => ?_).call (by decide))))
  exact hQ r W'' (e.trans e') (c.base e)
theorem cset {W₁ : Store} {y : Str} {val : AV} {V' O' L' N' : Int → Bool} {au' : Bool} (e₀ : Ext W₀ W) (c : Cfg W₀ W a V O L N au) (e : Ext W W₁) (hF : FieldOk (KK w) 251 y) {T : Store → Prop}
    (hp : ∀ d v o l x, Rec 251 cfgL W₁ a d v o l x V O L N au → (∀ b, W b = none → b ∉ [a, d, v, o, l, x]) → ∃ v' o' l' x', putA (cfgL v o l x au) y val = cfgL v' o' l' x' au' ∧ IsL W₁ v' V' ∧ IsL W₁ o' O' ∧ IsL W₁ l' L' ∧ IsL W₁ x' N' ∧ [a, d, v', o', l', x'].Nodup ∧ ∀ b ∈ [a, d, v', o', l', x'], b ∈ [a, d, v, o, l, x] ∨ W b = none)
    (hq : ∀ W', Ext W₀ W' → Cfg W₀ W' a V' O' L' N' au' → T W') : SetA (PX prog w h) (.ref a) y val W₁ T := by
  obtain ⟨d, v, o, l, x, R, F⟩ := c
  have R₁ := R.ext e
  have nin : ∀ b, W b = none → b ∉ [a, d, v, o, l, x] := fun b hb hm => by
    simp only [List.mem_cons, List.not_mem_nil, or_false] at hm
    rcases hm with rfl | rfl | rfl | rfl | rfl | rfl
    · rw [R.inst] at hb; cases hb
    · rw [R.attrs] at hb; cases hb
    · rw [R.vs] at hb; cases hb
    · rw [R.os] at hb; cases hb
    · rw [R.ls] at hb; cases hb
    · rw [R.xs] at hb; cases hb
  obtain ⟨v', o', l', x', hp, h1, h2, h3, h4, nd, hn⟩ := hp d v o l x R₁ nin
  refine a_set R₁.inst R₁.attrs (c_251 w) hF (Nat.le_of_ble_eq_true (by kernel_rfl)) (hp ▸ ?_)
  have nd' := nd
  simp only [List.nodup_cons, List.mem_cons, List.not_mem_nil, or_false, not_or] at nd'
  obtain ⟨⟨n1, _⟩, ⟨n2, n3, n4, n5⟩, _⟩ := nd'
  refine hq _ (((ExtD.of (Ext.refl _)).put).old (e₀.trans e) (F d (by simp))) ⟨d, v', o', l', x', ⟨by rw [upd_ne n1]; exact R₁.inst, upd_same _ _ _, by unfold IsL; rw [upd_ne (Ne.symm n2)]; exact h1, by unfold IsL; rw [upd_ne (Ne.symm n3)]; exact h2, by unfold IsL; rw [upd_ne (Ne.symm n4)]; exact h3, by unfold IsL; rw [upd_ne (Ne.symm n5)]; exact h4, nd⟩, fun b hb => ?_⟩
  exact (hn b hb).elim (F b) e₀.none
theorem cset_v {W₁ : Store} {r : Addr} {p : Int → Bool} (e₀ : Ext W₀ W) (c : Cfg W₀ W a V O L N au) (e : Ext W W₁) (f : W r = none) (g : IsL W₁ r p) {T : Store → Prop} (hq : ∀ W', Ext W₀ W' → Cfg W₀ W' a p O L N au → T W') : SetA (PX prog w h) (.ref a) (Str.ofString "voters") (.ref r) W₁ T :=
  cset e₀ c e (d_251_voters w) (fun d v o l x R nin => ⟨r, o, l, x, by kernel_rfl, g, R.os, R.ls, R.xs, nodup_set 2 R.nd (nin r f), memSet (l := [a, d, v, o, l, x]) 2 f⟩) hq
theorem cset_o {W₁ : Store} {r : Addr} {p : Int → Bool} (e₀ : Ext W₀ W) (c : Cfg W₀ W a V O L N au) (e : Ext W W₁) (f : W r = none) (g : IsL W₁ r p) {T : Store → Prop} (hq : ∀ W', Ext W₀ W' → Cfg W₀ W' a V p L N au → T W') : SetA (PX prog w h) (.ref a) (Str.ofString "outgoing") (.ref r) W₁ T :=
  cset e₀ c e (d_251_outgoing w) (fun d v o l x R nin => ⟨v, r, l, x, by kernel_rfl, R.vs, g, R.ls, R.xs, nodup_set 3 R.nd (nin r f), memSet (l := [a, d, v, o, l, x]) 3 f⟩) hq
theorem cset_l {W₁ : Store} {r : Addr} {p : Int → Bool} (e₀ : Ext W₀ W) (c : Cfg W₀ W a V O L N au) (e : Ext W W₁) (f : W r = none) (g : IsL W₁ r p) {T : Store → Prop} (hq : ∀ W', Ext W₀ W' → Cfg W₀ W' a V O p N au → T W') : SetA (PX prog w h) (.ref a) (Str.ofString "learners") (.ref r) W₁ T :=
  cset e₀ c e (d_251_learners w) (fun d v o l x R nin => ⟨v, o, r, x, by kernel_rfl, R.vs, R.os, g, R.xs, nodup_set 4 R.nd (nin r f), memSet (l := [a, d, v, o, l, x]) 4 f⟩) hq
theorem cset_x {W₁ : Store} {r : Addr} {p : Int → Bool} (e₀ : Ext W₀ W) (c : Cfg W₀ W a V O L N au) (e : Ext W W₁) (f : W r = none) (g : IsL W₁ r p) {T : Store → Prop} (hq : ∀ W', Ext W₀ W' → Cfg W₀ W' a V O L p au → T W') : SetA (PX prog w h) (.ref a) (Str.ofString "learners_next") (.ref r) W₁ T :=
  cset e₀ c e (d_251_learners_next w) (fun d v o l x R nin => ⟨v, o, l, r, by kernel_rfl, R.vs, R.os, R.ls, g, nodup_set 5 R.nd (nin r f), memSet (l := [a, d, v, o, l, x]) 5 f⟩) hq
theorem cset_a {b : Bool} (e₀ : Ext W₀ W) (c : Cfg W₀ W a V O L N au) {T : Store → Prop} (hq : ∀ W', Ext W₀ W' → Cfg W₀ W' a V O L N b → T W') : SetA (PX prog w h) (.ref a) (Str.ofString "auto_leave") (.bool b) W T :=
  cset e₀ c (Ext.refl W) (d_251_auto_leave w) (fun d v o l x R nin => ⟨v, o, l, x, by kernel_rfl, R.vs, R.os, R.ls, R.xs, R.nd, fun b hb => .inl hb⟩) hq
/-! ### words upon one id -/
theorem spec_remove (ok : PxOk (PX prog w h)) {self : AV} {k : Int} (e₀ : Ext W₀ W) (c : Cfg W₀ W a V O L N au)
    (hQ : ∀ W', Ext W₀ W' → Cfg W₀ W' a (fun i => decide (i ≠ k) && V i) O (fun i => decide (i ≠ k) && L i) (fun i => decide (i ≠ k) && N i) au → Q .none W') : CodeOk (PX prog w h) 65 351 [self, .ref a, .int k] W Q X := by
  refine g_351 ok (k := 60) rfl ?_
  refine b_go (crd_v c fun v hv => c_fn (keepK _ (by decide)) (spec_without ok hv fun r W₁ e f g => cset_v e₀ c e f g fun W₂ e₂ c₂ => ?_))
  refine b_go (crd_l c₂ fun v hv => c_fn (keepK _ (by decide)) (spec_without ok hv fun r W₁ e f g => cset_l e₂ c₂ e f g fun W₃ e₃ c₃ => ?_))
  refine b_go (crd_x c₃ fun v hv => c_fn (keepK _ (by decide)) (spec_without ok hv fun r W₁ e f g => cset_x e₃ c₃ e f g fun W₄ e₄ c₄ => ?_))
  exact hQ W₄ e₄ c₄
theorem spec_make_voter (ok : PxOk (PX prog w h)) {self : AV} {k : Int} (h0 : 0 ≤ k) (h8 : k ≤ 8) (e₀ : Ext W₀ W) (c : Cfg W₀ W a V O L N au)
    (hQ : ∀ W', Ext W₀ W' → Cfg W₀ W' a (fun i => V i || decide (i = k)) O (fun i => decide (i ≠ k) && L i) (fun i => decide (i ≠ k) && N i) au → Q .none W') : CodeOk (PX prog w h) 65 337 [self, .ref a, .int k] W Q X := by
  refine g_337 ok (k := 60) rfl ?_
  refine b_go (crd_l c fun v hv => c_fn (keepK _ (by decide)) (spec_without ok hv fun r W₁ e f g => cset_l e₀ c e f g fun W₃ e₃ c₃ => ?_))
  refine b_go (crd_x c₃ fun v hv => c_fn (keepK _ (by decide)) (spec_without ok hv fun r W₁ e f g => cset_x e₃ c₃ e f g fun W₄ e₄ c₄ => ?_))
  refine b_go (crd_v c₄ fun v hv => c_fn (keepK _ (by decide)) (spec_added ok hv h0 h8 fun r W₁ e f g => cset_v e₄ c₄ e f g fun W₂ e₂ c₂ => ?_))
  exact hQ W₂ e₂ c₂
theorem spec_make_learner (ok : PxOk (PX prog w h)) {s b : Addr} {k : Int} (hs : IsCh W₀ s b) (h0 : 0 ≤ k) (h8 : k ≤ 8) (e₀ : Ext W₀ W) (c : Cfg W₀ W a V O L N au)
    (h1 : L k = true → ∀ W', Ext W₀ W' → Cfg W₀ W' a V O L N au → Q .none W')
    (h2 : L k = false → O k = true → ∀ W', Ext W₀ W' → Cfg W₀ W' a (fun i => decide (i ≠ k) && V i) O (fun i => decide (i ≠ k) && L i) (fun i => (decide (i ≠ k) && N i) || decide (i = k)) au → Q .none W')
    (h3 : L k = false → O k = false → ∀ W', Ext W₀ W' → Cfg W₀ W' a (fun i => decide (i ≠ k) && V i) O (fun i => (decide (i ≠ k) && L i) || decide (i = k)) (fun i => decide (i ≠ k) && N i) au → Q .none W') : CodeOk (PX prog w h) 85 344 [.ref s, .ref a, .int k] W Q X := by
  refine g_344 ok (k := 80) rfl ?_
  refine b_go (if_go (L k) (crd_l c fun v hv => .inl ⟨_, hv, in_asc h0 h8, rfl⟩) (fun q => b_go (h1 q W e₀ c)) fun q => ?_)
  refine b_go (m_ch (hs.ext e₀) (m_351 w) (by kernel_rfl) ((spec_remove ok e₀ c fun W₁ e₁ c₁ => ⟨rfl, ?_⟩).call (by decide)))
  refine b_go (if_go (O k) (crd_o c₁ fun v hv => .inl ⟨_, hv, in_asc h0 h8, rfl⟩) (fun q' => ?_) fun q' => ?_)
  · refine b_go (crd_x c₁ fun v hv => c_fn (keepK _ (by decide)) (spec_added ok hv h0 h8 fun r W₂ e f g => cset_x e₁ c₁ e f g fun W₃ e₃ c₃ => ?_))
    exact h2 q q' W₃ e₃ c₃
  · refine b_go (crd_l c₁ fun v hv => c_fn (keepK _ (by decide)) (spec_added ok hv h0 h8 fun r W₂ e f g => cset_l e₁ c₁ e f g fun W₃ e₃ c₃ => ?_))
    exact h3 q q' W₃ e₃ c₃
end
/-! ### loops over a list of items, the names written out as a family -/
section
variable {X : Store → Prop} {Q : AFlow → Vars → Store → Prop} {body : CS} {ok : Store → Prop} {α σ : Type}
def Turned (F : σ → Vars) (I : σ → Store → Prop) (ok : Store → Prop) (Q : AFlow → Vars → Store → Prop) : AFlow → Vars → Store → Prop := fun f m W => match f with
  | .ret v => Q (.ret v) m W
  | .brk => Q .next m W
  | .next => ok W ∧ ∃ s, m = F s ∧ I s W
  | .cont => ok W ∧ ∃ s, m = F s ∧ I s W
theorem Turned.go {F : σ → Vars} {I : σ → Store → Prop} {k : Vars → Store → Prop} (hk : ∀ s W, I s W → k (F s) W) {m : Vars} {W : Store} : ∀ {f : AFlow}, Turned F I ok Q f m W →
    match f with | .next => ok W ∧ k m W | .cont => ok W ∧ k m W | .brk => Q .next m W | .ret v => Q (.ret v) m W
  | .next, ⟨a, s, e, i⟩ => ⟨a, e ▸ hk s W i⟩
  | .cont, ⟨a, s, e, i⟩ => ⟨a, e ▸ hk s W i⟩
  | .brk, h => h
  | .ret _, h => h
theorem for1_list {g : α → AV} (F : σ → Vars) (I : List α → σ → Store → Prop) {i : Nat} (done : ∀ s W, I [] s W → Q .next (F s) W)
    (step : ∀ y r s W, I (y :: r) s W → body X (setk (F s) i (g y)) W (Turned F (I r) ok Q)) : ∀ l s W, I l s W → forL (fun v m k => k (setk m i v)) (wkS body X) ok Q (l.map g) (F s) W
  | [], s, W, h => done s W h
  | y :: r, s, W, h => ⟨_, step y r s W h, fun _ _ _ q => q.go (k := forL (fun v m k => k (setk m i v)) (wkS body X) ok Q (r.map g)) fun s W q => for1_list F I done step r s W q⟩
theorem for2_list {g g' : α → AV} (F : σ → Vars) (I : List α → σ → Store → Prop) {i j : Nat} (done : ∀ s W, I [] s W → Q .next (F s) W)
    (step : ∀ y r s W, I (y :: r) s W → body X (setk (setk (F s) i (g y)) j (g' y)) W (Turned F (I r) ok Q)) : ∀ l s W, I l s W → forL (fun v m k => ∃ a b, v = .tup [a, b] ∧ k (setk (setk m i a) j b)) (wkS body X) ok Q (l.map fun y => .tup [g y, g' y]) (F s) W
  | [], s, W, h => done s W h
  | y :: r, s, W, h => ⟨_, _, rfl, _, step y r s W h, fun _ _ _ q => q.go (k := forL (fun v m k => ∃ a b, v = .tup [a, b] ∧ k (setk (setk m i a) j b)) (wkS body X) ok Q (r.map fun y => .tup [g y, g' y])) fun s W q => for2_list F I done step r s W q⟩
end
section
variable {prog : Program} {w : World} {h : Heap} {X : Store → Prop} {Q : AV → Store → Prop} {W W₀ : Store}
def apart (p q : Int → Bool) : Nat := ((asc p).filter fun i => !q i).length + ((asc q).filter fun i => !p i).length
theorem fil_cons (f : Int → Bool) (y : Int) (r : List Int) (n : Nat) : n + ((y :: r).filter f).length = (n + if f y then 1 else 0) + (r.filter f).length := by
  rw [List.filter_cons]; split <;> simp; omega
theorem spec_count_apart (ok : PxOk (PX prog w h)) {a b : Addr} {p q : Int → Bool} (ha : IsL W a p) (hb : IsL W b q) (hQ : Q (.int (apart p q)) W) : CodeOk (PX prog w h) 45 281 [.ref a, .ref b] W Q X := by
  refine g_281 ok (k := 40) rfl ?_
  refine b_go (b_go ⟨_, _, .list _ _ ha (asc_k _), ?_⟩)
  let F : Nat × Option AV → Vars := fun s => [(Str.ofString "a", some (.ref a)), (Str.ofString "b", some (.ref b)), (Str.ofString "count", some (.int s.1)), (Str.ofString "nid", s.2)]
  refine for1_list (g := AV.int) F (fun l s W₁ => W₁ = W ∧ (∀ x ∈ l, x ∈ asc p) ∧ s.1 + (l.filter fun i => !q i).length = ((asc p).filter fun i => !q i).length) (fun s W₁ c => ?_) (fun y r s W₁ c => ?_) (asc p) (0, none) W ⟨rfl, fun _ h => h, Nat.zero_add _⟩
  · obtain ⟨rfl, _, c⟩ := c
    refine b_go ⟨_, _, .list _ _ hb (asc_k _), ?_⟩
    refine for1_list (g := AV.int) F (fun l s W₂ => W₂ = W₁ ∧ (∀ x ∈ l, x ∈ asc q) ∧ s.1 + (l.filter fun i => !p i).length = apart p q) (fun s W₂ c => ?_) (fun y r s W₂ c => ?_) (asc q) s W₁ ⟨rfl, fun _ h => h, by rw [show s.1 = _ from c]; rfl⟩
    · obtain ⟨rfl, _, c⟩ := c
      have e : s.1 = apart p q := c
      rw [← e] at hQ
      exact b_go hQ
    · obtain ⟨rfl, hl, c⟩ := c
      obtain ⟨hy, hl⟩ := List.forall_mem_cons.mp hl
      rw [fil_cons] at c
      refine b_go (if_go (!p y) (.inl ⟨_, ha, congrArg (! ·) (in_ascS hy), rfl⟩) (fun e => b_go ⟨_, _, rfl, rfl, hb, (s.1 + 1, some (.int y)), rfl, rfl, hl, ?_⟩) fun e => ⟨hb, (s.1, some (.int y)), rfl, rfl, hl, ?_⟩)
      · rwa [e] at c
      · rwa [e] at c
  · obtain ⟨rfl, hl, c⟩ := c
    obtain ⟨hy, hl⟩ := List.forall_mem_cons.mp hl
    rw [fil_cons] at c
    refine b_go (if_go (!q y) (.inl ⟨_, hb, congrArg (! ·) (in_ascS hy), rfl⟩) (fun e => b_go ⟨_, _, rfl, rfl, ha, (s.1 + 1, some (.int y)), rfl, rfl, hl, ?_⟩) fun e => ⟨ha, (s.1, some (.int y)), rfl, rfl, hl, ?_⟩)
    · rwa [e] at c
    · rwa [e] at c
end
/-- the four sets of a configuration -/
structure Sets where
  V : Int → Bool
  O : Int → Bool
  L : Int → Bool
  N : Int → Bool
noncomputable section
def Sets.rem (s : Sets) (k : Int) : Sets := ⟨fun i => decide (i ≠ k) && s.V i, s.O, fun i => decide (i ≠ k) && s.L i, fun i => decide (i ≠ k) && s.N i⟩
def Sets.vot (s : Sets) (k : Int) : Sets := ⟨fun i => s.V i || decide (i = k), s.O, fun i => decide (i ≠ k) && s.L i, fun i => decide (i ≠ k) && s.N i⟩
def Sets.lea (s : Sets) (k : Int) : Sets :=
  if s.L k then s else if s.O k then ⟨(s.rem k).V, s.O, (s.rem k).L, fun i => (s.rem k).N i || decide (i = k)⟩ else ⟨(s.rem k).V, s.O, fun i => (s.rem k).L i || decide (i = k), (s.rem k).N⟩
def Sets.one (s : Sets) (p : Int × Int) : Option Sets :=
  if p.2 = 0 then some s else if p.1 = 0 then some (s.vot p.2) else if p.1 = 3 then some (s.lea p.2) else if p.1 = 1 then some (s.rem p.2) else if p.1 ≠ 2 then none else some s
def Sets.all (s : Sets) : List (Int × Int) → Option Sets
  | [] => some s
  | p :: r => (s.one p).bind fun t => t.all r
end
abbrev CfgS (W₀ W : Store) (a : Addr) (s : Sets) (au : Bool) : Prop := Cfg W₀ W a s.V s.O s.L s.N au
def prV (p : Int × Int) : AV := .tup [.int p.1, .int p.2]
def okPs (ps : List (Int × Int)) : Prop := ∀ p ∈ ps, 0 ≤ p.1 ∧ p.1 < 100 ∧ 0 ≤ p.2 ∧ p.2 ≤ 8
section
variable {prog : Program} {w : World} {h : Heap} {X : Store → Prop} {Q : AV → Store → Prop} {W W₀ : Store}
theorem tr_asc {W : Store} {v : Addr} {p : Int → Bool} {Q : Bool → Store → Prop} (hv : IsL W v p) (hq : Q (decide (asc p ≠ [])) W) : truOk (.ref v) W Q := ⟨_, hv, asc_k _, by
  have : (!(ivs (asc p)).isEmpty) = decide (asc p ≠ []) := by cases asc p <;> simp [ivs]
  rw [this]; exact hq⟩
theorem if_true_go {X : Store → Prop} {m : Vars} {Q : AFlow → Vars → Store → Prop} {c : CT} {a b : CS} (h : c X m W fun t' W₁ => t' = true ∧ W = W₁) (ha : a X m W Q) : sIf c a b X m W Q := if_go true h (fun _ => ha) fun e => nomatch e
theorem if_false_go {X : Store → Prop} {m : Vars} {Q : AFlow → Vars → Store → Prop} {c : CT} {a b : CS} (h : c X m W fun t' W₁ => t' = false ∧ W = W₁) (hb : b X m W Q) : sIf c a b X m W Q := if_go false h (fun e => nomatch e) fun _ => hb
theorem if_prop {X : Store → Prop} {m : Vars} {Q : AFlow → Vars → Store → Prop} {c : CT} {a b : CS} (p : Prop) [Decidable p] (h : c X m W fun t' W₁ => t' = decide p ∧ W = W₁) (ha : p → a X m W Q) (hb : ¬ p → b X m W Q) : sIf c a b X m W Q :=
  if_go (decide p) h (fun e => ha (of_decide_eq_true e)) fun e => hb (of_decide_eq_false e)
theorem all_cons {t t' : Sets} {p : Int × Int} {r : List (Int × Int)} {o : Option Sets} (h : o = t.all (p :: r)) (h1 : t.one p = some t') : o = t'.all r := by rw [h, Sets.all, h1]; rfl
theorem spec_do_changes (ok : PxOk (PX prog w h)) {s ch a b : Addr} {st : Sets} {au : Bool} {ps : List (Int × Int)} (hs : IsCh W₀ s b)
    (hch : W₀ ch = some (.list (ps.map prV))) (hps : okPs ps) (hl : ps.length ≤ 1000) (e₀ : Ext W₀ W) (c : CfgS W₀ W a st au)
    (hX : (st.all ps = none ∨ ∃ t, st.all ps = some t ∧ asc t.V = []) → ∀ W', Ext W₀ W' → X W')
    (hQ : ∀ t, st.all ps = some t → asc t.V ≠ [] → ∀ W', Ext W₀ W' → CfgS W₀ W' a t au → Q .none W') : CodeOk (PX prog w h) 115 330 [.ref s, .ref a, .ref ch] W Q X := by
  refine g_330 ok (k := 110) rfl ?_
  refine b_go ⟨_, _, .list _ _ (e₀ _ _ hch) (by rw [List.length_map]; exact hl), ?_⟩
  let F : Sets × Option AV × Option AV → Vars := fun u => [(Str.ofString "self", some (.ref s)), (Str.ofString "made", some (.ref a)), (Str.ofString "changes", some (.ref ch)), (Str.ofString "kind", u.2.1), (Str.ofString "nid", u.2.2)]
  refine for2_list (g := fun p : Int × Int => AV.int p.1) (g' := fun p : Int × Int => AV.int p.2) F (fun l u W₁ => okPs l ∧ st.all ps = u.1.all l ∧ Ext W₀ W₁ ∧ CfgS W₀ W₁ a u.1 au) (fun u W₁ c => ?_) (fun p r u W₁ c => ?_) ps (st, none, none) W ⟨hps, rfl, e₀, c⟩
  · obtain ⟨_, h2, h5, h6⟩ := c
    refine b_go (if_prop (asc u.1.V = []) (crd_v h6 fun v hv => tr_asc hv ⟨by simp, rfl⟩) (fun q => b_go fun _ => ⟨⟨_, rfl⟩, hX (.inr ⟨u.1, h2, q⟩) W₁ h5⟩) fun q => hQ u.1 h2 q W₁ h5 h6)
  obtain ⟨hr, h2, h5, h6⟩ := c
  obtain ⟨⟨k0, k1, n0, n8⟩, hr⟩ := List.forall_mem_cons.mp hr
  have nx : ∀ {t : Sets} {W₂ : Store}, u.1.one p = some t → Ext W₀ W₂ → CfgS W₀ W₂ a t au → Turned F (fun u W₁ => okPs r ∧ st.all ps = u.1.all r ∧ Ext W₀ W₁ ∧ CfgS W₀ W₁ a u.1 au) (fun W' => W' ch = some (.list (ps.map prV))) (retQ Q) .next (F (u.1, some (.int p.1), some (.int p.2))) W₂ :=
    fun {t W₂} e e₂ c₂ => ⟨e₂ _ _ hch, (t, _, _), rfl, hr, all_cons h2 e, e₂, c₂⟩
  refine b_go (if_prop (p.2 = 0) ⟨rfl, rfl⟩ (fun q => b_go (nx (if_pos q) h5 h6)) fun q => ?_)
  refine b_go (if_prop (p.1 = 0) ⟨rfl, rfl⟩ (fun q0 => b_go ?_) fun q0 => b_go ?_)
  · exact m_ch (hs.ext h5) (m_337 w) (by kernel_rfl) ((spec_make_voter ok n0 n8 h5 h6 fun W₂ e₂ c₂ => ⟨rfl, nx (t := u.1.vot p.2) ((if_neg q).trans (if_pos q0)) e₂ c₂⟩).call (by decide))
  refine if_prop (p.1 = 3) ⟨rfl, rfl⟩ (fun q1 => b_go ?_) fun q1 => b_go ?_
  · have n3 : ∀ W₂, Ext W₀ W₂ → CfgS W₀ W₂ a (u.1.lea p.2) au → _ := fun W₂ e₂ c₂ => nx ((if_neg q).trans ((if_neg q0).trans (if_pos q1))) e₂ c₂
    refine m_ch (hs.ext h5) (m_344 w) (by kernel_rfl) ((spec_make_learner ok hs n0 n8 h5 h6 (fun y W₂ e₂ c₂ => ⟨rfl, n3 W₂ e₂ ?_⟩) (fun y y' W₂ e₂ c₂ => ⟨rfl, n3 W₂ e₂ ?_⟩) (fun y y' W₂ e₂ c₂ => ⟨rfl, n3 W₂ e₂ ?_⟩)).call (by decide))
    · rw [Sets.lea, if_pos y]; exact c₂
    · rw [Sets.lea, if_neg (by rw [y]; exact Bool.false_ne_true), if_pos y']; exact c₂
    · rw [Sets.lea, if_neg (by rw [y]; exact Bool.false_ne_true), if_neg (by rw [y']; exact Bool.false_ne_true)]; exact c₂
  refine if_prop (p.1 = 1) ⟨rfl, rfl⟩ (fun q2 => b_go ?_) fun q2 => b_go ?_
  · exact m_ch (hs.ext h5) (m_351 w) (by kernel_rfl) ((spec_remove ok h5 h6 fun W₂ e₂ c₂ => ⟨rfl, nx (t := u.1.rem p.2) ((if_neg q).trans ((if_neg q0).trans ((if_neg q1).trans (if_pos q2)))) e₂ c₂⟩).call (by decide))
  refine if_prop (p.1 ≠ 2) ⟨rfl, rfl⟩ (fun q3 => b_go ⟨_, rfl, k0, k1, fun _ => ⟨⟨_, rfl⟩, hX (.inl ?_) W₁ h5⟩⟩) fun q3 => nx ?_ h5 h6
  · rw [h2, Sets.all, Sets.one, if_neg q, if_neg q0, if_neg q1, if_neg q2, if_pos q3]; rfl
  · exact (if_neg q).trans ((if_neg q0).trans ((if_neg q1).trans ((if_neg q2).trans (if_neg q3))))
end
/-! ### what a Changer's calls give -/
noncomputable section
def Sets.simple (s : Sets) (au : Bool) (ps : List (Int × Int)) : Option (Sets × Bool) :=
  if asc s.O ≠ [] then none else if asc s.V = [] then none else match s.all ps with
  | none => none
  | some t => if asc t.V = [] then none else if 1 < apart s.V t.V then none else some (t, au)
def Sets.enter (s : Sets) (fl : Bool) (ps : List (Int × Int)) : Option (Sets × Bool) :=
  if asc s.O ≠ [] then none else if asc s.V = [] then none else match (Sets.mk s.V s.V s.L s.N).all ps with
  | none => none
  | some t => if asc t.V = [] then none else some (t, fl)
def Sets.leave (s : Sets) : Option (Sets × Bool) :=
  if asc s.O = [] then none else if asc s.V = [] then none else some (⟨s.V, fun _ => false, fun i => s.L i || s.N i, fun _ => false⟩, false)
def Sets.apply (s : Sets) (au : Bool) (tr : Int) (ps : List (Int × Int)) : Option (Sets × Bool) :=
  if tr = 0 ∧ ps = [] then s.leave else if tr = 0 ∧ ps.length ≤ 1 then s.simple au ps else s.enter (decide (tr ≠ 2)) ps
end
abbrev ValidS (t : Sets) (au : Bool) : Prop := Valid t.V t.O t.L t.N au
def GoodR (res : Option (Sets × Bool)) : Prop := ∀ t b, res = some (t, b) → ValidS t b
/-- what is to be shown of a call that gives res -/
structure Got (W : Store) (res : Option (Sets × Bool)) (Q : AV → Store → Prop) (X : Store → Prop) : Prop where
  no : res = none → ∀ W', Ext W W' → X W'
  yes : ∀ t b, res = some (t, b) → ∀ r W', Ext W W' → CfgS W W' r t b → Q (.ref r) W'
theorem Got.base {W W₁ : Store} {res : Option (Sets × Bool)} {Q : AV → Store → Prop} {X : Store → Prop} (g : Got W res Q X) (e : Ext W W₁) : Got W₁ res Q X :=
  ⟨fun h W' e' => g.no h W' (e.trans e'), fun t b h r W' e' c => g.yes t b h r W' (e.trans e') (c.base e)⟩
section
variable {prog : Program} {w : World} {h : Heap} {X : Store → Prop} {Q : AV → Store → Prop} {W W₀ : Store}
variable {a : Addr} {V O L N : Int → Bool} {au : Bool}
theorem m_check {n : Nat} {Y : Store → Prop} {m : Vars} (ok : PxOk (PX prog w h)) (c : Cfg W₀ W a V O L N au) (G : Valid V O L N au) (hQ : ∀ W', Ext W W' → Q .none W') (hn : 75 ≤ n := by decide) : Meth (PX prog w h) n (.ref a) (Str.ofString "check") (lNil Y m) W Q X :=
  m_cfg c (m_248 w) (fun _ _ _ _ => by kernel_rfl) (c.rec fun _ _ _ _ _ R => (spec_check ok R G hQ).call hn)
theorem m_joint {n : Nat} {Y : Store → Prop} {m : Vars} (ok : PxOk (PX prog w h)) (c : Cfg W₀ W a V O L N au) (hQ : Q (.bool (decide (asc O ≠ []))) W) (hn : 25 ≤ n := by decide) : Meth (PX prog w h) n (.ref a) (Str.ofString "joint") (lNil Y m) W Q X :=
  m_cfg c (m_206 w) (fun _ _ _ _ => by kernel_rfl) (c.rec fun _ _ _ _ _ R => (spec_joint ok R hQ).call hn)
theorem m_copied {n : Nat} {Y : Store → Prop} {m : Vars} {s : Addr} (ok : PxOk (PX prog w h)) (hs : IsCh W s a) (c : Cfg W₀ W a V O L N au) (G : Valid V O L N au) (hQ : ∀ r W', Ext W W' → Cfg W W' r V O L N au → Q (.ref r) W') (hn : 95 ≤ n := by decide) : Meth (PX prog w h) n (.ref s) (Str.ofString "checked_copy") (lNil Y m) W Q X :=
  m_ch hs (m_323 w) (by kernel_rfl) ((spec_checked_copy ok hs c G hQ).call hn)
theorem not_empty {p : Int → Bool} : (!decide (asc p ≠ [])) = decide (asc p = []) := by rw [decide_not, Bool.not_not]
theorem spec_simple (ok : PxOk (PX prog w h)) {s ch a : Addr} {st : Sets} {au : Bool} {ps : List (Int × Int)} (hs : IsCh W s a) (c : CfgS none₀ W a st au) (G : ValidS st au)
    (hch : W ch = some (.list (ps.map prV))) (hps : okPs ps) (hl : ps.length ≤ 1000) (hG : GoodR (st.simple au ps)) (hQ : Got W (st.simple au ps) Q X) : CodeOk (PX prog w h) 145 316 [.ref s, .ref ch] W Q X := by
  refine g_316 ok (k := 140) rfl ?_
  refine b_go (m_copied ok hs c G fun r W₁ e₁ c₁ => ?_)
  unfold Sets.simple at hQ hG
  refine b_go (if_prop (asc st.O ≠ []) (m_joint ok c₁ ⟨rfl, rfl⟩) (fun q => b_go fun _ => ⟨⟨_, rfl⟩, hQ.no (if_pos q) W₁ e₁⟩) fun q => ?_)
  rw [if_neg q] at hQ hG
  refine b_go (if_prop (asc st.V = []) (crd_v c₁ fun v hv => tr_asc hv ⟨not_empty, rfl⟩) (fun q' => b_go fun _ => ⟨⟨_, rfl⟩, hQ.no (if_pos q') W₁ e₁⟩) fun q' => ?_)
  rw [if_neg q'] at hQ hG
  refine b_go (m_ch (hs.ext e₁) (m_330 w) (by kernel_rfl) ((spec_do_changes ok hs hch hps hl e₁ c₁ (fun hn W₂ e₂ => hQ.no ?_ W₂ e₂) fun t ht hv W₂ e₂ c₂ => ⟨rfl, ?_⟩).call (by decide)))
  · rcases hn with hn | ⟨t, ht, hv⟩
    · rw [hn]
    · rw [ht]; exact if_pos hv
  simp only [ht, if_neg hv] at hQ hG
  refine b_go (if_prop (1 < apart st.V t.V) ?_ (fun q3 => b_go fun _ => ⟨⟨_, rfl⟩, hQ.no (if_pos q3) W₂ e₂⟩) fun q3 => ?_)
  · refine rd_ch (hs.ext e₂) (crd_v (c.ext e₂) fun v hv => crd_v c₂ fun v' hv' => c_fn (keepK _ (by decide)) (spec_count_apart ok hv hv' ⟨?_, rfl⟩))
    rw [Bool.eq_iff_iff, decide_eq_true_eq, decide_eq_true_eq]
    exact Int.ofNat_lt
  rw [if_neg q3] at hQ hG
  exact b_go (m_check ok c₂ (hG _ _ rfl) fun W₃ e₃ => ⟨rfl, b_go (hQ.yes t au rfl r W₃ (e₂.trans e₃) (c₂.ext e₃))⟩)
theorem spec_enter (ok : PxOk (PX prog w h)) {s ch a : Addr} {st : Sets} {au fl : Bool} {ps : List (Int × Int)} (hs : IsCh W s a) (c : CfgS none₀ W a st au) (G : ValidS st au)
    (hch : W ch = some (.list (ps.map prV))) (hps : okPs ps) (hl : ps.length ≤ 1000) (hG : GoodR (st.enter fl ps)) (hQ : Got W (st.enter fl ps) Q X) : CodeOk (PX prog w h) 145 302 [.ref s, .bool fl, .ref ch] W Q X := by
  refine g_302 ok (k := 140) rfl ?_
  refine b_go (m_copied ok hs c G fun r W₁ e₁ c₁ => ?_)
  unfold Sets.enter at hQ hG
  refine b_go (if_prop (asc st.O ≠ []) (m_joint ok c₁ ⟨rfl, rfl⟩) (fun q => b_go fun _ => ⟨⟨_, rfl⟩, hQ.no (if_pos q) W₁ e₁⟩) fun q => ?_)
  rw [if_neg q] at hQ hG
  refine b_go (if_prop (asc st.V = []) (crd_v c₁ fun v hv => tr_asc hv ⟨not_empty, rfl⟩) (fun q' => b_go fun _ => ⟨⟨_, rfl⟩, hQ.no (if_pos q') W₁ e₁⟩) fun q' => ?_)
  rw [if_neg q'] at hQ hG
  refine b_go (crd_v c₁ fun v hv => c_fn (keepK _ (by decide)) (spec_rising ok hv (Nat.le_trans (asc_len _) (by decide)) (asc_small _) fun r3 W₂ e₂ f g => ?_))
  rw [asc_mem] at g
  refine cset_o e₁ c₁ e₂ f (p := st.V) g fun W₃ e₃ c₃ => ?_
  refine b_go (m_ch (hs.ext e₃) (m_330 w) (by kernel_rfl) ((spec_do_changes ok (st := ⟨st.V, st.V, st.L, st.N⟩) hs hch hps hl e₃ c₃ (fun hn W₂ e₂ => hQ.no ?_ W₂ e₂) fun t ht hv W₄ e₄ c₄ => ⟨rfl, ?_⟩).call (by decide)))
  · rcases hn with hn | ⟨t, ht, hv⟩
    · rw [hn]
    · rw [ht]; exact if_pos hv
  simp only [ht, if_neg hv] at hQ hG
  refine b_go (cset_a e₄ c₄ fun W₅ e₅ c₅ => ?_)
  exact b_go (m_check ok c₅ (hG _ _ rfl) fun W₆ e₆ => ⟨rfl, b_go (hQ.yes t fl rfl r W₆ (e₅.trans e₆) (c₅.ext e₆))⟩)
theorem asc_none : asc (fun _ => false) = [] := by decide
theorem isl_nil {W : Store} {r : Addr} : IsL (upd W r (.list [])) r fun _ => false := by unfold IsL; rw [upd_same, asc_none]; rfl
theorem spec_leave (ok : PxOk (PX prog w h)) {s a : Addr} {st : Sets} {au : Bool} (hs : IsCh W s a) (c : CfgS none₀ W a st au) (G : ValidS st au)
    (hG : GoodR st.leave) (hQ : Got W st.leave Q X) : CodeOk (PX prog w h) 145 309 [.ref s] W Q X := by
  refine g_309 ok (k := 140) rfl ?_
  refine b_go (m_copied ok hs c G fun r W₁ e₁ c₁ => ?_)
  unfold Sets.leave at hQ hG
  refine b_go (if_prop (asc st.O = []) (m_joint ok c₁ ⟨not_empty, rfl⟩) (fun q => b_go fun _ => ⟨⟨_, rfl⟩, hQ.no (if_pos q) W₁ e₁⟩) fun q => ?_)
  rw [if_neg q] at hQ hG
  refine b_go (crd_l c₁ fun v hv => crd_x c₁ fun v' hv' => ⟨_, _, hv, hv', by rw [ivs_len, ivs_len]; exact Nat.le_trans (Nat.add_le_add (asc_len _) (asc_len _)) (by decide), fun y hy => ?_⟩)
  rw [← ivs_app]
  have E := (Ext.refl W₁).upd (c := .list (ivs (asc st.L ++ asc st.N))) hy
  refine c_fn (keepK _ (by decide)) (spec_rising ok (upd_same _ _ _) (by rw [List.length_append]; exact Nat.le_trans (Nat.add_le_add (asc_len _) (asc_len _)) (by decide)) (small_app (asc_small _) (asc_small _)) fun r3 W₂ e₂ f g => ?_)
  rw [asc_or] at g
  refine cset_l e₁ c₁ (E.trans e₂) (E.none f) (p := fun i => st.L i || st.N i) g fun W₃ e₃ c₃ => ?_
  refine b_go (fun y hy => cset_x e₃ c₃ ((Ext.refl W₃).upd hy) hy isl_nil fun W₄ e₄ c₄ => ?_)
  refine b_go (fun y hy => cset_o e₄ c₄ ((Ext.refl W₄).upd hy) hy isl_nil fun W₅ e₅ c₅ => ?_)
  refine b_go (cset_a e₅ c₅ fun W₆ e₆ c₆ => ?_)
  refine b_go (if_prop (asc st.V = []) (crd_v c₆ fun v hv => tr_asc hv ⟨not_empty, rfl⟩) (fun q' => b_go fun _ => ⟨⟨_, rfl⟩, hQ.no (if_pos q') W₆ e₆⟩) fun q' => ?_)
  rw [if_neg q'] at hQ hG
  exact b_go (m_check ok c₆ (hG _ _ rfl) fun W₇ e₇ => ⟨rfl, b_go (hQ.yes _ _ rfl r W₇ (e₆.trans e₇) (c₆.ext e₇))⟩)
end
def ccL (tr : Int) (l : Addr) (ctx : Array UInt8) : List (Str × AV) := [(Str.ofString "transition", .int tr), (Str.ofString "changes", .ref l), (Str.ofString "context", .bytes ctx)]
/-- a ConfChange, its cells new since W₀ -/
def IsCCn (W₀ W : Store) (g : Addr) (tr : Int) (ps : List (Int × Int)) (ctx : Array UInt8) : Prop :=
  ∃ d l, (W₀ g = none ∧ W₀ d = none ∧ W₀ l = none) ∧ W g = some (.inst 141 d) ∧ W d = some (.attrs (ccL tr l ctx)) ∧ W l = some (.list (ps.map prV))
abbrev IsCC := IsCCn none₀
theorem IsCCn.ext {W₀ W W' : Store} {g : Addr} {tr : Int} {ps : List (Int × Int)} {ctx : Array UInt8} (x : IsCCn W₀ W g tr ps ctx) (e : Ext W W') : IsCCn W₀ W' g tr ps ctx :=
  let ⟨d, l, n, h1, h2, h3⟩ := x; ⟨d, l, n, e _ _ h1, e _ _ h2, e _ _ h3⟩
theorem IsCCn.any {W₀ W : Store} {g : Addr} {tr : Int} {ps : List (Int × Int)} {ctx : Array UInt8} (x : IsCCn W₀ W g tr ps ctx) : IsCC W g tr ps ctx :=
  let ⟨d, l, n, h⟩ := x; ⟨d, l, ⟨rfl, rfl, rfl⟩, h⟩
section
variable {prog : Program} {w : World} {h : Heap} {X : Store → Prop} {Q : AV → Store → Prop} {W W₀ : Store}
theorem new_changer (ok : PxOk (PX prog w h)) {c : Addr} (hQ : ∀ g W', Ext W W' → IsCh W' g c → Q (.ref g) W') : CodeOk (PX prog w h) 31 354 [.ref c] W Q X := by
  refine cls_ok ok (n := 30) (i_354 w).1 (i_354 w).2.1 (i_354 w).2.2 fun a d na nd hne => ?_
  refine g_295 ok (k := 25) rfl ?_
  refine b_go (a_set (upd_same _ _ _) (by rw [upd_ne (Ne.symm hne)]; exact upd_same _ _ _) (c_354 w) (d_354_config w) (Nat.zero_le _) ?_)
  exact ⟨rfl, hQ a _ ((((Ext.refl W).upd nd).upd na).upd nd) ⟨d, by rw [upd_ne hne]; exact upd_same _ _ _, upd_same _ _ _⟩⟩
/-- a field put into an object that is new -/
theorem put_new {a d : Addr} {C : Addr} {x : Str} {l l' : List (Str × AV)} {v : AV} {R : Store → Prop} (ha : W a = some (.inst C d)) (hd : W d = some (.attrs l)) (nd : W₀ d = none) (e : Ext W₀ W) (hC : ClsOk (KK w) C) (hF : FieldOk (KK w) C x) (hl : l.length ≤ 20) (hp : putA l x v = l')
    (hq : ∀ W', Ext W₀ W' → (∀ b c, b ≠ d → W b = some c → W' b = some c) → W' a = some (.inst C d) → W' d = some (.attrs l') → R W') : SetA (PX prog w h) (.ref a) x v W R :=
  a_set ha hd hC hF hl (hp ▸ hq _ (e.upd nd) (fun b c n q => by rw [upd_ne n]; exact q) (by rw [upd_ne (ne_cell ha hd (by simp))]; exact ha) (upd_same _ _ _))
theorem new_change (ok : PxOk (PX prog w h)) {ch : Addr} {tr : Int} {ps : List (Int × Int)} {ctx : Array UInt8} (hch : W ch = some (.list (ps.map prV))) (hl : ps.length ≤ 1000) (hQ : ∀ g W', Ext W W' → IsCCn W W' g tr ps ctx → Q (.ref g) W') : CodeOk (PX prog w h) 46 141 [.int tr, .ref ch, .bytes ctx] W Q X := by
  have hz : (ps.map prV).length ≤ 1000 := by rw [List.length_map]; exact hl
  refine cls_ok ok (n := 45) (i_141 w).1 (i_141 w).2.1 (i_141 w).2.2 fun a d na nd hne => ?_
  refine g_117 ok (k := 40) rfl ?_
  refine b_go (put_new (upd_same _ _ _) (by rw [upd_ne (Ne.symm hne)]; exact upd_same _ _ _) nd (((Ext.refl W).upd nd).upd na) (c_141 w) (d_141_transition w) (Nat.zero_le _) (l' := [(Str.ofString "transition", .int tr)]) rfl fun W1 E1 _ ha1 hd1 => ?_)
  refine b_go ⟨_, _, .list _ _ (E1 _ _ hch) hz, ?_⟩
  refine compM_inv prV (fun _ _ _ f h => f _ h) prV (fun W' => W' = W1) (fun W' e => e ▸ E1 _ _ hch) ps (fun p _ W' e => ⟨rfl, e⟩) [] W1 rfl fun W' e => ?_
  subst e
  refine ⟨hz, fun r hr => ?_⟩
  have E2 := (Ext.refl W').upd (c := .list (ps.map prV)) hr
  have rd : r ≠ d := fun e => by rw [e, hd1] at hr; cases hr
  refine put_new (E2 _ _ ha1) (E2 _ _ hd1) nd (E1.trans E2) (c_141 w) (d_141_changes w) (Nat.le_of_ble_eq_true rfl) (l' := [(Str.ofString "transition", .int tr), (Str.ofString "changes", .ref r)]) (by kernel_rfl) fun W2 E3 k2 ha2 hd2 => ?_
  refine b_go (put_new ha2 hd2 nd E3 (c_141 w) (d_141_context w) (Nat.le_of_ble_eq_true rfl) (l' := ccL tr r ctx) (by kernel_rfl) fun W3 E4 k3 ha3 hd3 => ?_)
  exact ⟨rfl, hQ a _ E4 ⟨d, r, ⟨na, nd, E1.none hr⟩, ha3, hd3, k3 _ _ rd (k2 _ _ rd (upd_same _ _ _))⟩⟩
def ccV (tr : Int) (ps : List (Int × Int)) (ctx : Array UInt8) : AV := .tup [.int tr, .tup (ps.map prV), .bytes ctx]
section
variable {g : Addr} {tr : Int} {ps : List (Int × Int)} {ctx : Array UInt8}
theorem rd_tr (c : IsCCn W₀ W g tr ps ctx) (hq : Q (.int tr) W) : Attr (PX prog w h) (.ref g) (Str.ofString "transition") W Q :=
  let ⟨_, _, _, h1, h2, _⟩ := c; a_attr h1 h2 (c_141 w) (d_141_transition w) (by kernel_rfl) hq
theorem rd_ps (c : IsCCn W₀ W g tr ps ctx) (hq : ∀ l, W l = some (.list (ps.map prV)) → Q (.ref l) W) : Attr (PX prog w h) (.ref g) (Str.ofString "changes") W Q :=
  let ⟨_, _, _, h1, h2, h3⟩ := c; a_attr h1 h2 (c_141 w) (d_141_changes w) (by kernel_rfl) (hq _ h3)
theorem rd_ctx (c : IsCCn W₀ W g tr ps ctx) (hq : Q (.bytes ctx) W) : Attr (PX prog w h) (.ref g) (Str.ofString "context") W Q :=
  let ⟨_, _, _, h1, h2, _⟩ := c; a_attr h1 h2 (c_141 w) (d_141_context w) (by kernel_rfl) hq
theorem m_cc {n k : Nat} {f : Addr} {x : Str} {Y : Store → Prop} {m : Vars} (c : IsCCn W₀ W g tr ps ctx) (hM : MethOk (KK w) 141 x f) (hl : ∀ l, (ccL tr l ctx).lookup x = none) (h' : CodeOk (PX prog w h) k f [.ref g] W Q X) (hn : k ≤ n := by decide) : Meth (PX prog w h) n (.ref g) x (lNil Y m) W Q X :=
  let ⟨_, _, _, h1, h2, _⟩ := c; m_meth h1 h2 (c_141 w) hM (hl _) (h'.call hn)
theorem spec_cc_row (ok : PxOk (PX prog w h)) (c : IsCCn W₀ W g tr ps ctx) (hl : (ps.map prV).length ≤ 1000) (hQ : Q (ccV tr ps ctx) W) : CodeOk (PX prog w h) 25 124 [.ref g] W Q X := by
  refine g_124 ok (k := 20) rfl ?_
  exact b_go (rd_tr c (rd_ps c fun l hl' => c_tuple hl' hl (rd_ctx c hQ)))
theorem spec_cc_leave (ok : PxOk (PX prog w h)) (c : IsCCn W₀ W g tr ps ctx) (hl : (ps.map prV).length ≤ 1000) (hQ : Q (.bool (decide (tr = 0 ∧ ps = []))) W) : CodeOk (PX prog w h) 25 138 [.ref g] W Q X := by
  refine g_138 ok (k := 20) rfl ?_
  refine b_go (rd_tr c ⟨fun q => rd_ps c fun l h3 => ⟨_, h3, hl, ?_⟩, fun q => ?_⟩)
  · have q : tr = 0 := of_decide_eq_true q
    show Q (.bool _) W
    rw [show (!(!(List.map prV ps).isEmpty)) = decide (tr = 0 ∧ ps = []) from by cases ps <;> simp [q]]
    exact hQ
  · have q : tr ≠ 0 := of_decide_eq_false q
    show Q (.bool _) W
    rw [show decide (tr = 0) = decide (tr = 0 ∧ ps = []) from by simp [q]]
    exact hQ
theorem spec_cc_enter (ok : PxOk (PX prog w h)) (c : IsCCn W₀ W g tr ps ctx) (ht : 0 ≤ tr ∧ tr ≤ 2) (hl : (ps.map prV).length ≤ 1000)
    (hQ : Q (.tup [.bool (!decide (tr = 0 ∧ ps.length ≤ 1) && decide (tr ≠ 2)), .bool (!decide (tr = 0 ∧ ps.length ≤ 1))]) W) : CodeOk (PX prog w h) 25 131 [.ref g] W Q X := by
  refine g_131 ok (k := 20) rfl ?_
  refine b_go (if_false_go (rd_tr c ⟨[0, 1, 2], rfl, ?_, rfl⟩) ?_)
  · have : tr ∈ [0, 1, 2] := by simp only [List.mem_cons, List.not_mem_nil, or_false]; omega
    rw [decide_eq_true this]; rfl
  refine b_go (if_go (decide (tr = 0 ∧ ps.length ≤ 1)) (rd_tr c ⟨fun q => rd_ps c fun l h3 => c_lenL h3 hl ⟨?_, rfl⟩, fun q => ⟨?_, rfl⟩⟩) (fun q => ?_) fun q => ?_)
  · have q : tr = 0 := of_decide_eq_true q
    rw [List.length_map, Bool.eq_iff_iff, decide_eq_true_eq, decide_eq_true_eq]
    exact ⟨fun h => ⟨q, Int.ofNat_le.mp h⟩, fun h => Int.ofNat_le.mpr h.2⟩
  · exact (decide_eq_false fun h => of_decide_eq_false q h.1).symm
  · rw [q] at hQ; exact b_go hQ
  · rw [q] at hQ; exact b_go (rd_tr c hQ)
end
theorem spec_apply (ok : PxOk (PX prog w h)) {g a : Addr} {st : Sets} {au : Bool} {tr : Int} {ps : List (Int × Int)} {ctx : Array UInt8} (cc : IsCCn W₀ W g tr ps ctx) (ht : 0 ≤ tr ∧ tr ≤ 2) (c : CfgS none₀ W a st au) (G : ValidS st au)
    (hps : okPs ps) (hl : ps.length ≤ 1000) (hG : GoodR (st.apply au tr ps)) (hQ : Got W (st.apply au tr ps) Q X) : CodeOk (PX prog w h) 165 365 [.ref a, .ref g] W Q X := by
  have hz : (ps.map prV).length ≤ 1000 := by rw [List.length_map]; exact hl
  refine g_365 ok (k := 160) rfl ?_
  refine b_go (c_fn (keepK _ (by decide)) (new_changer ok fun s W₁ e₁ hs => ?_))
  have hQ := hQ.base e₁
  have cc := cc.ext e₁
  unfold Sets.apply at hG hQ
  refine b_go (if_prop (tr = 0 ∧ ps = []) (m_cc cc (m_138 w) (fun _ => by kernel_rfl) (spec_cc_leave ok cc hz ⟨rfl, rfl⟩)) (fun q => ?_) fun q => ?_)
  · rw [if_pos q] at hG hQ
    exact b_go (m_ch hs (m_309 w) (by kernel_rfl) ((spec_leave ok hs (c.ext e₁) G hG ⟨hQ.no, hQ.yes⟩).call (by decide)))
  rw [if_neg q] at hG hQ
  refine b_go (m_cc cc (m_131 w) (fun _ => by kernel_rfl) (spec_cc_enter ok cc ht hz ⟨_, _, rfl, ?_⟩))
  refine b_go (if_go (!decide (tr = 0 ∧ ps.length ≤ 1)) ⟨rfl, rfl⟩ (fun q' => ?_) fun q' => ?_)
  · have q' : ¬ (tr = 0 ∧ ps.length ≤ 1) := of_decide_eq_false ((Bool.not_eq_true' _).mp q')
    rw [if_neg q'] at hG hQ
    rw [decide_eq_false q', Bool.not_false, Bool.true_and]
    exact b_go (m_ch hs (m_302 w) (by kernel_rfl) (rd_ps cc fun l h3 => (spec_enter ok hs (c.ext e₁) G h3 hps hl hG ⟨hQ.no, hQ.yes⟩).call (by decide)))
  · have q' : tr = 0 ∧ ps.length ≤ 1 := of_decide_eq_true ((Bool.not_eq_false' _).mp q')
    rw [if_pos q'] at hG hQ
    exact b_go (m_ch hs (m_316 w) (by kernel_rfl) (rd_ps cc fun l h3 => (spec_simple ok hs (c.ext e₁) G h3 hps hl hG ⟨hQ.no, hQ.yes⟩).call (by decide)))
end
/-! ### dicts of bools and of ints -/
def dB (vs : List (Int × Bool)) : List (Int × AV) := vs.map fun p => (p.1, .bool p.2)
def dI (vs : List (Int × Int)) : List (Int × AV) := vs.map fun p => (p.1, .int p.2)
theorem lookup_map2 {α β : Type} (f : α → β) (i : Int) : ∀ vs : List (Int × α), (vs.map fun p => (p.1, f p.2)).lookup i = (vs.lookup i).map f
  | [] => rfl
  | (j, b) :: r => by
    rw [List.map_cons, List.lookup_cons, List.lookup_cons]
    cases i == j with
    | true => rfl
    | false => exact lookup_map2 f i r
theorem dB_lookup (vs : List (Int × Bool)) (i : Int) : (dB vs).lookup i = (vs.lookup i).map .bool := lookup_map2 _ _ _
theorem dI_lookup (vs : List (Int × Int)) (i : Int) : (dI vs).lookup i = (vs.lookup i).map .int := lookup_map2 _ _ _
theorem mem_lookup {α : Type} (i : Int) : ∀ vs : List (Int × α), i ∈ vs.map (·.1) ↔ (vs.lookup i).isSome = true
  | [] => by simp
  | (j, b) :: r => by
    rw [List.map_cons, List.mem_cons, List.lookup_cons]
    by_cases h : i = j
    · rw [beq_iff_eq.mpr h]; exact ⟨fun _ => rfl, fun _ => .inl h⟩
    · rw [beq_eq_false_iff_ne.mpr h]
      exact (or_iff_right h).trans (mem_lookup i r)
theorem dB_mem (vs : List (Int × Bool)) (i : Int) : decide (i ∈ (dB vs).map (·.1)) = (vs.lookup i).isSome := by
  rw [Bool.eq_iff_iff, decide_eq_true_eq, mem_lookup, dB_lookup, Option.isSome_map]
theorem dI_mem (vs : List (Int × Int)) (i : Int) : decide (i ∈ (dI vs).map (·.1)) = (vs.lookup i).isSome := by
  rw [Bool.eq_iff_iff, decide_eq_true_eq, mem_lookup, dI_lookup, Option.isSome_map]

/-! ### votes -/
def yesN (l : List Int) (vs : List (Int × Bool)) : Nat := (l.filter fun i => vs.lookup i == some true).length
def misN (l : List Int) (vs : List (Int × Bool)) : Nat := (l.filter fun i => vs.lookup i == none).length
noncomputable def majV (l : List Int) (vs : List (Int × Bool)) : Int :=
  if l = [] then 3 else if l.length / 2 + 1 ≤ yesN l vs then 3 else if l.length / 2 + 1 ≤ yesN l vs + misN l vs then 1 else 2
noncomputable def jointV (a b : List Int) (vs : List (Int × Bool)) : Int :=
  if majV a vs = majV b vs then majV a vs else if majV a vs = 2 ∨ majV b vs = 2 then 2 else 1
theorem isEmpty_ivs (l : List Int) : (!(!(ivs l).isEmpty)) = decide (l = []) := by cases l <;> simp [ivs]
theorem need_iff (l : List Int) (n : Nat) : decide ((l.length : Int) / 2 + 1 ≤ (n : Int)) = decide (l.length / 2 + 1 ≤ n) := by
  rw [Bool.eq_iff_iff, decide_eq_true_eq, decide_eq_true_eq]; omega
section
variable {prog : Program} {w : World} {h : Heap} {X : Store → Prop} {Q : AV → Store → Prop} {W W₀ : Store}
theorem c_lenI {P : Px} {n : Nat} {x : Addr} {l : List Int} (h1 : W x = some (.list (ivs l))) (h2 : (ivs l).length ≤ 1000) (h : Q (.int l.length) W) : Call P n (.blt "len") [.ref x] W Q X :=
  c_lenL h1 h2 (by rw [ivs_len]; exact h)
theorem spec_majV (ok : PxOk (PX prog w h)) {a b : Addr} {l : List Int} {vs : List (Int × Bool)} (ha : W a = some (.list (ivs l))) (hl : (ivs l).length ≤ 1000) (hb : W b = some (.dict (dB vs))) (hQ : Q (.int (majV l vs)) W) : CodeOk (PX prog w h) 45 157 [.ref a, .ref b] W Q X := by
  refine g_157 ok (k := 40) rfl ?_
  unfold majV at hQ
  refine b_go (if_prop (l = []) ⟨_, ha, hl, isEmpty_ivs l, rfl⟩ (fun q => b_go ?_) fun q => ?_)
  · rw [if_pos q] at hQ; exact hQ
  rw [if_neg q] at hQ
  refine b_go (b_go (b_go ⟨_, _, .list _ _ ha hl, ?_⟩))
  refine for1_list (g := AV.int) (fun s : (Nat × Nat) × Option AV => [(Str.ofString "ids", some (.ref a)), (Str.ofString "votes", some (.ref b)), (Str.ofString "granted", some (.int s.1.1)), (Str.ofString "missing", some (.int s.1.2)), (Str.ofString "nid", s.2), (Str.ofString "need", none)])
    (fun r s W₁ => W₁ = W ∧ s.1.1 + yesN r vs = yesN l vs ∧ s.1.2 + misN r vs = misN l vs) (fun s W₁ c => ?_) (fun y r s W₁ c => ?_) l ((0, 0), none) W ⟨rfl, Nat.zero_add _, Nat.zero_add _⟩
  · obtain ⟨⟨n, k⟩, u⟩ := s
    obtain ⟨rfl, c1, c2⟩ := c
    have c1 : n = yesN l vs := c1
    have c2 : k = misN l vs := c2
    subst c1 c2
    refine b_go (c_lenI ha hl ⟨by decide, by decide, ?_⟩)
    refine b_go (if_prop (l.length / 2 + 1 ≤ yesN l vs) ⟨need_iff l _, rfl⟩ (fun q1 => b_go ?_) fun q1 => ?_)
    · rw [if_pos q1] at hQ; exact hQ
    rw [if_neg q1] at hQ
    refine b_go (if_prop (l.length / 2 + 1 ≤ yesN l vs + misN l vs) ⟨need_iff l _, rfl⟩ (fun q2 => b_go ?_) fun q2 => b_go ?_)
    · rw [if_pos q2] at hQ; exact hQ
    · rw [if_neg q2] at hQ; exact hQ
  · obtain ⟨⟨n, k⟩, u⟩ := s
    obtain ⟨rfl, c1, c2⟩ := c
    unfold yesN at c1
    unfold misN at c2
    rw [fil_cons] at c1 c2
    refine b_go (if_go (vs.lookup y).isNone (.inr ⟨_, hb, by rw [dB_mem, Option.not_isSome], rfl⟩) (fun q => b_go ?_) fun q => b_go ?_)
    · rw [Option.isNone_iff_eq_none] at q
      rw [q] at c1 c2
      exact ⟨_, _, rfl, rfl, ha, ((n, k + 1), some (.int y)), rfl, rfl, c1, c2⟩
    cases q2 : vs.lookup y with
    | none => rw [q2] at q; cases q
    | some bb =>
    rw [q2] at c1 c2
    refine if_go bb (.inr ⟨_, .bool bb, hb, by rw [dB_lookup, q2]; rfl, rfl, rfl⟩) (fun q3 => b_go ?_) fun q3 => ?_
    · subst q3
      exact ⟨_, _, rfl, rfl, ha, ((n + 1, k), some (.int y)), rfl, rfl, c1, c2⟩
    · subst q3
      exact ⟨ha, ((n, k), some (.int y)), rfl, rfl, c1, c2⟩
theorem spec_jointV (ok : PxOk (PX prog w h)) {a b c : Addr} {l k : List Int} {vs : List (Int × Bool)} (ha : W a = some (.list (ivs l))) (hb : W b = some (.list (ivs k))) (hl : (ivs l).length ≤ 1000) (hk : (ivs k).length ≤ 1000) (hc : W c = some (.dict (dB vs))) (hQ : Q (.int (jointV l k vs)) W) : CodeOk (PX prog w h) 65 171 [.ref a, .ref b, .ref c] W Q X := by
  refine g_171 ok (k := 60) rfl ?_
  unfold jointV at hQ
  refine b_go (c_fn (keepK _ (by decide)) (spec_majV ok ha hl hc (b_go (c_fn (keepK _ (by decide)) (spec_majV ok hb hk hc ?_)))))
  refine b_go (if_prop (majV l vs = majV k vs) ⟨rfl, rfl⟩ (fun q => b_go ?_) fun q => ?_)
  · rw [if_pos q] at hQ; exact hQ
  rw [if_neg q] at hQ
  refine b_go (if_prop (majV l vs = 2 ∨ majV k vs = 2) ⟨fun q3 => ⟨?_, rfl⟩, fun q3 => ⟨?_, rfl⟩⟩ (fun q2 => b_go ?_) fun q2 => b_go ?_)
  · exact (decide_eq_true (.inl (of_decide_eq_true q3))).symm
  · rw [Bool.eq_iff_iff, decide_eq_true_eq, decide_eq_true_eq]
    exact (or_iff_right (of_decide_eq_false q3)).symm
  · rw [if_pos q2] at hQ; exact hQ
  · rw [if_neg q2] at hQ; exact hQ
theorem spec_vote (ok : PxOk (PX prog w h)) {a c : Addr} {V O L N : Int → Bool} {au : Bool} {vs : List (Int × Bool)} (R : Cfg W₀ W a V O L N au) (hc : W c = some (.dict (dB vs))) (hQ : Q (.int (jointV (asc V) (asc O) vs)) W) : CodeOk (PX prog w h) 85 234 [.ref a, .ref c] W Q X := by
  refine g_234 ok (k := 80) rfl ?_
  exact b_go (crd_v R fun v hv => crd_o R fun v' hv' => c_fn (keepK _ (by decide)) (spec_jointV ok hv hv' (asc_k _) (asc_k _) hc hQ))
end
/-! ### what is held -/
def NOL : Int := 18446744073709551615
def held (as : List (Int × Int)) (i : Int) : Int := (as.lookup i).getD 0
/-- v is what a majority of l holds -/
def MajI (l : List Int) (as : List (Int × Int)) (v : Int) : Prop :=
  (l = [] → v = NOL) ∧ (l ≠ [] → ∀ t : Int, t ≤ v ↔ l.length / 2 + 1 ≤ (l.filter fun i => decide (t ≤ held as i)).length)
theorem sorted_at : ∀ {l : List Int} {k : Nat} {v : Int}, l.Pairwise (· ≤ ·) → l[k]? = some v → ∀ t : Int, t ≤ v ↔ l.length - k ≤ (l.filter fun i => decide (t ≤ i)).length
  | [], k, v, _, h, t => by simp at h
  | x :: l, 0, v, hs, h, t => by
    simp only [List.getElem?_cons_zero, Option.some.injEq] at h
    subst h
    obtain ⟨h1, h2⟩ := List.pairwise_cons.mp hs
    constructor
    · intro q
      have : (x :: l).filter (fun i => decide (t ≤ i)) = x :: l := List.filter_eq_self.mpr fun y hy => by
        rcases List.mem_cons.mp hy with e | e
        · subst e; simpa using q
        · have := h1 y e; simp; omega
      rw [this]; simp
    · intro q
      rcases Int.lt_or_le x t with r | r
      · exfalso
        have : ((x :: l).filter fun i => decide (t ≤ i)).length ≤ l.length := by
          rw [List.filter_cons_of_neg (by simp; omega)]
          exact List.length_filter_le _ _
        simp only [List.length_cons] at q
        omega
      · exact r
  | x :: l, k + 1, v, hs, h, t => by
    obtain ⟨h1, h2⟩ := List.pairwise_cons.mp hs
    simp only [List.getElem?_cons_succ] at h
    have ih := sorted_at h2 h t
    have hk : k < l.length := by
      rcases Nat.lt_or_ge k l.length with q | q
      · exact q
      · rw [List.getElem?_eq_none q] at h; cases h
    by_cases q : t ≤ x
    · have hv : x ≤ v := h1 v (List.mem_of_getElem? h)
      have : l.filter (fun i => decide (t ≤ i)) = l := List.filter_eq_self.mpr fun y hy => by have := h1 y hy; simp; omega
      rw [List.filter_cons_of_pos (by simpa using q), this]
      simp only [List.length_cons]
      constructor
      · intro _; omega
      · intro _; omega
    · rw [List.filter_cons_of_neg (by simpa using q), ih]
      simp only [List.length_cons]
      omega
theorem majI_of {l ns : List Int} {as : List (Int × Int)} {v : Int} (hp : ns.Perm (l.map (held as))) (hs : ns.Pairwise (· ≤ ·)) (hl : l ≠ []) (h : ns[l.length - (l.length / 2 + 1)]? = some v) : MajI l as v := by
  refine ⟨fun e => absurd e hl, fun _ t => ?_⟩
  rw [sorted_at hs h t]
  have h1 : ns.length = l.length := by rw [hp.length_eq, List.length_map]
  have h2 : (ns.filter fun i => decide (t ≤ i)).length = (l.filter fun i => decide (t ≤ held as i)).length := by
    rw [(hp.filter _).length_eq, List.filter_map, List.length_map]; rfl
  rw [h1, h2]
  have : 0 < l.length := List.length_pos_iff.mpr hl
  have e : l.length - (l.length - (l.length / 2 + 1)) = l.length / 2 + 1 := by omega
  rw [e]
section
variable {prog : Program} {w : World} {h : Heap} {X : Store → Prop} {Q : AV → Store → Prop} {W W₀ : Store}
theorem spec_majI (ok : PxOk (PX prog w h)) {a b : Addr} {l : List Int} {as : List (Int × Int)} (ha : W a = some (.list (ivs l))) (hl : l.length ≤ 60) (hb : W b = some (.dict (dI as))) (hQ : ∀ v W', Ext W W' → MajI l as v → Q (.int v) W') : CodeOk (PX prog w h) 45 150 [.ref a, .ref b] W Q X := by
  refine g_150 ok (k := 40) rfl ?_
  have hk : (ivs l).length ≤ 1000 := by rw [ivs_len]; exact Nat.le_trans hl (by decide)
  refine b_go (if_prop (l = []) ⟨_, ha, hk, isEmpty_ivs l, rfl⟩ (fun q => b_go (hQ _ W (Ext.refl W) ⟨fun _ => rfl, fun e => absurd q e⟩)) fun q => ?_)
  refine b_go ⟨_, _, .list _ _ ha hk, ?_⟩
  refine compM_inv AV.int (fun _ _ _ f h => f _ h) (fun i => AV.int (held as i)) (fun W' => W' = W) (fun W' e => e ▸ ha) l (fun i _ W' e => ?_) [] W rfl fun W' e => ?_
  · subst e
    refine m_get hb ⟨_, _, _, rfl, hb, ?_, rfl⟩
    rw [dI_lookup]
    unfold held
    cases as.lookup i <;> rfl
  subst e
  rw [List.nil_append, show l.map (fun i => AV.int (held as i)) = ivs (l.map (held as)) from by unfold ivs; rw [List.map_map]; rfl]
  refine ⟨by rw [ivs_len, List.length_map]; exact Nat.le_trans hl (by decide), fun r hr => ?_⟩
  have E := (Ext.refl W').upd (c := .list (ivs (l.map (held as)))) hr
  refine c_sorted (upd_same _ _ _) (by rw [List.length_map]; exact hl) fun ns' r2 hp hs hr2 => ?_
  have E2 := E.trans ((Ext.refl _).upd (c := .list (ivs ns')) hr2)
  have hn : ns'.length = l.length := by rw [hp.length_eq, List.length_map]
  have hz : (ivs ns').length ≤ 1000 := by rw [ivs_len, hn]; exact Nat.le_trans hl (by decide)
  have hpos : 0 < l.length := List.length_pos_iff.mpr q
  obtain ⟨v, hv⟩ : ∃ v, ns'[l.length - (l.length / 2 + 1)]? = some v := ⟨_, List.getElem?_eq_getElem (by omega)⟩
  refine b_go (c_lenI (upd_same _ _ _) hz (c_lenI (upd_same _ _ _) hz ⟨by decide, by decide, .inl ⟨_, .int v, upd_same _ _ _, .inl ?_, hz, hQ v _ E2 (majI_of hp hs q hv)⟩⟩))
  have e : (ns'.length : Int) - ((ns'.length : Int) / 2 + 1) = ((l.length - (l.length / 2 + 1) : Nat) : Int) := by omega
  rw [e]
  refine ⟨Int.natCast_nonneg _, by omega, ?_⟩
  unfold ivs
  rw [Int.toNat_natCast, List.getElem?_map, hv]; rfl
theorem spec_jointI (ok : PxOk (PX prog w h)) {a b c : Addr} {l k : List Int} {as : List (Int × Int)} (ha : W a = some (.list (ivs l))) (hb : W b = some (.list (ivs k))) (hl : l.length ≤ 60) (hk : k.length ≤ 60) (hc : W c = some (.dict (dI as)))
    (hQ : ∀ u v W', Ext W W' → MajI l as u → MajI k as v → Q (.int (if u < v then u else v)) W') : CodeOk (PX prog w h) 65 164 [.ref a, .ref b, .ref c] W Q X := by
  refine g_164 ok (k := 60) rfl ?_
  refine b_go (c_fn (keepK _ (by decide)) (spec_majI ok ha hl hc fun u W₁ e₁ h₁ => ?_))
  refine b_go (c_fn (keepK _ (by decide)) (spec_majI ok (e₁ _ _ hb) hk (e₁ _ _ hc) fun v W₂ e₂ h₂ => ?_))
  have hq := hQ u v W₂ (e₁.trans e₂) h₁ h₂
  refine b_go (if_prop (u < v) ⟨rfl, rfl⟩ (fun q => b_go ?_) fun q => b_go ?_)
  · rw [if_pos q] at hq; exact hq
  · rw [if_neg q] at hq; exact hq
theorem spec_committed (ok : PxOk (PX prog w h)) {a c : Addr} {V O L N : Int → Bool} {au : Bool} {as : List (Int × Int)} (R : Cfg W₀ W a V O L N au) (hc : W c = some (.dict (dI as)))
    (hQ : ∀ u v W', Ext W W' → MajI (asc V) as u → MajI (asc O) as v → Q (.int (if u < v then u else v)) W') : CodeOk (PX prog w h) 85 227 [.ref a, .ref c] W Q X := by
  refine g_227 ok (k := 80) rfl ?_
  exact b_go (crd_v R fun v hv => crd_o R fun v' hv' => c_fn (keepK _ (by decide)) (spec_jointI ok hv hv' (Nat.le_trans (asc_len _) (by decide)) (Nat.le_trans (asc_len _) (by decide)) hc hQ))
end
/-! ### the law's own states -/
structure LS where
  now : Int → Int
  was : Int → Int
  au : Bool
def tab (f : Int → Int) : List Int := [f 0, f 1, f 2, f 3, f 4, f 5, f 6]
def stV (s : LS) : AV := .tup [.tup (ivs (tab s.now)), .tup (ivs (tab s.was)), .bool s.au]
def Pair (a b : Int) : Prop := (a = 0 ∧ b = 0) ∨ (a = 1 ∧ b = 0) ∨ (a = 2 ∧ b = 0) ∨ (a = 1 ∧ b = 1) ∨ (a = 0 ∧ b = 1) ∨ (a = 3 ∧ b = 1)
structure LS.Good (s : LS) : Prop where
  out : ∀ i, (i < 1 ∨ 6 < i) → s.now i = 0 ∧ s.was i = 0
  pair : ∀ i, Pair (s.now i) (s.was i)
  auto : s.au = true → ∃ i, s.was i = 1
def LS.sets (s : LS) : Sets := ⟨fun i => decide (s.now i = 1), fun i => decide (s.was i = 1), fun i => decide (s.now i = 2), fun i => decide (s.now i = 3)⟩
def six : List Int := [1, 2, 3, 4, 5, 6]
theorem seven {P : Int → Prop} (h0 : P 0) (h1 : P 1) (h2 : P 2) (h3 : P 3) (h4 : P 4) (h5 : P 5) (h6 : P 6) (i : Int) (a : 0 ≤ i) (b : i ≤ 6) : P i := by
  rcases (by omega : i = 0 ∨ i = 1 ∨ i = 2 ∨ i = 3 ∨ i = 4 ∨ i = 5 ∨ i = 6) with rfl | rfl | rfl | rfl | rfl | rfl | rfl <;> assumption
theorem asc_six {p : Int → Bool} (h : ∀ i, (i < 1 ∨ 6 < i) → p i = false) : six.filter p = asc p := by
  show six.filter p = (0 :: (six ++ [7, 8])).filter p
  rw [List.filter_cons_of_neg (by rw [h 0 (.inl (by decide))]; exact Bool.false_ne_true), List.filter_append, List.filter_cons_of_neg (by rw [h 7 (.inr (by decide))]; exact Bool.false_ne_true), List.filter_cons_of_neg (by rw [h 8 (.inr (by decide))]; exact Bool.false_ne_true)]
  exact (List.append_nil _).symm
theorem mem_six {i : Int} (h : i ∈ six) : 1 ≤ i ∧ i ≤ 6 := (by decide : ∀ i ∈ six, 1 ≤ i ∧ i ≤ 6) i h
theorem tab_get (f : Int → Int) (i : Int) (a : 0 ≤ i) (b : i ≤ 6) : (ivs (tab f))[i.toNat]? = some (.int (f i)) :=
  seven (P := fun i => (ivs (tab f))[i.toNat]? = some (.int (f i))) rfl rfl rfl rfl rfl rfl rfl i a b
theorem tab_set (f : Int → Int) (r : Int) (i : Int) (a : 0 ≤ i) (b : i ≤ 6) : (ivs (tab f)).set i.toNat (.int r) = ivs (tab fun j => if j = i then r else f j) :=
  seven (P := fun i => (ivs (tab f)).set i.toNat (.int r) = ivs (tab fun j => if j = i then r else f j)) rfl rfl rfl rfl rfl rfl rfl i a b
theorem tab_mem (f : Int → Int) (x : Int) : x ∈ tab f ↔ ∃ i, (0 ≤ i ∧ i ≤ 6) ∧ f i = x :=
  ⟨fun h => let ⟨i, hi, e⟩ := List.mem_map.mp (show x ∈ [0, 1, 2, 3, 4, 5, 6].map f from h); ⟨i, (by decide : ∀ i ∈ ([0, 1, 2, 3, 4, 5, 6] : List Int), 0 ≤ i ∧ i ≤ 6) i hi, e⟩,
   fun ⟨i, ⟨a, b⟩, e⟩ => e ▸ (List.mem_map (f := f)).mpr ⟨i, seven (P := fun i => i ∈ [0, 1, 2, 3, 4, 5, 6]) (by decide) (by decide) (by decide) (by decide) (by decide) (by decide) (by decide) i a b, rfl⟩⟩
section
variable {prog : Program} {w : World} {h : Heap} {X : Store → Prop} {Q : AV → Store → Prop} {W W₀ : Store}
theorem spec_draw (ok : PxOk (PX prog w h)) {a : Addr} {ns : List Int} {i : Int} (ha : W a = some (.list (ivs ns))) (h0 : ns ≠ []) (hl : ns.length ≤ 60) (hp : ∀ x ∈ ns, 0 ≤ x) (hi : 0 ≤ i) (hQ : ∀ v : Int, 0 ≤ v → Q (.int v) W) : CodeOk (PX prog w h) 35 374 [.ref a, .int i] W Q X := by
  refine g_374 ok (k := 30) rfl ?_
  have hz : (ivs ns).length ≤ 1000 := by rw [ivs_len]; exact Nat.le_trans hl (by decide)
  have hpos : 0 < (ns.length : Int) := Int.natCast_pos.mpr (List.length_pos_iff.mpr h0)
  have hbig : (ns.length : Int) < 2 ^ 30 := Int.lt_of_le_of_lt (Int.ofNat_le.mpr hl) (by decide)
  have h1 := Int.emod_nonneg i (Int.ne_of_gt hpos)
  have h2 := Int.emod_lt_of_pos i hpos
  obtain ⟨v, hv⟩ : ∃ v, ns[(i % (ns.length : Int)).toNat]? = some v := ⟨_, List.getElem?_eq_getElem ((Int.toNat_lt h1).mpr h2)⟩
  refine b_go (c_lenI ha hz ⟨hpos, .inl ⟨_, .int v, ha, .inl ⟨h1, Int.lt_trans (Int.lt_trans h2 hbig) (by decide), by unfold ivs; rw [List.getElem?_map, hv]; rfl⟩, hz, c_lenI ha hz ⟨hpos, hbig, ⟨by decide, by decide⟩, hQ _ ?_⟩⟩⟩)
  exact Int.add_nonneg (hp v (List.mem_of_getElem? hv)) (Int.mul_nonneg (by decide) (Int.ediv_nonneg hi (Int.le_of_lt hpos)))
/-- a list of the six ids that pass a test -/
theorem comp_six {bnd : AV → (Vars → Prop) → Prop} {ct : CT} {ce : CE} {Qn : AV → Store → Prop} (p : Int → Bool) (hp : ∀ i, (i < 1 ∨ 6 < i) → p i = false) (hb : ∀ (a : Int) (k k' : Vars → Prop), (∀ m, k m → k' m) → bnd (.int a) k → bnd (.int a) k')
    (hc : ∀ i, 0 ≤ i → i ≤ 6 → bnd (.int i) fun m' => ct noX m' W fun b W₁ => b = p i ∧ W₁ = W ∧ (p i = true → ce noX m' W₁ fun y W₂ => y = .int i ∧ W₂ = W)) (hQ : ∀ r, W r = none → Qn (.ref r) (upd W r (.list (ivs (asc p))))) :
    compL bnd (wkT ct noX) (wkE ce noX) (fun _ => True) (fun ys W₂ => ys.length ≤ 1000 ∧ new W₂ (.list ys) Qn) (ivs six) [] W :=
  compL_inv AV.int hb p AV.int (fun W' => W' = W) (fun _ _ => trivial) six (fun i hi W' e => by subst e; exact hc i (Int.le_trans (by decide) (mem_six hi).1) (mem_six hi).2) [] W rfl fun W' e => by
    subst e
    rw [asc_six hp]
    exact ⟨asc_k p, hQ⟩
theorem spec_row (ok : PxOk (PX prog w h)) {s : LS} (G : s.Good) (hQ : ∀ W', Ext W W' → Q (rowV s.sets.V s.sets.O s.sets.L s.sets.N s.au) W') : CodeOk (PX prog w h) 45 386 [stV s] W Q X := by
  refine g_386 ok (k := 40) rfl ?_
  have now : ∀ (r : Int), r ≠ 0 → ∀ i, (i < 1 ∨ 6 < i) → decide (s.now i = r) = false := fun r hr i hi => decide_eq_false (by rw [(G.out i hi).1]; exact Ne.symm hr)
  refine b_go ⟨_, _, _, rfl, ?_⟩
  refine b_go ⟨_, _, .tup _ (by decide), comp_six s.sets.V (now 1 (by decide)) (fun _ _ _ f h => f _ h) (fun i a b => ⟨.int (s.now i), a, Int.lt_of_le_of_lt b (by decide), tab_get _ i a b, rfl, rfl, fun _ => ⟨rfl, rfl⟩⟩) fun r f => c_tupA (upd_same _ _ _) ?_⟩
  have E := (Ext.refl W).upd (c := .list (ivs (asc s.sets.V))) f
  refine ⟨_, _, .tup _ (by decide), comp_six s.sets.O (fun i hi => decide_eq_false (by rw [(G.out i hi).2]; decide)) (fun _ _ _ f h => f _ h) (fun i a b => ⟨.int (s.was i), a, Int.lt_of_le_of_lt b (by decide), tab_get _ i a b, rfl, rfl, fun _ => ⟨rfl, rfl⟩⟩) fun r f => c_tupA (upd_same _ _ _) ?_⟩
  have E := E.trans ((Ext.refl _).upd (c := .list (ivs (asc s.sets.O))) f)
  refine ⟨_, _, .tup _ (by decide), comp_six s.sets.L (now 2 (by decide)) (fun _ _ _ f h => f _ h) (fun i a b => ⟨.int (s.now i), a, Int.lt_of_le_of_lt b (by decide), tab_get _ i a b, rfl, rfl, fun _ => ⟨rfl, rfl⟩⟩) fun r f => c_tupA (upd_same _ _ _) ?_⟩
  have E := E.trans ((Ext.refl _).upd (c := .list (ivs (asc s.sets.L))) f)
  refine ⟨_, _, .tup _ (by decide), comp_six s.sets.N (now 3 (by decide)) (fun _ _ _ f h => f _ h) (fun i a b => ⟨.int (s.now i), a, Int.lt_of_le_of_lt b (by decide), tab_get _ i a b, rfl, rfl, fun _ => ⟨rfl, rfl⟩⟩) fun r f => c_tupA (upd_same _ _ _) ?_⟩
  exact hQ _ (E.trans ((Ext.refl _).upd (c := .list (ivs (asc s.sets.N))) f))
def tblN : List AV := [.tup [.int 1, .int 0], .tup [.int 2, .int 0], .tup [.int 1, .int 0], .tup [.int 0, .int 0], .tup [.int 1, .int 0], .tup [.int 1, .int 0], .tup [.int 2, .int 0], .tup [.int 1, .int 0]]
def tblJ : List AV := [.tup [.int 1, .int 1], .tup [.int 0, .int 1], .tup [.int 1, .int 0], .tup [.int 3, .int 1], .tup [.int 2, .int 0], .tup [.int 1, .int 1], .tup [.int 0, .int 0], .tup [.int 1, .int 0]]
def PairV (v : AV) : Prop := ∃ a b, v = .tup [.int a, .int b] ∧ Pair a b
def TblOk (tb : List AV) : Prop := tb.length = 8 ∧ ∀ v ∈ tb, PairV v
theorem p10 : PairV (.tup [.int 1, .int 0]) := ⟨_, _, rfl, .inr (.inl ⟨rfl, rfl⟩)⟩
theorem p20 : PairV (.tup [.int 2, .int 0]) := ⟨_, _, rfl, .inr (.inr (.inl ⟨rfl, rfl⟩))⟩
theorem p00 : PairV (.tup [.int 0, .int 0]) := ⟨_, _, rfl, .inl ⟨rfl, rfl⟩⟩
theorem p11 : PairV (.tup [.int 1, .int 1]) := ⟨_, _, rfl, .inr (.inr (.inr (.inl ⟨rfl, rfl⟩)))⟩
theorem p01 : PairV (.tup [.int 0, .int 1]) := ⟨_, _, rfl, .inr (.inr (.inr (.inr (.inl ⟨rfl, rfl⟩))))⟩
theorem p31 : PairV (.tup [.int 3, .int 1]) := ⟨_, _, rfl, .inr (.inr (.inr (.inr (.inr ⟨rfl, rfl⟩))))⟩
theorem allc {x : AV} {l : List AV} (h : PairV x) (g : ∀ v ∈ l, PairV v) : ∀ v ∈ x :: l, PairV v := List.forall_mem_cons.mpr ⟨h, g⟩
theorem tblN_ok : TblOk tblN := ⟨rfl, allc p10 (allc p20 (allc p10 (allc p00 (allc p10 (allc p10 (allc p20 (allc p10 nofun)))))))⟩
theorem tblJ_ok : TblOk tblJ := ⟨rfl, allc p11 (allc p01 (allc p10 (allc p31 (allc p20 (allc p11 (allc p00 (allc p10 nofun)))))))⟩
theorem pow8 {i : Int} (h1 : 1 ≤ i) (h5 : i ≤ 6) : 0 < (8 : Int) ^ (i - 1).toNat ∧ (8 : Int) ^ (i - 1).toNat < 2 ^ 30 :=
  seven (P := fun i => 0 < (8 : Int) ^ (i - 1).toNat ∧ (8 : Int) ^ (i - 1).toNat < 2 ^ 30) (by decide) (by decide) (by decide) (by decide) (by decide) (by decide) (by decide) i (Int.le_trans (by decide) h1) h5
theorem pair_set {f g : Int → Int} {a b j : Int} (h1 : 1 ≤ j) (h6 : j ≤ 6) (ho : ∀ i, (i < 1 ∨ 6 < i) → f i = 0 ∧ g i = 0) (hp : ∀ i, Pair (f i) (g i)) (h : Pair a b) :
    (∀ i, (i < 1 ∨ 6 < i) → (if i = j then a else f i) = 0 ∧ (if i = j then b else g i) = 0) ∧ ∀ i, Pair (if i = j then a else f i) (if i = j then b else g i) := by
  refine ⟨fun i hi => ?_, fun i => ?_⟩
  · have n : i ≠ j := fun e => hi.elim (fun q => absurd h1 (Int.not_le.mpr (e ▸ q))) fun q => absurd h6 (Int.not_le.mpr (e ▸ q))
    rw [if_neg n, if_neg n]; exact ho i hi
  · split
    · exact h
    · exact hp i
theorem spec_state (ok : PxOk (PX prog w h)) {x : Int} {jo : Bool} (hx : 0 ≤ x) (hQ : ∀ s W', Ext W W' → LS.Good s → Q (stV s) W') : CodeOk (PX prog w h) 45 381 [.int x, .bool jo] W Q X := by
  refine g_381 ok (k := 40) rfl ?_
  refine b_go ?_
  let M : AV → Vars := fun tb => [(Str.ofString "x", some (.int x)), (Str.ofString "joint", some (.bool jo)), (Str.ofString "table", some tb), (Str.ofString "now", none), (Str.ofString "was", none), (Str.ofString "i", none), (Str.ofString "role", none)]
  refine b_mid (fun m₁ W₁ => ∃ tb, m₁ = M (.tup tb) ∧ W = W₁ ∧ TblOk tb) (if_go jo ⟨rfl, rfl⟩ (fun _ => b_go ⟨tblJ, rfl, rfl, tblJ_ok⟩) fun _ => ⟨tblN, rfl, rfl, tblN_ok⟩) ?_
  rintro m W₁ ⟨tb, rfl, rfl, h8, htb⟩
  refine b_go fun n fn => b_go fun k fk => b_go ⟨by decide, by decide, by decide, c_range2 (by decide) (by omega) (by omega) ?_⟩
  obtain ⟨j, hj, hj6⟩ : ∃ j : Nat, 4 + x / 32768 % 3 = 1 + (j : Int) ∧ (j : Int) ≤ 5 := ⟨(3 + x / 32768 % 3).toNat, by omega, by omega⟩
  rw [hj]
  have En := (Ext.refl W).upd (c := .list (ivs (tab fun _ => 0))) fn
  have Ek := En.trans ((Ext.refl _).upd (c := .list (ivs (tab fun _ => 0))) fk)
  obtain ⟨fk', hkn⟩ := upd_none fk
  refine ⟨_, _, .rng 1 j (by decide) (by omega) (by decide), ?_⟩
  refine for1_list (g := fun i : Nat => AV.int (1 + i)) (fun u : Option AV × Option AV => [(Str.ofString "x", some (.int x)), (Str.ofString "joint", some (.bool jo)), (Str.ofString "table", some (.tup tb)), (Str.ofString "now", some (.ref n)), (Str.ofString "was", some (.ref k)), (Str.ofString "i", u.1), (Str.ofString "role", u.2)])
    (fun rest u W₁ => (∀ i ∈ rest, i < j) ∧ ∃ f g : Int → Int, Ext W W₁ ∧ W₁ n = some (.list (ivs (tab f))) ∧ W₁ k = some (.list (ivs (tab g))) ∧ (∀ i, (i < 1 ∨ 6 < i) → f i = 0 ∧ g i = 0) ∧ ∀ i, Pair (f i) (g i))
    (fun u W₁ c => ?_) (fun y r u W₁ c => ?_) (List.range j) (none, none) _ ⟨fun i hi => List.mem_range.mp hi, fun _ => 0, fun _ => 0, Ek, by rw [upd_ne (Ne.symm hkn)]; exact upd_same _ _ _, upd_same _ _ _, fun _ _ => ⟨rfl, rfl⟩, fun _ => .inl ⟨rfl, rfl⟩⟩
  · obtain ⟨_, f, g, e₁, hn, hk, ho, hp⟩ := c
    have G : ∀ b : Bool, (b = true → (1 : Int) ∈ tab g) → LS.Good ⟨f, g, b⟩ := fun b hb => ⟨ho, hp, fun q => let ⟨i, _, e⟩ := (tab_mem g 1).mp (hb q); ⟨i, e⟩⟩
    refine b_go (c_tuple hn (by rw [ivs_len]; exact Nat.le_of_ble_eq_true rfl) (c_tuple hk (by rw [ivs_len]; exact Nat.le_of_ble_eq_true rfl) (.inl ⟨_, hk, fun q => ⟨by decide, by decide, by decide, ?_⟩, fun q => ?_⟩)))
    · exact hQ ⟨f, g, _⟩ W₁ e₁ (G _ fun _ => of_decide_eq_true q)
    · exact hQ ⟨f, g, _⟩ W₁ e₁ (G _ fun z => of_decide_eq_true z)
  · obtain ⟨hr, f, g, e₁, hn, hk, ho, hp⟩ := c
    obtain ⟨hi, hr⟩ := List.forall_mem_cons.mp hr
    generalize hq : 1 + (y : Int) = q
    have q1 : 1 ≤ q := by omega
    have q6 : q ≤ 6 := by omega
    have q0 : 0 ≤ q := Int.le_trans (by decide) q1
    obtain ⟨p0, p1⟩ := pow8 q1 q6
    have nk : n ≠ k := fun e => hkn e.symm
    have hz : ∀ f : Int → Int, (ivs (tab f)).length ≤ 1000 := fun f => by rw [ivs_len]; exact Nat.le_of_ble_eq_true rfl
    have ht : ∀ f : Int → Int, q.toNat < (ivs (tab f)).length := fun f => by rw [ivs_len]; exact (Int.toNat_lt q0).mpr (Int.lt_of_le_of_lt q6 (by show (6 : Int) < 7; decide))
    refine b_go ⟨Int.sub_nonneg_of_le q1, Int.le_trans (Int.sub_le_self q (by decide)) (Int.le_trans q6 (by decide)), by decide, by decide, p0, p1, by decide, ?_⟩
    generalize x / 8 ^ (q - 1).toNat = z
    have z0 := Int.emod_nonneg z (show (8 : Int) ≠ 0 by decide)
    have z8 := Int.emod_lt_of_pos z (show (0 : Int) < 8 by decide)
    obtain ⟨v, hv⟩ : ∃ v, tb[(z % 8).toNat]? = some v := ⟨_, List.getElem?_eq_getElem (by rw [h8]; exact (Int.toNat_lt z0).mpr z8)⟩
    obtain ⟨a, b, rfl, hab⟩ := htb v (List.mem_of_getElem? hv)
    obtain ⟨ho, hp⟩ := pair_set q1 q6 ho hp hab
    refine ⟨_, z0, Int.lt_trans z8 (by decide), hv, ?_⟩
    refine b_go ⟨.int a, by decide, by decide, rfl, .inl ⟨_, hn, q0, ht f, hz f, ?_⟩⟩
    refine b_go ⟨.int b, by decide, by decide, rfl, .inl ⟨_, by rw [upd_ne (Ne.symm nk)]; exact hk, q0, ht g, hz g, ?_⟩⟩
    rw [tab_set f a q q0 q6, tab_set g b q q0 q6]
    exact ⟨trivial, (some (.int q), some (.tup [.int a, .int b])), rfl, hr, _, _, (e₁.upd fn).upd fk', by rw [upd_ne nk]; exact upd_same _ _ _, upd_same _ _ _, ho, hp⟩
end
def stepOk (p : Int × Int) : Prop := 0 ≤ p.1 ∧ p.1 ≤ 4 ∧ 0 ≤ p.2 ∧ p.2 ≤ 6
def stepsOk (ps : List (Int × Int)) : Prop := ps.length ≤ 3 ∧ ∀ p ∈ ps, stepOk p
theorem ivs_at {l : List Int} {i : Int} {n : Nat} (h0 : 0 ≤ i) (hn : i < n) (hl : n = l.length) : ∃ k : Int, (ivs l)[i.toNat]? = some (.int k) ∧ k ∈ l := by
  have h : i.toNat < l.length := hl ▸ (Int.toNat_lt h0).mpr hn
  exact ⟨l[i.toNat], by unfold ivs; rw [List.getElem?_map, List.getElem?_eq_getElem h]; rfl, List.getElem_mem h⟩
theorem pow3 {i : Int} (h1 : 0 ≤ i) (h6 : i ≤ 6) : (0 < (3 : Int) ^ i.toNat ∧ (3 : Int) ^ i.toNat < 2 ^ 30) ∧ 0 < (5 : Int) ^ i.toNat ∧ (5 : Int) ^ i.toNat < 2 ^ 30 :=
  seven (P := fun i => (0 < (3 : Int) ^ i.toNat ∧ (3 : Int) ^ i.toNat < 2 ^ 30) ∧ 0 < (5 : Int) ^ i.toNat ∧ (5 : Int) ^ i.toNat < 2 ^ 30) (by decide) (by decide) (by decide) (by decide) (by decide) (by decide) (by decide) i h1 h6
/-- what _law_heard tells -/
structure Hd (vs : List (Int × Bool)) (as : List (Int × Int)) : Prop where
  nv : (vs.map (·.1)).Nodup
  na : (as.map (·.1)).Nodup
  lv : vs.length ≤ 7
  la : as.length ≤ 7
  bd : ∀ p ∈ as, 0 ≤ p.2 ∧ p.2 < NOL
/-- keys that rise to c -/
structure Up {α : Type} (c : Nat) (l : List (Int × α)) : Prop where
  nd : (l.map (·.1)).Nodup
  len : l.length ≤ c
  le : ∀ k : Int, k ∈ l.map (·.1) → k ≤ c
theorem Up.step {α : Type} {c : Nat} {l : List (Int × α)} (u : Up c l) : Up (c + 1) l := ⟨u.nd, Nat.le_succ_of_le u.len, fun k hk => Int.le_trans (u.le k hk) (Int.ofNat_le.mpr (Nat.le_succ c))⟩
theorem Up.notin {α : Type} {c : Nat} {l : List (Int × α)} (u : Up c l) : (1 + (c : Int)) ∉ l.map (·.1) := fun h => by have := u.le _ h; omega
theorem Up.snoc {α : Type} {c : Nat} {l : List (Int × α)} (u : Up c l) (v : α) : Up (c + 1) (l ++ [(1 + (c : Int), v)]) := by
  refine ⟨?_, by rw [List.length_append]; exact Nat.succ_le_succ u.len, ?_⟩
  · rw [List.map_append, List.nodup_append]
    exact ⟨u.nd, List.pairwise_singleton _ _, fun p hp q hq e => u.notin (by rw [← show q = 1 + (c : Int) from List.mem_singleton.mp hq, ← e]; exact hp)⟩
  · rw [List.map_append]
    exact fun k hk => (List.mem_append.mp hk).elim (u.step.le k) fun q => by rw [List.mem_singleton.mp q]; show 1 + (c : Int) ≤ ((c + 1 : Nat) : Int); omega
theorem keys_map {α β : Type} (f : α → β) (l : List (Int × α)) : (l.map fun p => (p.1, f p.2)).map (·.1) = l.map (·.1) := by rw [List.map_map]; rfl
theorem src_rng0 {W : Store} {j : Nat} (h : j ≤ 1000) : Src W (.rng 0 j) ((List.range j).map fun (i : Nat) => AV.int (0 + i)) (fun _ => True) := by
  have := Src.rng (W := W) 0 j (by decide) h (by decide)
  rwa [Int.zero_add] at this
section
variable {prog : Program} {w : World} {h : Heap} {X : Store → Prop} {Q : AV → Store → Prop} {W W₀ : Store}
theorem spec_steps (ok : PxOk (PX prog w h)) {x : Int} (hx : 0 ≤ x) (hQ : ∀ r ps W', Ext W W' → W r = none → W' r = some (.list (ps.map prV)) → stepsOk ps → Q (.ref r) W') : CodeOk (PX prog w h) 45 393 [.int x] W Q X := by
  refine g_393 ok (k := 40) rfl ?_
  obtain ⟨j, hj, hj3⟩ : ∃ j : Nat, x % 4 = (j : Int) ∧ j ≤ 3 := ⟨(x % 4).toNat, by omega, by omega⟩
  refine b_go fun st fst => b_go ⟨by decide, by decide, b_go ⟨by decide, ?_⟩⟩
  rw [hj]
  refine c_range1 (Int.natCast_nonneg j) (Int.ofNat_le.mpr (Nat.le_trans hj3 (by decide))) ⟨_, _, src_rng0 (Nat.le_trans hj3 (by decide)), ?_⟩
  refine for1_list (g := fun i : Nat => AV.int (0 + i)) (fun u : Int × Option AV × Option AV => [(Str.ofString "x", some (.int x)), (Str.ofString "steps", some (.ref st)), (Str.ofString "d", some (.int u.1)), (Str.ofString "_", u.2.1), (Str.ofString "e", u.2.2)])
    (fun rest u W₁ => ∃ ps : List (Int × Int), ps.length + rest.length ≤ 3 ∧ (∀ p ∈ ps, stepOk p) ∧ Ext W W₁ ∧ W₁ st = some (.list (ps.map prV))) (fun u W₁ c => ?_) (fun y r u W₁ c => ?_) (List.range j) (x / 4, none, none) _
    ⟨[], by rw [List.length_range]; exact (Nat.zero_add j).symm ▸ hj3, nofun, (Ext.refl W).upd fst, upd_same _ _ _⟩
  · obtain ⟨ps, hl, hps, e₁, hs⟩ := c
    exact b_go (hQ st ps W₁ e₁ fst hs ⟨hl, hps⟩)
  · obtain ⟨ps, hl, hps, e₁, hs⟩ := c
    obtain ⟨dv, u⟩ := u
    have e0 := Int.emod_nonneg (dv % 56) (show (8 : Int) ≠ 0 by decide)
    have e8 := Int.emod_lt_of_pos (dv % 56) (show (0 : Int) < 8 by decide)
    obtain ⟨k, hk, hm⟩ := ivs_at (l := [0, 1, 3, 0, 3, 1, 4, 2]) (n := 8) e0 e8 rfl
    have hz : ps.length + 1 ≤ 3 := Nat.le_trans (Nat.add_le_add_left (Nat.succ_le_succ (Nat.zero_le _)) _) hl
    refine b_go ⟨by decide, b_go (m_app hs ⟨by decide, .int k, e0, Int.lt_trans e8 (by decide), hk, by decide, by decide, by decide, _, _, rfl, hs, ?_, rfl, b_go ⟨by decide, by decide, trivial, (dv / 56, _, _), rfl, ps ++ [(k, (dv % 56 / 8 + dv % 56 + 1) % 7)], ?_, ?_, e₁.upd fst, ?_⟩⟩)⟩
    · rw [List.length_map]; exact Nat.le_trans (Nat.le_of_succ_le hz) (by decide)
    · rw [List.length_append]; show ps.length + 1 + r.length ≤ 3; rw [Nat.add_assoc, Nat.add_comm 1]; exact hl
    · have k4 := (by decide : ∀ k ∈ ([0, 1, 3, 0, 3, 1, 4, 2] : List Int), 0 ≤ k ∧ k ≤ 4) k hm
      exact List.forall_mem_append.mpr ⟨hps, List.forall_mem_singleton.mpr ⟨k4.1, k4.2, Int.emod_nonneg _ (by decide), Int.le_of_lt_add_one (Int.emod_lt_of_pos _ (by decide))⟩⟩
    · rw [upd_same, List.map_append]; rfl
theorem spec_heard (ok : PxOk (PX prog w h)) {x : Int} (hx : 0 ≤ x) (hQ : ∀ a b vs as W', Ext W W' → W' a = some (.dict (dB vs)) → W' b = some (.dict (dI as)) → Hd vs as → Q (.tup [.ref a, .ref b]) W') : CodeOk (PX prog w h) 45 405 [.int x] W Q X := by
  refine g_405 ok (k := 40) rfl ?_
  refine b_go fun a fa => b_go fun b fb => ?_
  obtain ⟨fb', hba⟩ := upd_none fb
  have nab : a ≠ b := Ne.symm hba
  have E0 := ((Ext.refl W).upd (c := .dict []) fa).upd (c := .dict []) fb'
  refine b_go (c_range2 (by decide) (by decide) (by decide) ⟨_, _, .rng 1 7 (by decide) (by decide) (by decide), ?_⟩)
  let F : Option AV × Option AV × Option AV → Vars := fun u => [(Str.ofString "x", some (.int x)), (Str.ofString "votes", some (.ref a)), (Str.ofString "acked", some (.ref b)), (Str.ofString "i", u.1), (Str.ofString "vote", u.2.1), (Str.ofString "held", u.2.2)]
  let I : Nat → List (Int × Bool) → List (Int × Int) → Store → Prop := fun c vs as W₁ => Ext W W₁ ∧ W₁ a = some (.dict (dB vs)) ∧ W₁ b = some (.dict (dI as)) ∧ Up c vs ∧ ∀ p ∈ as, 0 ≤ p.2 ∧ p.2 < NOL
  refine for1_list (g := fun i : Nat => AV.int (1 + i)) F (fun rest u W₁ => ∃ c n vs as, rest = List.range' c n ∧ c + n = 7 ∧ I c vs as W₁ ∧ Up c as)
    (fun u W₁ z => ?_) (fun y r u W₁ z => ?_) (List.range 7) (none, none, none) _ ⟨0, 7, [], [], rfl, rfl, ⟨E0, by rw [upd_ne nab]; exact upd_same _ _ _, upd_same _ _ _, ⟨.nil, Nat.le_refl _, nofun⟩, nofun⟩, .nil, Nat.le_refl _, nofun⟩
  · obtain ⟨c, n, vs, as, _, hc, ⟨e₁, ha, hb, U, bd⟩, U'⟩ := z
    have hc : c ≤ 7 := hc ▸ Nat.le_add_right c n
    exact b_go (hQ a b vs as W₁ e₁ ha hb ⟨U.nd, U'.nd, Nat.le_trans U.len hc, Nat.le_trans U'.len hc, bd⟩)
  · obtain ⟨c, n, vs, as, hr, hc, ⟨e₁, ha, hb, U, bd⟩, U'⟩ := z
    cases n with
    | zero => cases hr
    | succ n =>
    obtain ⟨e1, rfl⟩ := List.cons.inj hr
    have e1 := e1.symm
    subst e1
    have hc6 : c ≤ 6 := by omega
    have hq : (1 : Int) + (c : Int) - 1 = c := by omega
    have c0 : (0 : Int) ≤ c := Int.natCast_nonneg c
    obtain ⟨⟨p0, p1⟩, p2, p3⟩ := pow3 c0 (Int.ofNat_le.mpr hc6)
    have c64 : (c : Int) ≤ 64 := Int.ofNat_le.mpr (Nat.le_trans hc6 (by decide))
    refine b_go ?_
    show (0 : Int) ≤ 1 + (c : Int) - 1 ∧ 1 + (c : Int) - 1 ≤ 64 ∧ _
    rw [hq]
    refine ⟨c0, c64, by decide, by decide, p0, p1, by decide, ?_⟩
    generalize x / 3 ^ (c : Int).toNat % 3 = vv
    refine b_go ?_
    show (0 : Int) ≤ 1 + (c : Int) - 1 ∧ 1 + (c : Int) - 1 ≤ 64 ∧ _
    rw [hq]
    refine ⟨c0, c64, by decide, by decide, p2, p3, by decide, ?_⟩
    generalize x / 5 ^ (c : Int).toNat = z
    have z0 := Int.emod_nonneg z (show (5 : Int) ≠ 0 by decide)
    have z5 := Int.emod_lt_of_pos z (show (0 : Int) < 5 by decide)
    obtain ⟨k, hk, hm⟩ := ivs_at (l := [6, -1, 0, 300, 8589934592]) (n := 5) z0 z5 rfl
    have kN : k < NOL := (by decide : ∀ k ∈ ([6, -1, 0, 300, 8589934592] : List Int), k < NOL) k hm
    refine ⟨.int k, z0, Int.lt_trans z5 (by decide), hk, ?_⟩
    have hz : ∀ {α : Type} {l : List α}, l.length ≤ c → l.length ≤ 1000 := fun h => Nat.le_trans h (Nat.le_trans hc6 (by decide))
    let m : Vars := F (some (.int (1 + (c : Int))), some (.int vv), some (.int k))
    refine b_mid (fun m₂ W₂ => ∃ vs', m₂ = m ∧ I (c + 1) vs' as W₂) (if_prop (vv < 2) ⟨rfl, rfl⟩ (fun _ => b_go (.inr ⟨_, ha, ?_, hz (by unfold dB; rw [List.length_map]; exact U.len), vs ++ [(1 + (c : Int), decide (vv = 0))], rfl, e₁.upd fa, ?_, ?_, U.snoc _, bd⟩)) fun _ => ⟨vs, rfl, e₁, ha, hb, U.step, bd⟩) ?_
    · unfold dB; rw [keys_map]; exact U.notin
    · rw [upd_same]; unfold dB; rw [List.map_append]; rfl
    · rw [upd_ne hba]; exact hb
    rintro m₂ W₂ ⟨vs', rfl, e₂, ha, hb, U, _⟩
    refine b_go (if_prop (0 ≤ k) ⟨rfl, rfl⟩ (fun q0 => b_go (.inr ⟨_, hb, ?_, hz (by unfold dI; rw [List.length_map]; exact U'.len), trivial, (some (.int (1 + (c : Int))), some (.int vv), some (.int k)), rfl, c + 1, n, vs', as ++ [(1 + (c : Int), k)], rfl, ?_, ⟨e₂.upd fb', ?_, ?_, U, ?_⟩, U'.snoc _⟩)) fun _ => ⟨trivial, (some (.int (1 + (c : Int))), some (.int vv), some (.int k)), rfl, c + 1, n, vs', as, rfl, ?_, ⟨e₂, ha, hb, U, bd⟩, U'.step⟩)
    · unfold dI; rw [keys_map]; exact U'.notin
    · rw [Nat.succ_add]; exact hc
    · rw [upd_ne nab]; exact ha
    · rw [upd_same]; unfold dI; rw [List.map_append]; rfl
    · exact List.forall_mem_append.mpr ⟨bd, List.forall_mem_singleton.mpr ⟨q0, kN⟩⟩
    · rw [Nat.succ_add]; exact hc
end
/-- all but D stands as it stood -/
def ExtS (D : List Addr) (W W' : Store) : Prop := ∀ b c, b ∉ D → W b = some c → W' b = some c
theorem ExtS.refl (D : List Addr) (W : Store) : ExtS D W W := fun _ _ _ h => h
theorem ExtS.put {D : List Addr} {W W' : Store} {a : Addr} {c : Cell} (x : ExtS D W W') (ha : a ∈ D) : ExtS D W (upd W' a c) := fun b c' hb h => by
  rw [upd_ne (fun e => hb (by rw [e]; exact ha))]; exact x b c' hb h
theorem ExtS.old {D : List Addr} {W₀ W W' : Store} (x : ExtS D W W') (e : Ext W₀ W) (hD : ∀ b ∈ D, W₀ b = none) : Ext W₀ W' := fun b c h => x b c (fun hb => by rw [hD b hb] at h; cases h) (e b c h)
section
variable {prog : Program} {w : World} {h : Heap} {X : Store → Prop} {Q : AV → Store → Prop} {W W₀ : Store}
/-- an object and those of its lists that still stand -/
structure Sp (D : List Addr) (W₀ W : Store) (K a d : Addr) (at_ : List (Str × AV)) (r : List Addr) : Prop where
  ext : ExtS D W₀ W
  ha : W a = some (.inst K d)
  hd : W d = some (.attrs at_)
  sub : ∀ b ∈ r, b ∈ D
  ls : ∀ b ∈ r, ∃ l, W b = some (.list l) ∧ l.length ≤ 1000
  na : a ∉ r
  nd : d ∉ r
  nr : r.Nodup
theorem Sp.step {D : List Addr} {K a d b : Addr} {at_ : List (Str × AV)} {r : List Addr} {y : Str} {n : Nat} {m : Vars} {R : Store → Prop} (s : Sp D W₀ W K a d at_ (b :: r)) (hC : ClsOk (KK w) K) (hF : FieldOk (KK w) K y) (hl : at_.lookup y = some (.ref b)) (k : ∀ W', Sp D W₀ W' K a d at_ r → R W') :
    Attr (PX prog w h) (.ref a) y W fun o W₁ => Meth (PX prog w h) n o (Str.ofString "append") (lCons (cVal (.int 8)) lNil X m) W₁ (fun v W₂ => v = .none ∧ R W₂) X := by
  obtain ⟨l, hb, hz⟩ := s.ls b (.head _)
  obtain ⟨nb, nr⟩ := List.nodup_cons.mp s.nr
  refine a_attr s.ha s.hd hC hF hl (m_app hb ⟨_, _, rfl, hb, hz, rfl, k _ ⟨s.ext.put (s.sub b (.head _)), ?_, ?_, fun c hc => s.sub c (.tail _ hc), fun c hc => ?_, fun q => s.na (.tail _ q), fun q => s.nd (.tail _ q), nr⟩⟩)
  · rw [upd_ne (fun e => s.na (by rw [e]; exact .head _))]; exact s.ha
  · rw [upd_ne (fun e => s.nd (by rw [e]; exact .head _))]; exact s.hd
  · rw [upd_ne (fun e => nb (by rw [← e]; exact hc))]; exact s.ls c (.tail _ hc)
theorem Rec.sp {K : Addr} {at_ : Addr → Addr → Addr → Addr → Bool → List (Str × AV)} {a d v o l x : Addr} {V O L N : Int → Bool} {au : Bool} (R : Rec K at_ W a d v o l x V O L N au) : Sp [v, o, l, x] W W K a d (at_ v o l x au) [v, o, l, x] := by
  obtain ⟨n1, n2⟩ := List.nodup_cons.mp R.nd
  obtain ⟨n3, n4⟩ := List.nodup_cons.mp n2
  refine ⟨.refl _ _, R.inst, R.attrs, fun _ q => q, ?_, fun q => n1 (.tail _ q), n3, n4⟩
  simp only [List.forall_mem_cons]
  exact ⟨⟨_, R.vs, asc_k _⟩, ⟨_, R.os, asc_k _⟩, ⟨_, R.ls, asc_k _⟩, ⟨_, R.xs, asc_k _⟩, nofun⟩
theorem spoil_any (ok : PxOk (PX prog w h)) {K : Addr} {at_ : List (Str × AV)} {a d v o l x : Addr} (s : Sp [v, o, l, x] W W K a d at_ [v, o, l, x]) (hC : ClsOk (KK w) K)
    (f1 : FieldOk (KK w) K (Str.ofString "voters") ∧ at_.lookup (Str.ofString "voters") = some (.ref v)) (f2 : FieldOk (KK w) K (Str.ofString "outgoing") ∧ at_.lookup (Str.ofString "outgoing") = some (.ref o))
    (f3 : FieldOk (KK w) K (Str.ofString "learners") ∧ at_.lookup (Str.ofString "learners") = some (.ref l)) (f4 : FieldOk (KK w) K (Str.ofString "learners_next") ∧ at_.lookup (Str.ofString "learners_next") = some (.ref x))
    (hQ : ∀ W', ExtS [v, o, l, x] W W' → Q .none W') : CodeOk (PX prog w h) 35 417 [.ref a] W Q X := by
  refine g_417 ok (k := 30) rfl ?_
  refine b_go (s.step hC f1.1 f1.2 fun W1 s => b_go (s.step hC f2.1 f2.2 fun W2 s => b_go (s.step hC f3.1 f3.2 fun W3 s => b_go (s.step hC f4.1 f4.2 fun W4 s => ?_))))
  exact hQ W4 s.ext
theorem spec_spoil (ok : PxOk (PX prog w h)) {a d v o l x : Addr} {V O L N : Int → Bool} {au : Bool} (R : Rec 251 cfgL W a d v o l x V O L N au) (hQ : ∀ W', ExtS [v, o, l, x] W W' → Q .none W') : CodeOk (PX prog w h) 35 417 [.ref a] W Q X :=
  spoil_any ok R.sp (c_251 w) ⟨d_251_voters w, by kernel_rfl⟩ ⟨d_251_outgoing w, by kernel_rfl⟩ ⟨d_251_learners w, by kernel_rfl⟩ ⟨d_251_learners_next w, by kernel_rfl⟩ hQ
theorem spec_spoilS (ok : PxOk (PX prog w h)) {a d v o l x : Addr} {V O L N : Int → Bool} {au : Bool} (R : Rec 101 stL W a d v o l x V O L N au) (hQ : ∀ W', ExtS [v, o, l, x] W W' → Q .none W') : CodeOk (PX prog w h) 35 417 [.ref a] W Q X :=
  spoil_any ok R.sp (c_101 w) ⟨d_101_voters w, by kernel_rfl⟩ ⟨d_101_outgoing w, by kernel_rfl⟩ ⟨d_101_learners w, by kernel_rfl⟩ ⟨d_101_learners_next w, by kernel_rfl⟩ hQ
/-- a list of what passes a test -/
theorem comp_filt {bnd : AV → (Vars → Prop) → Prop} {ct : CT} {ce : CE} {Qn : AV → Store → Prop} {okk : Store → Prop} {α : Type} {g : α → AV} {l : List α} (p : α → Bool) (hb : ∀ (a : α) (k k' : Vars → Prop), (∀ m, k m → k' m) → bnd (g a) k → bnd (g a) k') (hk : okk W) (hl : l.length ≤ 1000)
    (hc : ∀ i ∈ l, bnd (g i) fun m' => ct noX m' W fun b W₁ => b = p i ∧ W₁ = W ∧ (p i = true → ce noX m' W₁ fun y W₂ => y = g i ∧ W₂ = W)) (hQ : ∀ r, W r = none → Qn (.ref r) (upd W r (.list ((l.filter p).map g)))) :
    compL bnd (wkT ct noX) (wkE ce noX) okk (fun ys W₂ => ys.length ≤ 1000 ∧ new W₂ (.list ys) Qn) (l.map g) [] W :=
  compL_inv g hb p g (fun W' => W' = W) (fun _ e => e ▸ hk) l (fun i hi W' e => by subst e; exact hc i hi) [] W rfl fun W' e => by
    subst e
    exact ⟨by rw [List.nil_append, List.length_map]; exact Nat.le_trans (List.length_filter_le _ _) hl, hQ⟩
/-! ### what holds a mark -/
noncomputable def holdB (as : List (Int × Int)) (mark i : Int) : Bool := decide (mark = 0) || (match as.lookup i with | some v => decide (mark ≤ v) | none => false)
noncomputable def holdN (as : List (Int × Int)) (mark : Int) (l : List Int) : Bool := decide (l.length < 2 * (l.filter (holdB as mark)).length)
def halvesV (hs : List (List Int)) : List AV := hs.map fun l => .tup (ivs l)
theorem halves_len (hs : List (List Int)) : (halvesV hs).length = hs.length := List.length_map _
theorem two_small : small 2 := ⟨by decide, by decide⟩
theorem spec_holds (ok : PxOk (PX prog w h)) {a b : Addr} {hs : List (List Int)} {as : List (Int × Int)} {mark : Int} (ha : W a = some (.list (halvesV hs))) (hl : (halvesV hs).length ≤ 1000) (hh : ∀ l ∈ hs, l.length ≤ 1000) (hb : W b = some (.dict (dI as)))
    (hQ : ∀ W', Ext W W' → Q (.bool (hs.all (holdN as mark))) W') : CodeOk (PX prog w h) 45 410 [.ref a, .ref b, .int mark] W Q X := by
  refine g_410 ok (k := 40) rfl ?_
  refine b_go ⟨_, _, .list _ _ ha hl, ?_⟩
  refine for1_list (g := fun l : List Int => AV.tup (ivs l)) (fun u : Option AV × Option AV => [(Str.ofString "halves", some (.ref a)), (Str.ofString "acked", some (.ref b)), (Str.ofString "mark", some (.int mark)), (Str.ofString "half", u.1), (Str.ofString "there", u.2)])
    (fun rest u W₁ => Ext W W₁ ∧ (∀ l ∈ rest, l.length ≤ 1000) ∧ hs.all (holdN as mark) = rest.all (holdN as mark)) (fun u W₁ z => ?_) (fun l r u W₁ z => ?_) hs (none, none) W ⟨Ext.refl W, hh, rfl⟩
  · obtain ⟨e₁, _, e⟩ := z
    have := hQ W₁ e₁
    rw [e] at this
    exact b_go this
  · obtain ⟨e₁, hh, e⟩ := z
    obtain ⟨hlen, hh⟩ := List.forall_mem_cons.mp hh
    refine b_go ⟨_, _, .tup _ (by rw [ivs_len]; exact hlen), comp_filt (g := AV.int) (holdB as mark) (fun _ _ _ f h => f _ h) trivial hlen (fun i hi => ⟨fun q => ⟨?_, rfl, fun _ => ⟨rfl, rfl⟩⟩, fun q => .inr ⟨_, e₁ _ _ hb, fun q2 => ?_, fun q2 => ⟨?_, rfl, fun _ => ⟨rfl, rfl⟩⟩⟩⟩) fun y fy => ?_⟩
    · unfold holdB; rw [q]; rfl
    · rw [dI_mem] at q2
      obtain ⟨v, hv⟩ := Option.isSome_iff_exists.mp q2
      refine .inr ⟨_, .int v, e₁ _ _ hb, by rw [dI_lookup, hv]; rfl, ?_, rfl, fun _ => ⟨rfl, rfl⟩⟩
      unfold holdB; rw [q, hv]; rfl
    · rw [dI_mem, Option.isSome_eq_false_iff, Option.isNone_iff_eq_none] at q2
      unfold holdB; rw [q, q2]; rfl
    have E := e₁.trans ((Ext.refl _).upd (c := .list (ivs (l.filter (holdB as mark)))) fy)
    refine b_go (if_go (!holdN as mark l) (c_lenI (upd_same _ _ _) (by rw [ivs_len]; exact Nat.le_trans (List.length_filter_le _ _) hlen) ⟨two_small, c_lenT (by rw [ivs_len]; exact hlen) ⟨?_, rfl⟩⟩) (fun q => b_go ?_) fun q => ?_)
    · rw [ivs_len]
      unfold holdN
      rw [Bool.eq_iff_iff, decide_eq_true_eq, Bool.not_eq_true', decide_eq_false_iff_not]
      omega
    · have := hQ _ E
      rw [e, List.all_cons, (Bool.not_eq_true' _).mp q] at this
      exact this
    · refine ⟨E _ _ ha, (some (.tup (ivs l)), some (.ref y)), rfl, E, hh, ?_⟩
      rw [e, List.all_cons, (Bool.not_eq_false' _).mp q]; rfl
end
/-! ### the pure side of the counting -/
noncomputable def noN (l : List Int) (vs : List (Int × Bool)) : Nat := (l.filter fun i => vs.lookup i == some false).length
theorem three (vs : List (Int × Bool)) : ∀ l : List Int, yesN l vs + misN l vs + noN l vs = l.length
  | [] => rfl
  | i :: l => by
    have ih := three vs l
    unfold yesN misN noN at ih ⊢
    simp only [List.filter_cons, List.length_cons]
    generalize l.filter (fun i => vs.lookup i == some true) = A at *
    generalize l.filter (fun i => vs.lookup i == none) = B at *
    generalize l.filter (fun i => vs.lookup i == some false) = C at *
    rcases vs.lookup i with _ | (_ | _) <;> simp <;> omega
noncomputable def stepF (vs : List (Int × Bool)) (f : Int) (l : List Int) : Int :=
  if l.length ≤ 2 * noN l vs then 0 else if 2 * yesN l vs ≤ l.length then (if 1 < f then 1 else f) else f
noncomputable def vF (f : Int) : Int := if f = 0 then 2 else if f = 1 then 1 else 3
noncomputable def both (a b : List Int) : List (List Int) := [a, b].filter fun l => decide (l ≠ [])
theorem majV_cases (l : List Int) (vs : List (Int × Bool)) : (l = [] ∧ majV l vs = 3) ∨ (l ≠ [] ∧ majV l vs = 2 ∧ l.length ≤ 2 * noN l vs) ∨
    (l ≠ [] ∧ majV l vs = 1 ∧ ¬ l.length ≤ 2 * noN l vs ∧ 2 * yesN l vs ≤ l.length) ∨ (l ≠ [] ∧ majV l vs = 3 ∧ ¬ l.length ≤ 2 * noN l vs ∧ ¬ 2 * yesN l vs ≤ l.length) := by
  by_cases h : l = []
  · exact .inl ⟨h, by simp [majV, h]⟩
  have h3 := three vs l
  have hp : 0 < l.length := List.length_pos_iff.mpr h
  unfold majV
  rw [if_neg h]
  by_cases a : l.length / 2 + 1 ≤ yesN l vs
  · rw [if_pos a]
    exact .inr (.inr (.inr ⟨h, rfl, by omega, by omega⟩))
  · rw [if_neg a]
    by_cases b : l.length / 2 + 1 ≤ yesN l vs + misN l vs
    · rw [if_pos b]
      exact .inr (.inr (.inl ⟨h, rfl, by omega, by omega⟩))
    · rw [if_neg b]
      exact .inr (.inl ⟨h, rfl, by omega⟩)
theorem majV_nil (vs : List (Int × Bool)) : majV [] vs = 3 := by simp [majV]
theorem fate_is (a b : List Int) (vs : List (Int × Bool)) : jointV a b vs = vF ((both a b).foldl (stepF vs) 2) := by
  unfold jointV both
  rcases majV_cases a vs with ⟨h, m⟩ | ⟨h, m, q⟩ | ⟨h, m, q, r⟩ | ⟨h, m, q, r⟩ <;>
  rcases majV_cases b vs with ⟨h', m'⟩ | ⟨h', m', q'⟩ | ⟨h', m', q', r'⟩ | ⟨h', m', q', r'⟩ <;>
  simp [m, m', h, h', stepF, vF, majV_nil, *]
theorem fate_range (vs : List (Int × Bool)) : ∀ (hs : List (List Int)) (f : Int), 0 ≤ f ∧ f ≤ 2 → 0 ≤ hs.foldl (stepF vs) f ∧ hs.foldl (stepF vs) f ≤ 2
  | [], f, h => h
  | l :: hs, f, h => fate_range vs hs _ (by unfold stepF; split <;> (try split) <;> (try split) <;> omega)

theorem held_pos {as : List (Int × Int)} (bd : ∀ p ∈ as, 0 ≤ p.2 ∧ p.2 < NOL) (i : Int) : 0 ≤ held as i := by
  unfold held
  cases e : as.lookup i with
  | none => decide
  | some v =>
    have : ∀ as : List (Int × Int), as.lookup i = some v → ∃ p ∈ as, p.2 = v := fun as => by
      induction as with
      | nil => intro h; simp at h
      | cons q r ih =>
        intro h
        obtain ⟨a, b⟩ := q
        rw [List.lookup_cons] at h
        cases hx : i == a with
        | true => rw [hx] at h; cases h; exact ⟨_, .head _, rfl⟩
        | false => rw [hx] at h; obtain ⟨p, hp, e⟩ := ih h; exact ⟨p, .tail _ hp, e⟩
    obtain ⟨p, hp, e⟩ := this as e
    have := (bd p hp).1
    show 0 ≤ v
    omega
theorem held_mem (as : List (Int × Int)) (i : Int) : held as i ∈ 0 :: as.map (·.2) := by
  unfold held
  induction as with
  | nil => exact .head _
  | cons q r ih =>
    obtain ⟨a, b⟩ := q
    rw [List.lookup_cons]
    cases hx : i == a with
    | true => exact .tail _ (.head _)
    | false =>
      rcases List.mem_cons.mp ih with e | e
      · rw [e]; exact .head _
      · exact .tail _ (.tail _ e)
theorem holdB_is {as : List (Int × Int)} (bd : ∀ p ∈ as, 0 ≤ p.2 ∧ p.2 < NOL) {mark : Int} (h0 : 0 ≤ mark) (i : Int) : holdB as mark i = decide (mark ≤ held as i) := by
  have hp := held_pos bd i
  unfold holdB held at *
  cases e : as.lookup i with
  | none =>
    rw [Bool.eq_iff_iff]
    simp
    omega
  | some v =>
    rw [e] at hp
    simp only [Option.getD_some] at hp ⊢
    rw [Bool.eq_iff_iff]
    simp only [Bool.or_eq_true, decide_eq_true_eq]
    omega
theorem holdN_is {as : List (Int × Int)} (bd : ∀ p ∈ as, 0 ≤ p.2 ∧ p.2 < NOL) {l : List Int} {v mark : Int} (hl : l ≠ []) (h : MajI l as v) (h0 : 0 ≤ mark) : holdN as mark l = true ↔ mark ≤ v := by
  unfold holdN
  rw [decide_eq_true_eq, h.2 hl mark, List.filter_congr (fun i _ => holdB_is bd h0 i)]
  omega
theorem majI_mem {as : List (Int × Int)} {l : List Int} {v : Int} (hl : l ≠ []) (h : MajI l as v) : v ∈ 0 :: as.map (·.2) := by
  have h1 := (h.2 hl v).mp (Int.le_refl v)
  have h2 := mt (h.2 hl (v + 1)).mpr (by omega)
  rcases Classical.em (∃ i ∈ l, held as i = v) with ⟨i, _, e⟩ | q
  · rw [← e]; exact held_mem as i
  · exfalso
    apply h2
    rw [List.filter_congr (q := fun i => decide (v ≤ held as i)) (fun i hi => ?_)]
    · exact h1
    · have : held as i ≠ v := fun e => q ⟨i, hi, e⟩
      rw [Bool.eq_iff_iff, decide_eq_true_eq, decide_eq_true_eq]
      omega
theorem mark_pos {as : List (Int × Int)} (bd : ∀ p ∈ as, 0 ≤ p.2 ∧ p.2 < NOL) {x : Int} (h : x ∈ 0 :: as.map (·.2)) : 0 ≤ x ∧ x < NOL := by
  rcases List.mem_cons.mp h with e | e
  · subst e; exact ⟨by decide, by decide⟩
  · obtain ⟨p, hp, e⟩ := List.mem_map.mp e
    rw [← e]; exact bd p hp
noncomputable def marksOf (as : List (Int × Int)) (hs : List (List Int)) : List Int := (0 :: as.map (·.2)).filter fun mk => hs.all (holdN as mk)
theorem both_cases (a b : List Int) : (a = [] ∧ b = [] ∧ both a b = []) ∨ (a ≠ [] ∧ b = [] ∧ both a b = [a]) ∨ (a = [] ∧ b ≠ [] ∧ both a b = [b]) ∨ (a ≠ [] ∧ b ≠ [] ∧ both a b = [a, b]) := by
  unfold both
  by_cases h : a = [] <;> by_cases k : b = [] <;> simp [h, k]
theorem best_is {as : List (Int × Int)} (bd : ∀ p ∈ as, 0 ≤ p.2 ∧ p.2 < NOL) {a b : List Int} {u v : Int} (hu : MajI a as u) (hv : MajI b as v) :
    (both a b = [] → (if u < v then u else v) = NOL) ∧ (both a b ≠ [] → ∀ k ∈ marksOf as (both a b), (∀ y ∈ marksOf as (both a b), y ≤ k) → (if u < v then u else v) = k) := by
  have mem : ∀ x, x ∈ marksOf as (both a b) ↔ x ∈ 0 :: as.map (·.2) ∧ (both a b).all (holdN as x) = true := fun x => List.mem_filter
  rcases both_cases a b with ⟨h, k, e⟩ | ⟨h, k, e⟩ | ⟨h, k, e⟩ | ⟨h, k, e⟩
  · refine ⟨fun _ => ?_, fun q => absurd e q⟩
    rw [hu.1 h, hv.1 k]; rfl
  · refine ⟨fun q => (by rw [e] at q; cases q), fun _ x hx hy => ?_⟩
    have mu := majI_mem h hu
    have pu := mark_pos bd mu
    rw [mem, e] at hx
    have px := mark_pos bd hx.1
    have q1 := (holdN_is bd h hu px.1).mp (by simpa using hx.2)
    have q2 := hy u ((mem u).mpr ⟨mu, by rw [e]; simpa using (holdN_is bd h hu pu.1).mpr (Int.le_refl u)⟩)
    rw [hv.1 k, if_pos pu.2]
    omega
  · refine ⟨fun q => (by rw [e] at q; cases q), fun _ x hx hy => ?_⟩
    have mv := majI_mem k hv
    have pv := mark_pos bd mv
    rw [mem, e] at hx
    have px := mark_pos bd hx.1
    have q1 := (holdN_is bd k hv px.1).mp (by simpa using hx.2)
    have q2 := hy v ((mem v).mpr ⟨mv, by rw [e]; simpa using (holdN_is bd k hv pv.1).mpr (Int.le_refl v)⟩)
    have := pv.2
    rw [hu.1 h, if_neg (by omega)]
    omega
  · refine ⟨fun q => (by rw [e] at q; cases q), fun _ x hx hy => ?_⟩
    have mu := majI_mem h hu
    have pu := mark_pos bd mu
    have mv := majI_mem k hv
    have pv := mark_pos bd mv
    rw [mem, e] at hx
    have px := mark_pos bd hx.1
    have hx2 : holdN as x a = true ∧ holdN as x b = true := by simpa using hx.2
    have q1 := (holdN_is bd h hu px.1).mp hx2.1
    have q2 := (holdN_is bd k hv px.1).mp hx2.2
    by_cases c : u < v
    · rw [if_pos c]
      have := hy u ((mem u).mpr ⟨mu, by rw [e]; simpa using ⟨(holdN_is bd h hu pu.1).mpr (Int.le_refl u), (holdN_is bd k hv pu.1).mpr (by omega)⟩⟩)
      omega
    · rw [if_neg c]
      have := hy v ((mem v).mpr ⟨mv, by rw [e]; simpa using ⟨(holdN_is bd h hu pv.1).mpr (by omega), (holdN_is bd k hv pv.1).mpr (Int.le_refl v)⟩⟩)
      omega
/-! ### a dict comprehension that copies a dict -/
theorem dict_copy {bnd : AV → (Vars → Prop) → Prop} {ck cv : CE} {a D : Addr} {l : List (Int × AV)} {Q : Store → Prop} (hb : ∀ (i : Int) (k k' : Vars → Prop), (∀ m, k m → k' m) → bnd (.int i) k → bnd (.int i) k') (hn : (l.map (·.1)).Nodup) (hl : l.length ≤ 1000) (haD : a ≠ D)
    (hk : ∀ p ∈ l, ∀ W, W a = some (.dict l) → bnd (.int p.1) fun m' => ck noX m' W fun k W₁ => (k = .int p.1 ∧ W₁ = W) ∧ cv noX m' W fun v W₂ => v = p.2 ∧ W₂ = W) :
    ∀ (l₂ l₁ : List (Int × AV)) (W : Store), l = l₁ ++ l₂ → W a = some (.dict l) → W D = some (.dict l₁) → (∀ W', (∀ b, b ≠ D → W' b = W b) → W' D = some (.dict l) → Q W') →
    dictL bnd (wkE ck noX) (wkE cv noX) (fun W' => W' a = some (.dict l)) D Q (ivs (l₂.map (·.1))) W
  | [], l₁, W, e, ha, hD, hQ => hQ W (fun _ _ => rfl) (by rw [e, List.append_nil]; exact hD)
  | p :: l₂, l₁, W, e, ha, hD, hQ => hb _ _ _ (fun m' hm => ⟨_, hm, fun k W₁ ⟨⟨e1, e2⟩, hc⟩ => ⟨fun v W₂ => v = p.2 ∧ W₂ = W, by rw [e2]; exact hc, fun v W₂ ⟨e3, e4⟩ => by
      subst e1 e2 e3 e4
      have ha' : ∀ c, upd W₂ D c a = some (.dict l) := fun c => by rw [upd_ne haD]; exact ha
      refine ⟨p.1, l₁, rfl, hD, ?_, Nat.le_trans (by rw [e, List.length_append]; exact Nat.le_add_right _ _) hl, ha' _, ?_⟩
      · intro q
        rw [e, List.map_append, List.map_cons, List.nodup_append] at hn
        exact hn.2.2 _ q _ (.head _) rfl
      · exact dict_copy hb hn hl haD hk l₂ (l₁ ++ [(p.1, p.2)]) _ (by rw [e, List.append_assoc]; rfl) (ha' _) (upd_same _ _ _) fun W' h1 h2 => hQ W' (fun b hb => by rw [h1 b hb, upd_ne hb]) h2⟩⟩)
    (hk p (by rw [e]; exact List.mem_append_right _ (.head _)) W ha)
theorem two_mem {p q : Int → Bool} : ∀ l ∈ [asc p, asc q], l.length ≤ 9 := (List.forall_mem_cons (p := fun l : List Int => l.length ≤ 9)).mpr ⟨asc_len p, List.forall_mem_singleton.mpr (asc_len q)⟩
theorem both_mem {p q : Int → Bool} {l : List Int} (h : l ∈ both (asc p) (asc q)) : l.length ≤ 9 ∧ l ≠ [] := by
  unfold both at h
  obtain ⟨h1, h2⟩ := List.mem_filter.mp h
  exact ⟨two_mem l h1, of_decide_eq_true h2⟩
theorem vF_at {f : Int} (h : 0 ≤ f ∧ f ≤ 2) : [AV.int 2, .int 1, .int 3][f.toNat]? = some (.int (vF f)) := by
  rcases (by omega : f = 0 ∨ f = 1 ∨ f = 2) with rfl | rfl | rfl <;> rfl
theorem lookup_nodup {β : Type} : ∀ {l : List (Int × β)}, (l.map (·.1)).Nodup → ∀ p ∈ l, l.lookup p.1 = some p.2
  | [], _, p, hp => by cases hp
  | (a, b) :: r, hn, p, hp => by
    rw [List.map_cons, List.nodup_cons] at hn
    rcases List.mem_cons.mp hp with e | e
    · rw [e, List.lookup_cons, beq_self_eq_true]
    · have : p.1 ≠ a := fun q => hn.1 (List.mem_map.mpr ⟨p, e, q⟩)
      rw [List.lookup_cons, beq_eq_false_iff_ne.mpr this]
      exact lookup_nodup hn.2 p e
theorem dB_keys (vs : List (Int × Bool)) : (dB vs).map (·.1) = vs.map (·.1) := keys_map _ _
theorem dI_keys (vs : List (Int × Int)) : (dI vs).map (·.1) = vs.map (·.1) := keys_map _ _
theorem dB_len (vs : List (Int × Bool)) : (dB vs).length = vs.length := List.length_map _
theorem dI_len (vs : List (Int × Int)) : (dI vs).length = vs.length := List.length_map _
theorem dB_eq (vs : List (Int × Bool)) : ∀ p ∈ dB vs, eqOk 1 p.2 := List.forall_mem_map.mpr fun _ _ => trivial
theorem dI_eq (vs : List (Int × Int)) : ∀ p ∈ dI vs, eqOk 1 p.2 := List.forall_mem_map.mpr fun _ _ => trivial
theorem ext_copy {W W' : Store} {D : Addr} {c : Cell} (h : ∀ b, b ≠ D → W' b = upd W D c b) (f : W D = none) : Ext W W' := fun b k e => by
  have hb : b ≠ D := ne_of e f
  rw [h b hb, upd_ne hb]; exact e
theorem marks_ne {as : List (Int × Int)} {hs : List (List Int)} (h : ∀ l ∈ hs, l ≠ []) : marksOf as hs ≠ [] := by
  refine List.ne_nil_of_mem (a := 0) (List.mem_filter.mpr ⟨.head _, List.all_eq_true.mpr fun l hl => ?_⟩)
  unfold holdN
  rw [List.filter_eq_self (p := holdB as 0) |>.mpr (fun i _ => rfl), decide_eq_true_eq, Nat.two_mul]
  exact Nat.lt_add_of_pos_left (List.length_pos_iff.mpr (h l hl))
theorem le_two (n k : Nat) : decide ((n : Int) ≤ 2 * (k : Int)) = decide (n ≤ 2 * k) := by
  rw [Bool.eq_iff_iff, decide_eq_true_eq, decide_eq_true_eq]; omega
theorem two_le (n k : Nat) : decide (2 * (k : Int) ≤ n) = decide (2 * k ≤ n) := by
  rw [Bool.eq_iff_iff, decide_eq_true_eq, decide_eq_true_eq]; omega
section
variable {prog : Program} {w : World} {h : Heap} {X : Store → Prop} {Q : AV → Store → Prop} {W W₀ : Store}
/-- what the last part of the counting leans on -/
def Best (as : List (Int × Int)) (hs : List (List Int)) (best : Int) : Prop := (hs = [] → best = NOL) ∧ (hs ≠ [] → best ∈ marksOf as hs ∧ ∀ y ∈ marksOf as hs, y ≤ best)
theorem spec_counts (ok : PxOk (PX prog w h)) {c a b : Addr} {V O L N : Int → Bool} {au : Bool} {vs : List (Int × Bool)} {as : List (Int × Int)} (R : Cfg W₀ W c V O L N au) (ha : W a = some (.dict (dB vs))) (hb : W b = some (.dict (dI as))) (H : Hd vs as)
    (hQ : ∀ W', Ext W W' → Q (.bool true) W') : CodeOk (PX prog w h) 125 422 [.ref c, rowV V O L N au, .ref a, .ref b] W Q X := by
  refine g_422 ok (k := 120) rfl ?_
  have kB : ((dB vs).map (·.1)).Nodup := dB_keys vs ▸ H.nv
  have kI : ((dI as).map (·.1)).Nodup := dI_keys as ▸ H.na
  have zB : (dB vs).length ≤ 1000 := dB_len vs ▸ Nat.le_trans H.lv (by decide)
  have zI : (dI as).length ≤ 1000 := dI_len as ▸ Nat.le_trans H.la (by decide)
  -- the halves
  refine b_go ⟨Nat.le_of_ble_eq_true rfl, _, _, .tup _ (Nat.le_of_ble_eq_true rfl), comp_filt (g := fun l : List Int => AV.tup (ivs l)) (l := [asc V, asc O]) (fun l => decide (l ≠ [])) (fun _ _ _ f h => f _ h) trivial (Nat.le_of_ble_eq_true rfl) (fun l hl => c_lenT ?_ ⟨?_, rfl, fun _ => ⟨rfl, rfl⟩⟩) fun hv fhv => ?_⟩
  · rw [ivs_len]; exact Nat.le_trans (two_mem l hl) (by decide)
  · cases l <;> simp [ivs]
  have e₁ := (Ext.refl W).upd (c := .list (halvesV (both (asc V) (asc O)))) fhv
  have hhv : upd W hv (.list (halvesV (both (asc V) (asc O)))) hv = _ := upd_same _ _ _
  have ft := fate_is (asc V) (asc O) vs
  have bst : ∀ {u v best}, MajI (asc V) as u → MajI (asc O) as v → Best as (both (asc V) (asc O)) best → (if u < v then u else v) = best := fun {u v best} hu hv B => by
    have hbi := best_is H.bd hu hv
    by_cases q : both (asc V) (asc O) = []
    · rw [hbi.1 q, B.1 q]
    · exact hbi.2 q best (B.2 q).1 (B.2 q).2
  have hmem : ∀ l ∈ both (asc V) (asc O), l.length ≤ 9 ∧ l ≠ [] := fun l hl => both_mem hl
  have hs2 : (both (asc V) (asc O)).length ≤ 2 := List.length_filter_le _ _
  show behind _ _ .next _ (upd W hv (.list (halvesV (both (asc V) (asc O)))))
  generalize both (asc V) (asc O) = hs at *
  have hz : (halvesV hs).length ≤ 1000 := by rw [halves_len]; exact Nat.le_trans hs2 (by decide)
  generalize upd W hv (.list (halvesV hs)) = W₁ at *
  -- the fate
  refine b_go (b_go ⟨_, _, .list _ _ hhv hz, ?_⟩)
  refine for1_list (g := fun l : List Int => AV.tup (ivs l)) (fun u : Int × Option AV × Option AV × Option AV => [(Str.ofString "config", some (.ref c)), (Str.ofString "row", some (rowV V O L N au)), (Str.ofString "votes", some (.ref a)), (Str.ofString "acked", some (.ref b)), (Str.ofString "half", u.2.1), (Str.ofString "halves", some (.ref hv)), (Str.ofString "fate", some (.int u.1)), (Str.ofString "yes", u.2.2.1), (Str.ofString "no", u.2.2.2), (Str.ofString "best", none), (Str.ofString "marks", none), (Str.ofString "lent", none)])
    (fun rest u W₂ => Ext W₁ W₂ ∧ (∀ l ∈ rest, l.length ≤ 9 ∧ l ≠ []) ∧ rest.foldl (stepF vs) u.1 = hs.foldl (stepF vs) 2) (fun u W₂ z => ?_) (fun l r u W₂ z => ?_) hs (2, none, none, none) W₁ ⟨Ext.refl _, hmem, rfl⟩
  · obtain ⟨e₂, _, ef⟩ := z
    obtain ⟨fate, u1, u2, u3⟩ := u
    have ef : fate = hs.foldl (stepF vs) 2 := ef
    have fr := fate_range vs hs 2 (by decide)
    rw [← ef] at ft fr
    clear ef
    -- the best mark
    refine b_go ?_
    refine b_mid (fun m₃ W₃ => ∃ best u4, Ext W₁ W₃ ∧ Best as hs best ∧ m₃ = [(Str.ofString "config", some (.ref c)), (Str.ofString "row", some (rowV V O L N au)), (Str.ofString "votes", some (.ref a)), (Str.ofString "acked", some (.ref b)), (Str.ofString "half", u1), (Str.ofString "halves", some (.ref hv)), (Str.ofString "fate", some (.int fate)), (Str.ofString "yes", u2), (Str.ofString "no", u3), (Str.ofString "best", some (.int best)), (Str.ofString "marks", u4), (Str.ofString "lent", none)])
      (if_prop (hs ≠ []) (c_lenL (e₂ _ _ hhv) hz ⟨?_, rfl⟩) (fun q => ?_) fun q => ⟨NOL, none, e₂, ⟨fun _ => rfl, fun e => absurd e q⟩, rfl⟩) ?_
    · rw [halves_len]
      cases hs <;> simp
    · refine b_go fun z fz => ?_
      have E1 := e₂.trans ((Ext.refl _).upd (c := .list [.int 0]) fz)
      have hb1 := E1 _ _ (e₁ _ _ hb)
      have hz7 : (as.map fun p => AV.int p.2).length ≤ 7 := by rw [List.length_map]; exact H.la
      refine ⟨_, _, .dict _ _ hb1 kI zI, ?_⟩
      rw [show ivs ((dI as).map (·.1)) = as.map (fun p => AV.int p.1) from by rw [dI_keys]; unfold ivs; rw [List.map_map]; rfl]
      refine compM_inv (fun p : Int × Int => AV.int p.1) (fun _ _ _ f h => f _ h) (fun p => AV.int p.2) (fun W' => W' = upd W₂ z (.list [.int 0])) (fun W' e => e ▸ hb1) as (fun p hp W' e => .inr ⟨_, .int p.2, e ▸ hb1, by rw [dI_lookup, lookup_nodup H.na p hp]; rfl, rfl, e⟩) [] _ rfl fun W' e => ?_
      subst e
      rw [List.nil_append]
      refine ⟨Nat.le_trans hz7 (by decide), fun z2 fz2 => ?_⟩
      have E2 := E1.trans ((Ext.refl _).upd (c := .list (as.map fun p => AV.int p.2)) fz2)
      refine ⟨_, _, upd_fresh (upd_same _ _ _) fz2, upd_same _ _ _, Nat.le_trans (Nat.add_le_add_left hz7 1) (by decide), fun mk fmk => ?_⟩
      rw [show [AV.int 0] ++ as.map (fun p => AV.int p.2) = ivs (0 :: as.map (·.2)) from by unfold ivs; rw [List.map_cons, List.map_map]; rfl]
      have E3 := E2.trans ((Ext.refl _).upd (c := .list (ivs (0 :: as.map (·.2)))) fmk)
      have hmk := upd_same (upd (upd W₂ z (.list [.int 0])) z2 (.list (as.map fun p => AV.int p.2))) mk (.list (ivs (0 :: as.map (·.2))))
      have l8 : (0 :: as.map (·.2)).length ≤ 8 := by rw [List.length_cons, List.length_map]; exact Nat.succ_le_succ H.la
      generalize upd (upd (upd W₂ z (.list [.int 0])) z2 (.list (as.map fun p => AV.int p.2))) mk (.list (ivs (0 :: as.map (·.2)))) = W₃ at *
      have lm : (marksOf as hs).length ≤ 8 := Nat.le_trans (List.length_filter_le _ _) l8
      refine b_go ⟨_, _, .list _ _ hmk (by rw [ivs_len]; exact Nat.le_trans l8 (by decide)), ?_⟩
      refine compL_inv AV.int (fun _ _ _ f h => f _ h) (fun i => hs.all (holdN as i)) AV.int (fun W' => Ext W₃ W') (fun W' e' => e' _ _ hmk) _ (fun i _ W' e' => ?_) [] W₃ (Ext.refl _) fun W' e' => ?_
      · exact c_fn (keepK _ (by decide)) (spec_holds ok (E3.trans e' _ _ hhv) hz (fun l hl => Nat.le_trans (hmem l hl).1 (by decide)) (E3.trans e' _ _ (e₁ _ _ hb)) fun W'' e'' => ⟨rfl, e'.trans e'', fun _ => ⟨rfl, e'.trans e''⟩⟩)
      · show (ivs (marksOf as hs)).length ≤ 1000 ∧ new W' (.list (ivs (marksOf as hs))) _
        refine ⟨by rw [ivs_len]; exact Nat.le_trans lm (by decide), fun y fy => ?_⟩
        exact c_max (upd_same _ _ _) (marks_ne fun l hl => (hmem l hl).2) (Nat.le_trans lm (by decide)) fun k hk hmax => ⟨k, _, (E3.trans e').upd (Ext.none (E3.trans e') fy), ⟨fun e => absurd e q, fun _ => ⟨hk, hmax⟩⟩, rfl⟩
    rintro m₃ W₃ ⟨best, u4, e₃, B, rfl⟩
    have ha3 := (e₁.trans e₃) _ _ ha
    -- the votes
    refine b_go ⟨_, _, .dict _ _ ha3 kB zB, fun D fD => ?_⟩
    have haD : a ≠ D := ne_of ha3 fD
    refine dict_copy (fun _ _ _ f h => f _ h) kB zB haD (fun p hp W' hW' => ⟨⟨rfl, rfl⟩, .inr ⟨_, _, hW', lookup_nodup kB p hp, rfl, rfl⟩⟩) (dB vs) [] _ rfl (by rw [upd_ne haD]; exact ha3) (upd_same _ _ _) fun W₄ h1 h2 => ?_
    have e₄ := (e₁.trans e₃).trans (ext_copy h1 fD)
    refine b_go (if_false_go (m_cfg (R.ext e₄) (m_234 w) (fun _ _ _ _ => by kernel_rfl) ((spec_vote ok (R.ext e₄) h2 ⟨_, fr.1, Int.lt_of_le_of_lt fr.2 (by decide), vF_at fr, fun q => absurd ft (of_decide_eq_true q), fun _ => .inr ⟨dB vs, h2, e₄ _ _ ha, dB_eq vs, kB, rfl, rfl⟩⟩).call (by decide))) ?_)
    have hb4 := e₄ _ _ hb
    -- what is committed
    refine b_go ⟨_, _, .dict _ _ hb4 kI zI, fun D' fD' => ?_⟩
    have hbD : b ≠ D' := ne_of hb4 fD'
    refine dict_copy (fun _ _ _ f h => f _ h) kI zI hbD (fun p hp W' hW' => ⟨⟨rfl, rfl⟩, .inr ⟨_, _, hW', lookup_nodup kI p hp, rfl, rfl⟩⟩) (dI as) [] _ rfl (by rw [upd_ne hbD]; exact hb4) (upd_same _ _ _) fun W₅ h3 h4 => ?_
    have e₅ := e₄.trans (ext_copy h3 fD')
    refine b_go (m_cfg (R.ext e₅) (m_227 w) (fun _ _ _ _ => by kernel_rfl) ((spec_committed ok (R.ext e₅) h4 fun u v W₆ e₆ hu hv' => ⟨fun _ => ?_, fun q => absurd (bst hu hv' B) (of_decide_eq_false q)⟩).call (by decide)))
    exact .inr ⟨dI as, e₆ _ _ h4, (e₅.trans e₆) _ _ hb, dI_eq as, kI, hQ _ (e₅.trans e₆)⟩
  · obtain ⟨e₂, hr, ef⟩ := z
    obtain ⟨⟨hl9, _⟩, hr⟩ := List.forall_mem_cons.mp hr
    obtain ⟨f, u⟩ := u
    have ef : r.foldl (stepF vs) (stepF vs f l) = hs.foldl (stepF vs) 2 := ef
    have hl : l.length ≤ 1000 := Nat.le_trans hl9 (by decide)
    have hl' : (ivs l).length ≤ 1000 := ivs_len l ▸ hl
    have hf : ∀ p : Int → Bool, (ivs (l.filter p)).length ≤ 1000 := fun p => by rw [ivs_len]; exact Nat.le_trans (List.length_filter_le p l) hl
    have a2 := (e₁.trans e₂) _ _ ha
    refine b_go ⟨_, _, .tup _ hl', comp_filt (g := AV.int) (fun i => vs.lookup i == some true) (fun _ _ _ f h => f _ h) trivial hl (fun i hi => .inr ⟨_, a2, ?_⟩) fun y fy => c_lenI (upd_same _ _ _) (hf _) ?_⟩
    · rw [dB_mem]
      cases hv : vs.lookup i with
      | none => exact ⟨(fun q => nomatch q), fun _ => ⟨rfl, rfl, fun q => nomatch q⟩⟩
      | some bb => exact ⟨fun _ => .inr ⟨_, .bool bb, a2, by rw [dB_lookup, hv]; rfl, by cases bb <;> rfl, rfl, fun _ => ⟨rfl, rfl⟩⟩, fun q => nomatch q⟩
    have E := e₂.trans ((Ext.refl _).upd (c := .list (ivs (l.filter fun i => vs.lookup i == some true))) fy)
    have a3 := (e₁.trans E) _ _ ha
    refine b_go ⟨_, _, .tup _ hl', comp_filt (g := AV.int) (fun i => vs.lookup i == some false) (fun _ _ _ f h => f _ h) trivial hl (fun i hi => .inr ⟨_, a3, ?_⟩) fun y2 fy2 => c_lenI (upd_same _ _ _) (hf _) ?_⟩
    · rw [dB_mem]
      cases hv : vs.lookup i with
      | none => exact ⟨(fun q => nomatch q), fun _ => ⟨rfl, rfl, fun q => nomatch q⟩⟩
      | some bb => exact ⟨fun _ => .inr ⟨_, .bool bb, a3, by rw [dB_lookup, hv]; rfl, by cases bb <;> rfl, rfl, fun _ => ⟨rfl, rfl⟩⟩, fun q => nomatch q⟩
    have E2 := E.trans ((Ext.refl _).upd (c := .list (ivs (l.filter fun i => vs.lookup i == some false))) fy2)
    have hh := E2 _ _ hhv
    unfold stepF at ef
    refine b_go (if_prop (l.length ≤ 2 * noN l vs) ⟨two_small, c_lenT hl' ⟨by rw [ivs_len]; exact le_two _ _, rfl⟩⟩ (fun q => b_go ?_) fun q => b_go ?_)
    · rw [if_pos q] at ef
      exact ⟨hh, (0, some (.tup (ivs l)), _, _), rfl, E2, hr, ef⟩
    rw [if_neg q] at ef
    refine if_prop (2 * yesN l vs ≤ l.length) ⟨two_small, c_lenT hl' ⟨by rw [ivs_len]; exact two_le _ _, rfl⟩⟩ (fun q3 => b_go (c_min ?_)) fun q3 => ?_
    · rw [if_pos q3] at ef
      exact ⟨hh, (_, some (.tup (ivs l)), _, _), rfl, E2, hr, ef⟩
    · rw [if_neg q3] at ef
      exact ⟨hh, (_, some (.tup (ivs l)), _, _), rfl, E2, hr, ef⟩
end
theorem LS.Good.valid {s : LS} (G : s.Good) : ValidS s.sets s.au := by
  have z := G.out 0 (.inl (by decide))
  have key : ∀ {i : Int} {p q : Int → Bool}, (∀ a b, Pair a b → s.now i = a → s.was i = b → p i = true → q i = false) → i ∈ asc p → q i = false := fun hk hi => hk _ _ (G.pair _) rfl rfl (mem_asc.mp hi).2
  refine ⟨⟨decide_eq_false (by rw [z.1]; decide), decide_eq_false (by rw [z.2]; decide), decide_eq_false (by rw [z.1]; decide)⟩, fun i hi => ?_, fun i hi => ?_, fun i hi => ?_, fun i hi => ?_, fun i hi => ?_, fun h => ?_⟩
  · have n : s.now i = 3 := of_decide_eq_true (mem_asc.mp hi).2
    refine decide_eq_true ?_
    rcases G.pair i with q | q | q | q | q | q <;> first | exact q.2 | exact absurd (n.symm.trans q.1) (by decide)
  · exact decide_eq_false (by rw [show s.now i = 3 from of_decide_eq_true (mem_asc.mp hi).2]; decide)
  · exact decide_eq_false (by rw [show s.now i = 3 from of_decide_eq_true (mem_asc.mp hi).2]; decide)
  · exact decide_eq_false (by rw [show s.now i = 2 from of_decide_eq_true (mem_asc.mp hi).2]; decide)
  · have n : s.now i = 2 := of_decide_eq_true (mem_asc.mp hi).2
    refine decide_eq_false ?_
    rcases G.pair i with q | q | q | q | q | q <;> first | exact absurd (n.symm.trans q.1) (by decide) | (rw [q.2]; decide)
  cases e : s.au with
  | false => rfl
  | true =>
    exfalso
    obtain ⟨i, hi⟩ := G.auto e
    refine List.ne_nil_of_mem (a := i) (mem_asc.mpr ⟨?_, decide_eq_true hi⟩) h
    rcases Int.lt_or_le i 1 with q | q
    · rw [(G.out i (.inl q)).2] at hi; cases hi
    · rcases Int.lt_or_le 6 i with r | r
      · rw [(G.out i (.inr r)).2] at hi; cases hi
      · exact ⟨Int.le_trans (by decide) q, Int.le_trans r (by decide)⟩
theorem one_in {s : LS} (G : s.Good) : decide ((1 : Int) ∈ tab s.was) = decide (asc s.sets.O ≠ []) := by
  rw [Bool.eq_iff_iff, decide_eq_true_eq, decide_eq_true_eq, tab_mem]
  constructor
  · rintro ⟨i, hi, e⟩
    exact List.ne_nil_of_mem (a := i) (mem_asc.mpr ⟨⟨hi.1, Int.le_trans hi.2 (by decide)⟩, decide_eq_true e⟩)
  · intro h
    obtain ⟨i, hi⟩ := List.exists_mem_of_ne_nil _ h
    obtain ⟨hi, e⟩ := mem_asc.mp hi
    have e : s.was i = 1 := of_decide_eq_true e
    refine ⟨i, ⟨hi.1, ?_⟩, e⟩
    rcases Int.lt_or_le 6 i with r | r
    · rw [(G.out i (.inr r)).2] at e; cases e
    · exact r
theorem eqOk_ivs (n : Nat) (l : List Int) : eqOk (n + 1) (.tup (ivs l)) := List.forall_mem_map.mpr fun _ _ => by cases n <;> trivial
theorem eqOk_row (V O L N : Int → Bool) (au : Bool) : eqOk 6 (rowV V O L N au) := List.forall_mem_cons.mpr ⟨eqOk_ivs 4 _, List.forall_mem_cons.mpr ⟨eqOk_ivs 4 _, List.forall_mem_cons.mpr ⟨eqOk_ivs 4 _, List.forall_mem_cons.mpr ⟨eqOk_ivs 4 _, List.forall_mem_singleton.mpr trivial⟩⟩⟩⟩
theorem Rec.spoilt {K : Addr} {at_ : Addr → Addr → Addr → Addr → Bool → List (Str × AV)} {W W' : Store} {a d v o l x : Addr} {V O L N : Int → Bool} {au : Bool} {D : List Addr} (R : Rec K at_ W a d v o l x V O L N au) (e : ExtS D W W') (h : ∀ b ∈ [a, d, v, o, l, x], b ∉ D) : Rec K at_ W' a d v o l x V O L N au := by
  simp only [List.forall_mem_cons] at h
  obtain ⟨h1, h2, h3, h4, h5, h6, _⟩ := h
  exact ⟨e _ _ h1 R.inst, e _ _ h2 R.attrs, e _ _ h3 R.vs, e _ _ h4 R.os, e _ _ h5 R.ls, e _ _ h6 R.xs, R.nd⟩
theorem some_ne {W : Store} {a : Addr} {c : Cell} (h : W a = some c) : W a ≠ none := fun e => nomatch h.symm.trans e
theorem Rec.some {K : Addr} {at_ : Addr → Addr → Addr → Addr → Bool → List (Str × AV)} {W : Store} {a d v o l x : Addr} {V O L N : Int → Bool} {au : Bool} (R : Rec K at_ W a d v o l x V O L N au) : ∀ b ∈ [a, d, v, o, l, x], W b ≠ none := by
  simp only [List.forall_mem_cons]
  exact ⟨some_ne R.inst, some_ne R.attrs, some_ne R.vs, some_ne R.os, some_ne R.ls, some_ne R.xs, nofun⟩
abbrev CfgL (W₀ W : Store) (a : Addr) (s : LS) : Prop := CfgS W₀ W a s.sets s.au
abbrev rowL (s : LS) : AV := rowV s.sets.V s.sets.O s.sets.L s.sets.N s.au
section
variable {prog : Program} {w : World} {h : Heap} {X : Store → Prop} {Q : AV → Store → Prop} {W W₀ : Store}
theorem m_row {n : Nat} {Y : Store → Prop} {m : Vars} {a : Addr} {V O L N : Int → Bool} {au : Bool} (ok : PxOk (PX prog w h)) (c : Cfg W₀ W a V O L N au) (hQ : Q (rowV V O L N au) W) (hn : 25 ≤ n := by decide) : Meth (PX prog w h) n (.ref a) (Str.ofString "row") (lNil Y m) W Q X :=
  m_cfg c (m_192 w) (fun _ _ _ _ => by kernel_rfl) (c.rec fun _ _ _ _ _ R => (spec_cfg_row ok R hQ).call hn)
theorem memb_iff {s : LS} (G : s.Good) (i : Int) : (decide (s.was i = 1) : Bool) = ((s.sets.V i || s.sets.O i) || s.sets.L i) ∨ s.now i ≠ 0 := by
  rcases G.pair i with q | q | q | q | q | q
  · refine .inl ?_
    show decide (s.was i = 1) = ((decide (s.now i = 1) || decide (s.was i = 1)) || decide (s.now i = 2))
    rw [q.1, q.2]; rfl
  · exact .inr (by rw [q.1]; decide)
  · exact .inr (by rw [q.1]; decide)
  · exact .inr (by rw [q.1]; decide)
  · refine .inl ?_
    show decide (s.was i = 1) = ((decide (s.now i = 1) || decide (s.was i = 1)) || decide (s.now i = 2))
    rw [q.1, q.2]; rfl
  · exact .inr (by rw [q.1]; decide)
theorem memb_ne {s : LS} (G : s.Good) {i : Int} (h : s.now i ≠ 0) : true = ((s.sets.V i || s.sets.O i) || s.sets.L i) := by
  show true = ((decide (s.now i = 1) || decide (s.was i = 1)) || decide (s.now i = 2))
  rcases G.pair i with q | q | q | q | q | q
  · exact absurd q.1 h
  · rw [q.1, q.2]; rfl
  · rw [q.1, q.2]; rfl
  · rw [q.1, q.2]; rfl
  · exact absurd q.1 h
  · rw [q.1, q.2]; rfl
set_option maxHeartbeats 2000000 in
theorem spec_tells (ok : PxOk (PX prog w h)) {c a b : Addr} {s : LS} {vs : List (Int × Bool)} {as : List (Int × Int)} (G : s.Good) (C : CfgL none₀ W c s) (ha : W a = some (.dict (dB vs))) (hb : W b = some (.dict (dI as))) (H : Hd vs as)
    (hQ : ∀ W', Ext W W' → Q (.bool true) W') : CodeOk (PX prog w h) 145 427 [.ref c, stV s, .ref a, .ref b] W Q X := by
  refine g_427 ok (k := 140) rfl ?_
  refine b_go ⟨_, _, _, rfl, b_go (c_fn (keepK _ (by decide)) (spec_row ok G fun W₁ e₁ => ?_))⟩
  refine b_go (if_false_go (m_row ok (C.ext e₁) ⟨rfl, eqOk_row _ _ _ _ _, (fun q => nomatch q), fun _ => m_joint ok (C.ext e₁) ⟨_, rfl, ?_, rfl⟩⟩) ?_)
  · rw [one_in G]; exact bne_self_eq_false _
  refine b_go (if_mid (fun t W' => t = false ∧ Ext W W') (c_fn (keepK _ (by decide)) (spec_counts ok (C.ext e₁) (e₁ _ _ ha) (e₁ _ _ hb) H fun W₂ e₂ => ⟨rfl, e₁.trans e₂⟩)) (fun _ q => nomatch q.1) fun W₂ q => ?_)
  have e₂ := q.2
  clear q e₁
  -- the voters
  refine b_go (m_cfg (C.ext e₂) (m_213 w) (fun _ _ _ _ => by kernel_rfl) ((C.ext e₂).rec fun _ _ _ _ _ R2 => (spec_all_voters ok R2 fun r W₃ e₃ fr hr => ?_).call (by decide)))
  clear R2
  have out : ∀ i, (i < 1 ∨ 6 < i) → (s.sets.V i || s.sets.O i) = false := fun i hi => by show (decide _ || decide _) = false; rw [(G.out i hi).1, (G.out i hi).2]; rfl
  refine b_go (if_mid (fun t W' => t = false ∧ Ext W₃ W') ⟨_, _, .tup _ (by decide), comp_six (fun i => s.sets.V i || s.sets.O i) out (fun _ _ _ f h => f _ h) (fun i i0 i6 => ⟨.int (s.now i), i0, Int.lt_of_le_of_lt i6 (by decide), tab_get _ i i0 i6, fun q => ⟨?_, rfl, fun _ => ⟨rfl, rfl⟩⟩, fun q => ⟨.int (s.was i), i0, Int.lt_of_le_of_lt i6 (by decide), tab_get _ i i0 i6, ?_, rfl, fun _ => ⟨rfl, rfl⟩⟩⟩) fun r2 f2 => ?_⟩ (fun _ q => nomatch q.1) fun W₄ q => ?_)
  · show true = (decide (s.now i = 1) || _); rw [q]; rfl
  · show _ = (decide (s.now i = 1) || _); rw [q]; rfl
  · have e4 := (Ext.refl W₃).upd (c := .list (ivs (asc fun i => s.sets.V i || s.sets.O i))) f2
    exact .inl ⟨_, e4 _ _ hr, upd_same _ _ _, rfl, e4⟩
  have hr4 := q.2 _ _ hr
  refine b_go (m_app hr4 ⟨_, _, rfl, hr4, asc_k _, rfl, ?_⟩)
  have e₅ := ((e₂.trans e₃).trans q.2).upd (c := .list (ivs (asc fun i => s.sets.V i || s.sets.O i) ++ [.int 8])) (e₂.none fr)
  clear q e₂ e₃ hr fr hr4
  generalize upd W₄ r (.list (ivs (asc fun i => s.sets.V i || s.sets.O i) ++ [.int 8])) = W₅ at *
  -- the members
  refine b_go (m_cfg (C.ext e₅) (m_220 w) (fun _ _ _ _ => by kernel_rfl) ((C.ext e₅).rec fun _ _ _ _ _ R2 => (spec_members ok R2 fun r3 W₆ e₆ fr hr => ?_).call (by decide)))
  clear R2
  have out : ∀ i, (i < 1 ∨ 6 < i) → ((s.sets.V i || s.sets.O i) || s.sets.L i) = false := fun i hi => by show ((decide _ || decide _) || decide _) = false; rw [(G.out i hi).1, (G.out i hi).2]; rfl
  refine b_go (if_mid (fun t W' => t = false ∧ Ext W₆ W') ⟨_, _, .tup _ (by decide), comp_six (fun i => (s.sets.V i || s.sets.O i) || s.sets.L i) out (fun _ _ _ f h => f _ h) (fun i i0 i6 => ⟨.int (s.now i), i0, Int.lt_of_le_of_lt i6 (by decide), tab_get _ i i0 i6, fun q => ⟨memb_ne G (of_decide_eq_true q), rfl, fun _ => ⟨rfl, rfl⟩⟩, fun q => ⟨.int (s.was i), i0, Int.lt_of_le_of_lt i6 (by decide), tab_get _ i i0 i6, (memb_iff G i).resolve_right (of_decide_eq_false q), rfl, fun _ => ⟨rfl, rfl⟩⟩⟩) fun r2 f2 => ?_⟩ (fun _ q => nomatch q.1) fun W₇ q => ?_)
  · have e4 := (Ext.refl W₆).upd (c := .list (ivs (asc fun i => (s.sets.V i || s.sets.O i) || s.sets.L i))) f2
    exact .inl ⟨_, e4 _ _ hr, upd_same _ _ _, rfl, e4⟩
  have hr7 := q.2 _ _ hr
  refine b_go (m_app hr7 ⟨_, _, rfl, hr7, asc_k _, rfl, ?_⟩)
  have e₈ := ((e₅.trans e₆).trans q.2).upd (c := .list (ivs (asc fun i => (s.sets.V i || s.sets.O i) || s.sets.L i) ++ [.int 8])) (e₅.none fr)
  clear q e₅ e₆ hr fr hr7
  generalize upd W₇ r3 (.list (ivs (asc fun i => (s.sets.V i || s.sets.O i) || s.sets.L i) ++ [.int 8])) = W₈ at *
  -- the ConfState
  refine b_go (m_cfg (C.ext e₈) (m_241 w) (fun _ _ _ _ => by kernel_rfl) ((C.ext e₈).rec fun _ _ _ _ _ R2 => (spec_conf_state ok R2 fun t W₉ e₉ ct => ?_).call (by decide)))
  clear R2
  obtain ⟨td, tv, to, tl, tx, RT, FT⟩ := id ct
  refine b_go (if_false_go (m_meth RT.inst RT.attrs (c_101 w) (m_91 w) (by kernel_rfl) ((spec_st_row ok RT ⟨_, by decide, by decide, rfl, _, by decide, by decide, rfl, _, by decide, by decide, rfl, _, by decide, by decide, rfl, _, by decide, by decide, rfl, rfl, eqOk_row _ _ _ _ _, rfl, rfl⟩).call (by decide))) ?_)
  refine b_go (c_fn (keepK _ (by decide)) (spec_config_of ok ct G.valid fun u W₁₀ e₁₀ cu => ?_))
  obtain ⟨ud, uv, uo, ul, ux, RU, FU⟩ := cu
  refine b_go (c_fn (keepK _ (by decide)) (spec_spoilS ok (RT.ext e₁₀) fun W₁₁ e₁₁ => ⟨rfl, ?_⟩))
  have E11 := e₁₁.old (e₈.trans (e₉.trans e₁₀)) (fun b hb => e₈.none (FT b (.tail _ (.tail _ hb))))
  have RU1 := RU.spoilt e₁₁ (fun b hb hb2 => RT.some b (.tail _ (.tail _ hb2)) (FU b hb))
  have cu : Cfg none₀ W₁₁ u s.sets.V s.sets.O s.sets.L s.sets.N s.au := ⟨_, _, _, _, _, RU1, fun _ _ => rfl⟩
  refine b_go (if_false_go (m_row ok cu ⟨rfl, eqOk_row _ _ _ _ _, rfl, rfl⟩) ?_)
  refine b_go (c_fn (keepK _ (by decide)) (spec_spoil ok RU1 fun W₁₂ e₁₂ => ⟨rfl, ?_⟩))
  have E12 := e₁₂.old E11 (fun b hb => (e₈.trans e₉).none (FU b (.tail _ (.tail _ hb))))
  exact b_go (m_row ok (C.ext E12) ⟨rfl, eqOk_row _ _ _ _ _, hQ _ E12⟩)
end
theorem six_mem {i : Int} (a : 1 ≤ i) (b : i ≤ 6) : i ∈ six :=
  (seven (P := fun i => i = 0 ∨ i ∈ six) (.inl rfl) (by decide) (by decide) (by decide) (by decide) (by decide) (by decide) i (Int.le_trans (by decide) a) b).resolve_left fun e => absurd a (by rw [e]; decide)
/-! ### the plain table, and that a Changer keeps to it -/
noncomputable def nr (k hf : Int) : Int := if k = 0 then 1 else if k = 3 then 2 + hf else 0
noncomputable def words (ps : List (Int × Int)) (i : Int) : List Int := (ps.filter fun p => decide (p.2 = i) && decide (p.1 ≠ 2)).map (·.1)
noncomputable def LS.half (s : LS) (what : Int) (i : Int) : Int := if what = 1 then (if s.now i = 1 then 1 else 0) else s.was i
noncomputable def LS.role (s : LS) (what : Int) (ps : List (Int × Int)) (i : Int) : Int := match (words ps i).getLast? with
  | none => s.now i
  | some w => nr w (s.half what i)
noncomputable def LS.new (s : LS) (what : Int) (ps : List (Int × Int)) (i : Int) : Int := if 1 ≤ i ∧ i ≤ 6 then s.role what ps i else 0
noncomputable def LS.moved (s : LS) (what : Int) (ps : List (Int × Int)) : Nat := (six.filter fun i => decide (s.role what ps i = 1) != decide (s.now i = 1)).length
noncomputable def LS.bad (ps : List (Int × Int)) : Bool := six.any fun i => decide ((4 : Int) ∈ words ps i)
noncomputable def LS.after (s : LS) (what : Int) (fl : Bool) (ps : List (Int × Int)) : Option LS :=
  if (1 : Int) ∉ tab s.now then none else if decide ((1 : Int) ∈ tab s.was) ≠ decide (what = 2) then none
  else if what = 2 then some ⟨fun i => if s.now i = 3 then 2 else s.now i, fun _ => 0, false⟩
  else if LS.bad ps = true then none else if (1 : Int) ∉ tab (s.new what ps) then none else if what = 0 ∧ 1 < s.moved what ps then none
  else some ⟨s.new what ps, s.half what, decide (what = 1) && fl⟩

noncomputable def mkS (hf r : Int → Int) : Sets := ⟨fun i => decide (r i = 1), fun i => decide (hf i = 1), fun i => decide (r i = 2), fun i => decide (r i = 3)⟩
theorem sets_mk (s : LS) : s.sets = mkS s.was s.now := rfl
noncomputable def nextR (hf r : Int → Int) (p : Int × Int) : Int → Int := if p.2 = 0 ∨ p.1 = 2 then r else fun i => if i = p.2 then nr p.1 (hf i) else r i
theorem pair_hf {a b : Int} (h : Pair a b) : b = 0 ∨ b = 1 := by
  rcases h with q | q | q | q | q | q <;> first | exact .inl q.2 | exact .inr q.2
theorem P10 : Pair 1 0 := .inr (.inl ⟨rfl, rfl⟩)
theorem P20 : Pair 2 0 := .inr (.inr (.inl ⟨rfl, rfl⟩))
theorem P00 : Pair 0 0 := .inl ⟨rfl, rfl⟩
theorem P11 : Pair 1 1 := .inr (.inr (.inr (.inl ⟨rfl, rfl⟩)))
theorem P01 : Pair 0 1 := .inr (.inr (.inr (.inr (.inl ⟨rfl, rfl⟩))))
theorem P31 : Pair 3 1 := .inr (.inr (.inr (.inr (.inr ⟨rfl, rfl⟩))))
theorem nr_pair {k b : Int} (h : b = 0 ∨ b = 1) : Pair (nr k b) b := by
  unfold nr
  split
  · exact h.elim (fun e => e ▸ P10) fun e => e ▸ P11
  · split
    · exact h.elim (fun e => e ▸ P20) fun e => e ▸ P31
    · exact h.elim (fun e => e ▸ P00) fun e => e ▸ P01
theorem next_at {hf r : Int → Int} {p : Int × Int} (h : ¬(p.2 = 0 ∨ p.1 = 2)) : nextR hf r p = fun i => if i = p.2 then nr p.1 (hf p.2) else r i := funext fun i => by
  unfold nextR
  rw [if_neg h]
  show (if i = p.2 then nr p.1 (hf i) else r i) = _
  split
  · rename_i e; rw [e]
  · rfl
theorem mkS_of {hf f : Int → Int} {V L N : Int → Bool} (hV : ∀ i, V i = decide (f i = 1)) (hL : ∀ i, L i = decide (f i = 2)) (hN : ∀ i, N i = decide (f i = 3)) : Sets.mk V (fun i => decide (hf i = 1)) L N = mkS hf f := by
  rw [funext hV, funext hL, funext hN]; rfl
theorem up_and (r : Int → Int) (n : Int) {v c : Int} (h : v ≠ c) (i : Int) : (decide (i ≠ n) && decide (r i = c)) = decide ((if i = n then v else r i) = c) := by
  by_cases e : i = n
  · rw [if_pos e, decide_eq_false h, decide_eq_false (fun q => q e)]; rfl
  · rw [if_neg e, decide_eq_true e]; rfl
theorem up_or (r : Int → Int) (n c i : Int) : (decide (r i = c) || decide (i = n)) = decide ((if i = n then c else r i) = c) := by
  by_cases e : i = n
  · rw [if_pos e, decide_eq_true e, decide_eq_true rfl, Bool.or_true]
  · rw [if_neg e, decide_eq_false e, Bool.or_false]
theorem up_andor (r : Int → Int) (n c i : Int) : ((decide (i ≠ n) && decide (r i = c)) || decide (i = n)) = decide ((if i = n then c else r i) = c) := by
  by_cases e : i = n
  · rw [if_pos e, decide_eq_true e, decide_eq_true rfl, Bool.or_true]
  · rw [if_neg e, decide_eq_false e, Bool.or_false, decide_eq_true e]; rfl
theorem lea_is {hf r : Int → Int} {n : Int} (h : Pair (r n) (hf n)) : (mkS hf r).lea n = mkS hf fun i => if i = n then 2 + hf n else r i := by
  unfold Sets.lea
  by_cases h2 : r n = 2
  · have h0 : hf n = 0 := by rcases h with q | q | q | q | q | q <;> first | exact q.2 | exact absurd (h2.symm.trans q.1) (by decide)
    rw [if_pos (show (mkS hf r).L n = true from decide_eq_true h2), h0]
    refine congrArg (mkS hf) (funext fun i => ?_)
    split
    · rename_i e; rw [e, h2]; rfl
    · rfl
  · rw [if_neg (show ¬ (mkS hf r).L n = true from fun q => h2 (of_decide_eq_true q))]
    rcases pair_hf h with h1 | h1
    · rw [if_neg (show ¬ (mkS hf r).O n = true from fun q => absurd (h1.symm.trans (of_decide_eq_true q)) (by decide)), h1]
      exact mkS_of (up_and r n (by decide)) (up_andor r n 2) (up_and r n (by decide))
    · rw [if_pos (show (mkS hf r).O n = true from decide_eq_true h1), h1]
      exact mkS_of (up_and r n (by decide)) (up_and r n (by decide)) (up_andor r n 3)
theorem one_is {hf r : Int → Int} (H : ∀ i, Pair (r i) (hf i)) {p : Int × Int} (hp : stepOk p) : (mkS hf r).one p = if p.2 ≠ 0 ∧ p.1 = 4 then none else some (mkS hf (nextR hf r p)) := by
  unfold Sets.one
  by_cases hn : p.2 = 0
  · rw [if_pos hn, if_neg (fun q => q.1 hn), nextR, if_pos (.inl hn)]
  rw [if_neg hn]
  have n4 : ∀ {k : Int}, p.1 = k → k ≠ 4 → ¬ (p.2 ≠ 0 ∧ p.1 = 4) := fun e h q => h (e.symm.trans q.2)
  have nx : ∀ {k : Int}, p.1 = k → k ≠ 2 → nextR hf r p = fun i => if i = p.2 then nr k (hf p.2) else r i := fun e h => by rw [next_at (fun q => q.elim hn fun z => h (e.symm.trans z)), e]
  by_cases k0 : p.1 = 0
  · rw [if_pos k0, if_neg (n4 k0 (by decide)), nx k0 (by decide)]
    exact congrArg _ (mkS_of (up_or r p.2 1) (up_and r p.2 (v := 1) (by decide)) (up_and r p.2 (v := 1) (by decide)))
  rw [if_neg k0]
  by_cases k3 : p.1 = 3
  · rw [if_pos k3, if_neg (n4 k3 (by decide)), nx k3 (by decide)]
    exact congrArg _ (lea_is (H _))
  rw [if_neg k3]
  by_cases k1 : p.1 = 1
  · rw [if_pos k1, if_neg (n4 k1 (by decide)), nx k1 (by decide)]
    exact congrArg _ (mkS_of (up_and r p.2 (v := 0) (by decide)) (up_and r p.2 (v := 0) (by decide)) (up_and r p.2 (v := 0) (by decide)))
  rw [if_neg k1]
  by_cases k2 : p.1 = 2
  · rw [if_neg (not_not_intro k2), if_neg (n4 k2 (by decide)), nextR, if_pos (.inr k2)]
  · rw [if_pos k2, if_pos ⟨hn, by obtain ⟨a, b, _⟩ := hp; omega⟩]
theorem next_pair {hf r : Int → Int} (H : ∀ i, Pair (r i) (hf i)) (p : Int × Int) : ∀ i, Pair (nextR hf r p i) (hf i) := fun i => by
  unfold nextR
  split
  · exact H i
  · show Pair (if i = p.2 then nr p.1 (hf i) else r i) (hf i)
    split
    · exact nr_pair (pair_hf (H i))
    · exact H i
theorem all_is {hf : Int → Int} : ∀ (ps : List (Int × Int)) (r : Int → Int), (∀ i, Pair (r i) (hf i)) → (∀ p ∈ ps, stepOk p) →
    (mkS hf r).all ps = if ps.any (fun p => decide (p.2 ≠ 0 ∧ p.1 = 4)) = true then none else some (mkS hf (ps.foldl (nextR hf) r))
  | [], r, H, hp => rfl
  | p :: ps, r, H, hp => by
    obtain ⟨h1, h2⟩ := List.forall_mem_cons.mp hp
    have ih := all_is ps (nextR hf r p) (next_pair H p) h2
    show ((mkS hf r).one p).bind (fun t => t.all ps) = _
    rw [one_is H h1, List.any_cons]
    by_cases q : p.2 ≠ 0 ∧ p.1 = 4
    · rw [if_pos q, decide_eq_true q]; rfl
    · rw [if_neg q, decide_eq_false q, Bool.false_or]
      exact ih
theorem words_cons (p : Int × Int) (ps : List (Int × Int)) (i : Int) : words (p :: ps) i = if p.2 = i ∧ p.1 ≠ 2 then p.1 :: words ps i else words ps i := by
  unfold words
  rw [List.filter_cons]
  by_cases h : p.2 = i ∧ p.1 ≠ 2
  · rw [if_pos h, if_pos (by simp [h])]; rfl
  · rw [if_neg h, if_neg (by simpa using h)]
theorem fold_is {hf : Int → Int} : ∀ (ps : List (Int × Int)) (r : Int → Int) (i : Int), ps.foldl (nextR hf) r i = if i = 0 then r i else match (words ps i).getLast? with | none => r i | some w => nr w (hf i)
  | [], r, i => by simp [words]
  | p :: ps, r, i => by
    rw [List.foldl_cons, fold_is ps, words_cons]
    by_cases h0 : i = 0
    · rw [if_pos h0, if_pos h0]
      unfold nextR
      by_cases h : p.2 = 0 ∨ p.1 = 2
      · rw [if_pos h]
      · rw [if_neg h]
        have : i ≠ p.2 := fun e => h (.inl (by omega))
        simp only [this, if_false]
    · rw [if_neg h0, if_neg h0]
      unfold nextR
      by_cases h : p.2 = i ∧ p.1 ≠ 2
      · rw [if_pos h, if_neg (by omega), List.getLast?_cons]
        cases (words ps i).getLast? with
        | none => simp [h.1]
        | some w => simp
      · rw [if_neg h]
        cases (words ps i).getLast? with
        | some w => rfl
        | none =>
          show (if p.2 = 0 ∨ p.1 = 2 then r else _) i = r i
          by_cases h' : p.2 = 0 ∨ p.1 = 2
          · rw [if_pos h']
          · rw [if_neg h']
            have : i ≠ p.2 := fun e => h ⟨e.symm, fun z => h' (.inr z)⟩
            simp only [this, if_false]
theorem bad_is {ps : List (Int × Int)} (hp : ∀ p ∈ ps, stepOk p) : ps.any (fun p => decide (p.2 ≠ 0 ∧ p.1 = 4)) = LS.bad ps := by
  rw [Bool.eq_iff_iff]
  unfold LS.bad
  rw [List.any_eq_true, List.any_eq_true]
  constructor
  · rintro ⟨p, h1, h2⟩
    have h2 := of_decide_eq_true h2
    obtain ⟨_, _, a, b⟩ := hp p h1
    refine ⟨p.2, six_mem (by omega) b, decide_eq_true ?_⟩
    unfold words
    exact List.mem_map.mpr ⟨p, List.mem_filter.mpr ⟨h1, by simp [h2]⟩, h2.2⟩
  · rintro ⟨i, h1, h2⟩
    have h2 := of_decide_eq_true h2
    unfold words at h2
    obtain ⟨p, h3, h4⟩ := List.mem_map.mp h2
    obtain ⟨h5, h6⟩ := List.mem_filter.mp h3
    obtain ⟨i1, _⟩ := mem_six h1
    simp only [Bool.and_eq_true, decide_eq_true_eq] at h6
    exact ⟨p, h5, decide_eq_true ⟨by omega, h4⟩⟩
theorem one_tab {f : Int → Int} (h : ∀ i, (i < 1 ∨ 6 < i) → f i = 0) : (1 : Int) ∈ tab f ↔ asc (fun i => decide (f i = 1)) ≠ [] := by
  rw [tab_mem]
  constructor
  · rintro ⟨i, hi, e⟩ q
    have : i ∈ asc (fun i => decide (f i = 1)) := mem_asc.mpr ⟨by omega, by simp [e]⟩
    rw [q] at this; cases this
  · intro q
    obtain ⟨i, hi⟩ := List.exists_mem_of_ne_nil _ q
    obtain ⟨hi, e⟩ := mem_asc.mp hi
    have e : f i = 1 := by simpa using e
    refine ⟨i, ?_, e⟩
    rcases Int.lt_or_le i 1 with z | z
    · have := h i (.inl z); omega
    · rcases Int.lt_or_le 6 i with y | y
      · have := h i (.inr y); omega
      · omega
theorem xor_len (p q : Int → Bool) : ∀ l : List Int, (l.filter fun i => !q i && p i).length + (l.filter fun i => !p i && q i).length = (l.filter fun i => q i != p i).length
  | [] => rfl
  | i :: l => by
    have ih := xor_len p q l
    simp only [List.filter_cons]
    generalize l.filter (fun i => !q i && p i) = A at *
    generalize l.filter (fun i => !p i && q i) = B at *
    generalize l.filter (fun i => q i != p i) = C at *
    cases p i <;> cases q i <;> simp <;> omega
theorem apart_is {p q : Int → Bool} (hp : ∀ i, (i < 1 ∨ 6 < i) → p i = false) (hq : ∀ i, (i < 1 ∨ 6 < i) → q i = false) : apart p q = (six.filter fun i => q i != p i).length := by
  unfold apart
  rw [← asc_six hp, ← asc_six hq, List.filter_filter, List.filter_filter]
  exact xor_len p q six
noncomputable def outR (q : Option LS) : Option (Sets × Bool) := q.map fun u => (u.sets, u.au)
theorem new_out {s : LS} {what : Int} {ps : List (Int × Int)} : ∀ i, (i < 1 ∨ 6 < i) → s.new what ps i = 0 := fun i h => by
  unfold LS.new
  rw [if_neg (by omega)]
theorem was_not {s : LS} (G : s.Good) (h : (1 : Int) ∉ tab s.was) (i : Int) : s.was i ≠ 1 := fun z => by
  have h2 := one_tab (f := s.was) (fun i h => (G.out i h).2)
  refine h (h2.mpr (List.ne_nil_of_mem (a := i) (mem_asc.mpr ⟨?_, decide_eq_true z⟩)))
  rcases Int.lt_or_le i 1 with q | q
  · rw [(G.out i (.inl q)).2] at z; cases z
  · rcases Int.lt_or_le 6 i with r | r
    · rw [(G.out i (.inr r)).2] at z; cases z
    · exact ⟨Int.le_trans (by decide) q, Int.le_trans r (by decide)⟩
theorem half_pair {s : LS} (G : s.Good) {what : Int} (h : what = 1 → (1 : Int) ∉ tab s.was) : ∀ i, Pair (s.now i) (s.half what i) := fun i => by
  have hp := G.pair i
  unfold LS.half
  by_cases e : what = 1
  · rw [if_pos e]
    have hw := was_not G (h e) i
    rcases hp with q | q | q | q | q | q
    · rw [q.1]; exact P00
    · rw [q.1]; exact P11
    · rw [q.1]; exact P20
    all_goals exact absurd q.2 hw
  · rw [if_neg e]; exact hp
theorem new_fold {s : LS} (G : s.Good) {what : Int} {ps : List (Int × Int)} (hp : ∀ p ∈ ps, stepOk p) : ps.foldl (nextR (s.half what)) s.now = s.new what ps := by
  funext i
  rw [fold_is]
  unfold LS.new LS.role
  by_cases h : 1 ≤ i ∧ i ≤ 6
  · rw [if_pos h, if_neg (by omega)]
  · rw [if_neg h]
    have h0 := (G.out i (by omega)).1
    split
    · exact h0
    · have : words ps i = [] := by
        unfold words
        rw [List.map_eq_nil_iff, List.filter_eq_nil_iff]
        intro p hpp
        have := (hp p hpp).2.2
        simp only [Bool.and_eq_true, decide_eq_true_eq, not_and]
        omega
      rw [this]
      exact h0
theorem new_pair {s : LS} (G : s.Good) {what : Int} {ps : List (Int × Int)} (h : what = 1 → (1 : Int) ∉ tab s.was) (hp : ∀ p ∈ ps, stepOk p) : ∀ i, Pair (s.new what ps i) (s.half what i) := by
  rw [← new_fold G hp]
  have : ∀ (ps : List (Int × Int)) (r : Int → Int), (∀ i, Pair (r i) (s.half what i)) → ∀ i, Pair (ps.foldl (nextR (s.half what)) r i) (s.half what i) := fun ps => by
    induction ps with
    | nil => exact fun r H => H
    | cons p ps ih => exact fun r H => ih _ (next_pair H p)
  exact this ps _ (half_pair G h)
theorem half_out {s : LS} (G : s.Good) {what : Int} : ∀ i, (i < 1 ∨ 6 < i) → s.half what i = 0 := fun i h => by
  unfold LS.half
  have := G.out i h
  split
  · rw [if_neg (by omega)]
  · exact this.2
theorem after_good {s t : LS} (G : s.Good) {what : Int} {fl : Bool} {ps : List (Int × Int)} (hp : ∀ p ∈ ps, stepOk p) (h : s.after what fl ps = some t) : t.Good := by
  unfold LS.after at h
  by_cases h1 : (1 : Int) ∉ tab s.now
  · rw [if_pos h1] at h; cases h
  rw [if_neg h1] at h
  by_cases h2 : decide ((1 : Int) ∈ tab s.was) ≠ decide (what = 2)
  · rw [if_pos h2] at h; cases h
  rw [if_neg h2] at h
  by_cases h3 : what = 2
  · rw [if_pos h3] at h
    cases h
    refine ⟨fun i hi => ?_, fun i => ?_, fun q => by cases q⟩
    · have := (G.out i hi).1
      refine ⟨?_, rfl⟩
      show (if s.now i = 3 then 2 else s.now i) = 0
      rw [this]; rfl
    · have := G.pair i
      show Pair (if s.now i = 3 then 2 else s.now i) 0
      rcases this with q | q | q | q | q | q <;> rw [q.1] <;> first | exact P00 | exact P10 | exact P20
  rw [if_neg h3] at h
  have hw : (1 : Int) ∉ tab s.was := fun q => h2 (by simp [q, h3])
  split at h
  · cases h
  split at h
  · cases h
  split at h
  · cases h
  cases h
  refine ⟨fun i hi => ⟨new_out i hi, half_out G i hi⟩, new_pair G (fun _ => hw) hp, fun q => ?_⟩
  have q1 : what = 1 := by
    have := (Bool.and_eq_true _ _).mp q
    exact of_decide_eq_true this.1
  obtain ⟨i, _, e⟩ := (tab_mem _ _).mp (Classical.not_not.mp h1)
  exact ⟨i, by show s.half what i = 1; unfold LS.half; rw [if_pos q1, if_pos e]⟩
theorem leave_is {s : LS} (G : s.Good) (fl : Bool) (ps : List (Int × Int)) : s.sets.leave = outR (s.after 2 fl ps) := by
  unfold Sets.leave LS.after
  have hO := one_tab (f := s.was) fun i h => (G.out i h).2
  have hV := one_tab (f := s.now) fun i h => (G.out i h).1
  show (if asc (fun i => decide (s.was i = 1)) = [] then none else if asc (fun i => decide (s.now i = 1)) = [] then none else _) = _
  by_cases h1 : (1 : Int) ∈ tab s.now
  · rw [if_neg (not_not_intro h1)]
    by_cases h2 : (1 : Int) ∈ tab s.was
    · rw [if_neg (hO.mp h2), if_neg (hV.mp h1), if_neg (by simp [h2]), if_pos rfl]
      unfold outR
      simp only [Option.map_some, LS.sets]
      congr 2
      congr 1
      · funext i
        by_cases e : s.now i = 3 <;> simp [e]
      · funext i
        by_cases e : s.now i = 3 <;> simp [e]
      · funext i
        by_cases e : s.now i = 3 <;> simp [e]
    · rw [if_pos (Classical.not_not.mp (mt hO.mpr h2)), if_pos (by simp [h2])]; rfl
  · rw [if_pos h1]
    by_cases h2 : asc (fun i => decide (s.was i = 1)) = []
    · rw [if_pos h2]; rfl
    · rw [if_neg h2, if_pos (Classical.not_not.mp (mt hV.mpr h1))]; rfl
theorem simple_is {s : LS} (G : s.Good) (fl : Bool) {ps : List (Int × Int)} (hp : ∀ p ∈ ps, stepOk p) : s.sets.simple s.au ps = outR (s.after 0 fl ps) := by
  unfold Sets.simple LS.after
  have hO := one_tab (f := s.was) fun i h => (G.out i h).2
  have hV := one_tab (f := s.now) fun i h => (G.out i h).1
  have hN := one_tab (f := s.new 0 ps) new_out
  have hhalf : s.half 0 = s.was := funext fun i => rfl
  have hall : s.sets.all ps = if LS.bad ps = true then none else some (mkS s.was (s.new 0 ps)) := by
    rw [sets_mk, all_is ps s.now G.pair hp, bad_is hp, ← new_fold G hp, hhalf]
  show (if asc (fun i => decide (s.was i = 1)) ≠ [] then none else if asc (fun i => decide (s.now i = 1)) = [] then none else _) = _
  by_cases h1 : (1 : Int) ∈ tab s.now
  · rw [if_neg (not_not_intro h1), if_neg (hV.mp h1)]
    by_cases h2 : (1 : Int) ∈ tab s.was
    · rw [if_pos (hO.mp h2), if_pos (by simp [h2])]; rfl
    · rw [if_neg (mt hO.mpr h2), if_neg (by simp [h2]), if_neg (by decide), hall]
      by_cases h3 : LS.bad ps = true
      · rw [if_pos h3, if_pos h3]; rfl
      · rw [if_neg h3, if_neg h3]
        have hap : apart s.sets.V (mkS s.was (s.new 0 ps)).V = s.moved 0 ps := by
          rw [apart_is (fun i hi => by simp [LS.sets, (G.out i hi).1]) (fun i hi => by simp [mkS, new_out i hi])]
          unfold LS.moved
          refine congrArg List.length (List.filter_congr fun i hi => ?_)
          show (decide (s.new 0 ps i = 1) != decide (s.now i = 1)) = _
          rw [show s.new 0 ps i = s.role 0 ps i from if_pos (mem_six hi)]
        show (if asc (fun i => decide (s.new 0 ps i = 1)) = [] then none else if 1 < apart s.sets.V (mkS s.was (s.new 0 ps)).V then none else _) = _
        rw [hap]
        by_cases h4 : (1 : Int) ∈ tab (s.new 0 ps)
        · rw [if_neg (hN.mp h4), if_neg (not_not_intro h4)]
          by_cases h5 : 1 < s.moved 0 ps
          · rw [if_pos h5, if_pos ⟨rfl, h5⟩]; rfl
          · rw [if_neg h5, if_neg (by simp [h5])]
            have hau : s.au = false := by
              cases e : s.au with
              | false => rfl
              | true =>
                have := G.valid.au (Classical.not_not.mp (mt hO.mpr h2))
                rw [e] at this; exact this
            unfold outR
            simp only [Option.map_some, LS.sets, hhalf, hau]
            rfl
        · rw [if_pos (Classical.not_not.mp (mt hN.mpr h4)), if_pos h4]; rfl
  · rw [if_pos h1]
    split
    · rfl
    · rw [if_pos (Classical.not_not.mp (mt hV.mpr h1))]; rfl
theorem enter_is {s : LS} (G : s.Good) (fl : Bool) {ps : List (Int × Int)} (hp : ∀ p ∈ ps, stepOk p) : s.sets.enter fl ps = outR (s.after 1 fl ps) := by
  unfold Sets.enter LS.after
  have hO := one_tab (f := s.was) fun i h => (G.out i h).2
  have hV := one_tab (f := s.now) fun i h => (G.out i h).1
  have hN := one_tab (f := s.new 1 ps) new_out
  show (if asc (fun i => decide (s.was i = 1)) ≠ [] then none else if asc (fun i => decide (s.now i = 1)) = [] then none else _) = _
  by_cases h1 : (1 : Int) ∈ tab s.now
  · rw [if_neg (not_not_intro h1), if_neg (hV.mp h1)]
    by_cases h2 : (1 : Int) ∈ tab s.was
    · rw [if_pos (hO.mp h2), if_pos (by simp [h2])]; rfl
    · rw [if_neg (mt hO.mpr h2), if_neg (by simp [h2]), if_neg (by decide)]
      have hm : Sets.mk s.sets.V s.sets.V s.sets.L s.sets.N = mkS (s.half 1) s.now := by
        unfold mkS LS.sets LS.half
        congr 1
        funext i
        by_cases e : s.now i = 1 <;> simp [e]
      have hall : (Sets.mk s.sets.V s.sets.V s.sets.L s.sets.N).all ps = if LS.bad ps = true then none else some (mkS (s.half 1) (s.new 1 ps)) := by
        rw [hm, all_is ps s.now (half_pair G fun _ => h2) hp, bad_is hp, ← new_fold G hp]
      rw [hall]
      by_cases h3 : LS.bad ps = true
      · rw [if_pos h3, if_pos h3]; rfl
      · rw [if_neg h3, if_neg h3]
        show (if asc (fun i => decide (s.new 1 ps i = 1)) = [] then none else _) = _
        by_cases h4 : (1 : Int) ∈ tab (s.new 1 ps)
        · rw [if_neg (hN.mp h4), if_neg (not_not_intro h4), if_neg (by simp)]
          unfold outR
          simp only [Option.map_some]
          rfl
        · rw [if_pos (Classical.not_not.mp (mt hN.mpr h4)), if_pos h4]; rfl
  · rw [if_pos h1]
    split
    · rfl
    · rw [if_pos (Classical.not_not.mp (mt hV.mpr h1))]; rfl
def resV : Option LS → AV
  | none => .none
  | some t => stV t
def preV (ps : List (Int × Int)) : AV := .tup (ps.map prV)
theorem words_ok {ps : List (Int × Int)} (hp : ∀ p ∈ ps, stepOk p) {i w : Int} (h : w ∈ words ps i) : 0 ≤ w ∧ w ≤ 4 ∧ w ≠ 2 := by
  obtain ⟨p, h1, e⟩ := List.mem_map.mp h
  obtain ⟨h3, h4⟩ := List.mem_filter.mp h1
  obtain ⟨a, b, _⟩ := hp p h3
  subst e
  exact ⟨a, b, of_decide_eq_true ((Bool.and_eq_true _ _).mp h4).2⟩
theorem words_len {ps : List (Int × Int)} (i : Int) : (words ps i).length ≤ ps.length := by
  unfold words
  rw [List.length_map]
  exact List.length_filter_le _ _
theorem filter_snoc (p : Int → Bool) (l : List Int) (i : Int) : ((l ++ [i]).filter p).length = (l.filter p).length + (if p i = true then 1 else 0) := by
  rw [List.filter_append, List.length_append]
  by_cases h : p i = true
  · rw [if_pos h, List.filter_cons_of_pos h]; rfl
  · rw [if_neg h, List.filter_cons_of_neg h]; rfl
theorem tab_z (f : Int → Int) : (ivs (tab f)).length ≤ 1000 := Nat.le_of_ble_eq_true rfl
theorem bne_dec (x y : Bool) : (x != y) = decide (x ≠ y) := by cases x <;> cases y <;> rfl
theorem dec_or {p q : Prop} [Decidable p] [Decidable q] (h : ¬p) : decide (p ∨ q) = decide q := decide_eq_decide.mpr (or_iff_right h)
theorem or_if {A B : Prop} [Decidable A] [Decidable B] {α : Type} (x y : α) : (if A then x else if B then x else y) = if A ∨ B then x else y := by
  by_cases a : A
  · rw [if_pos a, if_pos (.inl a)]
  · rw [if_neg a]
    by_cases b : B
    · rw [if_pos b, if_pos (.inr b)]
    · rw [if_neg b, if_neg (fun q => q.elim a b)]
theorem now_cases {s : LS} (G : s.Good) {r : Int} (h : r ∈ tab s.now) : r = 0 ∨ r = 1 ∨ r = 2 ∨ r = 3 := by
  obtain ⟨i, _, e⟩ := (tab_mem _ _).mp h
  rw [← e]
  rcases G.pair i with q | q | q | q | q | q
  · exact .inl q.1
  · exact .inr (.inl q.1)
  · exact .inr (.inr (.inl q.1))
  · exact .inr (.inl q.1)
  · exact .inl q.1
  · exact .inr (.inr (.inr q.1))
theorem leave_at {s : LS} (G : s.Good) {r : Int} (h : r ∈ tab s.now) : 0 ≤ r ∧ r < 2 ^ 62 ∧ [AV.int 0, .int 1, .int 2, .int 2][r.toNat]? = some (.int (if r = 3 then 2 else r)) := by
  rcases now_cases G h with rfl | rfl | rfl | rfl <;> exact ⟨by decide, by decide, rfl⟩
theorem half_at {s : LS} (G : s.Good) {r : Int} (h : r ∈ tab s.now) : 0 ≤ r ∧ r < 2 ^ 62 ∧ [AV.int 0, .int 1, .int 0, .int 0][r.toNat]? = some (.int (if r = 1 then 1 else 0)) := by
  rcases now_cases G h with rfl | rfl | rfl | rfl <;> exact ⟨by decide, by decide, rfl⟩
theorem nr_at {wv hf : Int} (a : 0 ≤ wv) (b : wv ≤ 4) (c : wv ≠ 2) (d : wv ≠ 4) : [AV.int 1, .int 0, .int 0, .int (2 + hf)][wv.toNat]? = some (.int (nr wv hf)) := by
  rcases (by omega : wv = 0 ∨ wv = 1 ∨ wv = 3) with rfl | rfl | rfl <;> rfl
section
variable {prog : Program} {w : World} {h : Heap} {X : Store → Prop} {Q : AV → Store → Prop} {W W₀ : Store}
/-- a list of as many as another -/
theorem comp_all {bnd : AV → (Vars → Prop) → Prop} {ce : CE} {Qn : AV → Store → Prop} {okk : Store → Prop} {α : Type} {g : α → AV} {l : List α} (r : α → AV) (hb : ∀ (a : α) (k k' : Vars → Prop), (∀ m, k m → k' m) → bnd (g a) k → bnd (g a) k') (hk : okk W) (hl : l.length ≤ 1000)
    (hc : ∀ i ∈ l, bnd (g i) fun m' => ce noX m' W fun y W₂ => y = r i ∧ W₂ = W) (hQ : ∀ x, W x = none → Qn (.ref x) (upd W x (.list (l.map r)))) :
    compL bnd (fun _ W' Q' => Q' true W') (wkE ce noX) okk (fun ys W₂ => ys.length ≤ 1000 ∧ new W₂ (.list ys) Qn) (l.map g) [] W :=
  compM_inv g hb r (fun W' => W' = W) (fun _ e => e ▸ hk) l (fun i hi W' e => by subst e; exact hc i hi) [] W rfl fun W' e => by
    subst e
    exact ⟨by rw [List.nil_append, List.length_map]; exact hl, hQ⟩
set_option maxHeartbeats 2000000 in
theorem spec_after (ok : PxOk (PX prog w h)) {s : LS} {what : Int} {fl : Bool} {ps : List (Int × Int)} (G : s.Good) (hp : stepsOk ps) (hw : 0 ≤ what ∧ what ≤ 2) (hQ : ∀ W', Ext W W' → Q (resV (s.after what fl ps)) W') : CodeOk (PX prog w h) 65 398 [stV s, .int what, .bool fl, preV ps] W Q X := by
  refine g_398 ok (k := 60) rfl ?_
  obtain ⟨hl, hp⟩ := hp
  unfold LS.after at hQ
  rw [or_if] at hQ
  refine b_go ⟨_, _, _, rfl, ?_⟩
  refine b_go (if_prop ((1 : Int) ∉ tab s.now ∨ decide ((1 : Int) ∈ tab s.was) ≠ decide (what = 2)) ⟨_, rfl, fun q => ⟨?_, rfl⟩, fun q => ⟨_, rfl, ?_, rfl⟩⟩ (fun q => b_go ?_) fun q => ?_)
  · exact (decide_eq_true (.inl (of_decide_eq_false ((Bool.not_eq_true' _).mp q)))).symm
  · rw [bne_dec, dec_or (not_not_intro (of_decide_eq_true ((Bool.not_eq_false' _).mp q)))]
  · rw [if_pos q] at hQ; exact hQ W (Ext.refl W)
  rw [if_neg q] at hQ
  refine b_go (if_prop (what = 2) ⟨rfl, rfl⟩ (fun q2 => b_go ?_) fun q2 => ?_)
  · rw [if_pos q2] at hQ
    refine ⟨_, _, .tup _ (tab_z _), comp_all (g := AV.int) (l := tab s.now) (fun r => .int (if r = 3 then 2 else r)) (fun _ _ _ f h => f _ h) trivial (Nat.le_of_ble_eq_true rfl) (fun r hr => ?_) fun r fr => c_tuple (upd_same _ _ _) (Nat.le_of_ble_eq_true rfl) (hQ _ ((Ext.refl W).upd fr))⟩
    obtain ⟨a, b, c⟩ := leave_at G hr
    exact ⟨_, a, b, c, rfl, rfl⟩
  rw [if_neg q2] at hQ
  refine b_go ?_
  let M : Nat × Option AV × Option AV × Option AV → Option AV → AV → Option AV → Vars := fun u mv hf nw => [(Str.ofString "state", some (stV s)), (Str.ofString "what", some (.int what)), (Str.ofString "flag", some (.bool fl)), (Str.ofString "steps", some (preV ps)), (Str.ofString "now", some (.tup (ivs (tab s.now)))), (Str.ofString "was", some (.tup (ivs (tab s.was)))), (Str.ofString "auto", some (.bool s.au)), (Str.ofString "half", some hf), (Str.ofString "new", nw), (Str.ofString "moved", mv), (Str.ofString "i", u.2.1), (Str.ofString "words", u.2.2.1), (Str.ofString "role", u.2.2.2)]
  refine b_mid (fun m₁ W₁ => Ext W W₁ ∧ m₁ = M (0, none, none, none) none (.tup (ivs (tab (s.half what)))) none) (if_prop (what = 1) ⟨rfl, rfl⟩ (fun q3 => b_go ?_) fun q3 => ?_) ?_
  · have hh : s.half what = fun i => if s.now i = 1 then 1 else 0 := funext fun i => if_pos q3
    rw [hh]
    refine ⟨_, _, .tup _ (tab_z _), comp_all (g := AV.int) (l := tab s.now) (fun r => .int (if r = 1 then 1 else 0)) (fun _ _ _ f h => f _ h) trivial (Nat.le_of_ble_eq_true rfl) (fun r hr => ?_) fun r fr => c_tuple (upd_same _ _ _) (Nat.le_of_ble_eq_true rfl) ⟨(Ext.refl W).upd fr, rfl⟩⟩
    obtain ⟨a, b, c⟩ := half_at G hr
    exact ⟨_, a, b, c, rfl, rfl⟩
  · have hh : s.half what = s.was := funext fun i => if_neg q3
    rw [hh]
    exact ⟨Ext.refl W, rfl⟩
  rintro _ W₁ ⟨e₁, rfl⟩
  refine b_go fun nw fnw => b_go (b_go ⟨_, _, .tup _ (by decide), ?_⟩)
  have fnw' := e₁.none fnw
  refine for1_list (g := AV.int) (fun u => M u (some (.int u.1)) (.tup (ivs (tab (s.half what)))) (some (.ref nw)))
    (fun rest u W₂ => Ext W W₂ ∧ ∃ pre, six = pre ++ rest ∧ (∀ i ∈ pre, (4 : Int) ∉ words ps i) ∧ u.1 = (pre.filter fun i => decide (s.role what ps i = 1) != decide (s.now i = 1)).length ∧ W₂ nw = some (.list (ivs (0 :: pre.map (s.role what ps)))))
    (fun u W₂ z => ?_) (fun i r u W₂ z => ?_) six (0, none, none, none) _ ⟨e₁.trans ((Ext.refl W₁).upd fnw), [], rfl, nofun, rfl, upd_same _ _ _⟩
  · obtain ⟨e₂, pre, e1, hno, ec, hnw⟩ := z
    obtain ⟨mv, u⟩ := u
    have ec : mv = _ := ec
    rw [List.append_nil] at e1
    rw [← e1] at hno ec hnw
    have hb : ¬ LS.bad ps = true := fun q => by
      obtain ⟨i, hi, h4⟩ := List.any_eq_true.mp q
      exact hno i hi (of_decide_eq_true h4)
    rw [if_neg hb, or_if, show s.moved what ps = mv from ec.symm] at hQ
    have hnw : W₂ nw = some (.list (ivs (tab (s.new what ps)))) := hnw
    clear ec
    refine b_go (if_prop ((1 : Int) ∉ tab (s.new what ps) ∨ what = 0 ∧ 1 < mv) (.inl ⟨_, hnw, fun q5 => ⟨?_, rfl⟩, fun q5 => ⟨fun q6 => ⟨?_, rfl⟩, fun q6 => ⟨?_, rfl⟩⟩⟩) (fun q5 => b_go ?_) fun q5 => ?_)
    · exact (decide_eq_true (.inl (of_decide_eq_false ((Bool.not_eq_true' _).mp q5)))).symm
    · rw [dec_or (not_not_intro (of_decide_eq_true ((Bool.not_eq_false' _).mp q5)))]
      exact decide_eq_decide.mpr ⟨fun h => ⟨of_decide_eq_true q6, Int.ofNat_lt.mp h⟩, fun h => Int.ofNat_lt.mpr h.2⟩
    · rw [dec_or (not_not_intro (of_decide_eq_true ((Bool.not_eq_false' _).mp q5)))]
      exact (decide_eq_false fun h => of_decide_eq_false q6 h.1).symm
    · rw [if_pos q5] at hQ; exact hQ _ e₂
    rw [if_neg q5] at hQ
    refine b_go (c_tuple hnw (tab_z _) ⟨fun q6 => ?_, fun q6 => ?_⟩)
    · have := hQ _ e₂
      rw [q6] at this
      exact this
    · have := hQ _ e₂
      rw [q6] at this
      show Q (.tup [_, _, .bool (decide (what = 1))]) W₂
      rw [q6]
      exact this
  · obtain ⟨e₂, pre, e1, hno, ec, hnw⟩ := z
    obtain ⟨mv, u⟩ := u
    have ec : mv = _ := ec
    have hi : i ∈ six := by rw [e1]; exact List.mem_append_right _ (.head _)
    obtain ⟨i1, i6⟩ := mem_six hi
    have i0 : 0 ≤ i := Int.le_trans (by decide) i1
    have wl : (ivs (words ps i)).length ≤ 1000 := by rw [ivs_len]; exact Nat.le_trans (Nat.le_trans (words_len i) hl) (by decide)
    have ilt : i < 2 ^ 62 := Int.lt_of_le_of_lt i6 (by decide)
    refine b_go ⟨_, _, .tup _ (by rw [List.length_map]; exact Nat.le_trans hl (by decide)), ?_⟩
    refine compL_inv prV (fun _ _ _ f h => f _ h) (fun p => decide (p.2 = i) && decide (p.1 ≠ 2)) (fun p => AV.int p.1) (fun W' => W' = W₂) (fun _ _ => trivial) ps (fun p hpp W' e => ⟨.int p.2, by decide, by decide, rfl, fun q5 => ⟨.int p.1, by decide, by decide, rfl, by rw [q5]; rfl, e, fun _ => ⟨.int p.1, by decide, by decide, rfl, rfl, e⟩⟩, fun q5 => ⟨by rw [q5]; rfl, e, fun z => absurd z (by rw [q5]; exact Bool.false_ne_true)⟩⟩) [] W₂ rfl fun W' e => ?_
    subst e
    rw [List.nil_append, show List.map (fun p : Int × Int => AV.int p.1) (List.filter (fun p => decide (p.2 = i) && decide (p.1 ≠ 2)) ps) = ivs (words ps i) from by unfold words ivs; rw [List.map_map]; rfl]
    refine ⟨wl, fun wd fwd => ?_⟩
    have ew := (Ext.refl W').upd (c := .list (ivs (words ps i))) fwd
    have hwd := upd_same W' wd (.list (ivs (words ps i)))
    have hnw2 := ew _ _ hnw
    have e₃ := e₂.trans ew
    generalize upd W' wd (.list (ivs (words ps i))) = W₃ at *
    refine b_go ⟨_, i0, ilt, tab_get _ _ i0 i6, ?_⟩
    refine b_go (if_prop ((4 : Int) ∈ words ps i) (.inl ⟨_, hwd, rfl, rfl⟩) (fun q5 => b_go ?_) fun q5 => ?_)
    · rw [if_pos (show LS.bad ps = true from List.any_eq_true.mpr ⟨i, hi, decide_eq_true q5⟩)] at hQ
      exact hQ _ e₃
    refine b_mid (fun m₁ W₄ => W₃ = W₄ ∧ m₁ = M (mv, some (.int i), some (.ref wd), some (.int (s.role what ps i))) (some (.int mv)) (.tup (ivs (tab (s.half what)))) (some (.ref nw))) (if_prop (words ps i ≠ []) (c_lenI hwd wl ⟨?_, rfl⟩) (fun q6 => b_go ?_) fun q6 => ?_) ?_
    · cases words ps i <;> simp
    · obtain ⟨wv, hwv⟩ : ∃ wv, (words ps i).getLast? = some wv := ⟨_, List.getLast?_eq_some_getLast q6⟩
      have hm : wv ∈ words ps i := List.mem_of_getLast? hwv
      obtain ⟨w0, w4, w2⟩ := words_ok hp hm
      have hr : s.role what ps i = nr wv (s.half what i) := by unfold LS.role; rw [hwv]
      rw [hr]
      exact ⟨.int (s.half what i), i0, ilt, tab_get _ _ i0 i6, .inl ⟨_, .int wv, hwd, .inr ⟨rfl, by unfold ivs; rw [List.getLast?_map, hwv]; rfl⟩, wl, _, w0, Int.lt_of_le_of_lt w4 (by decide), nr_at w0 w4 w2 (fun e => q5 (e ▸ hm)), rfl, rfl⟩⟩
    · have hr : s.role what ps i = s.now i := by unfold LS.role; rw [Classical.not_not.mp q6]; rfl
      rw [hr]
      exact ⟨rfl, rfl⟩
    rintro _ _ ⟨rfl, rfl⟩
    have lp : (ivs (0 :: pre.map (s.role what ps))).length ≤ 1000 := by
      have := congrArg List.length e1
      rw [List.length_append] at this
      rw [ivs_len, List.length_cons, List.length_map]
      exact Nat.le_trans (Nat.succ_le_succ (Nat.le.intro this.symm)) (by decide)
    refine b_go (m_app hnw2 ⟨_, _, rfl, hnw2, lp, rfl, ?_⟩)
    rw [show ivs (0 :: pre.map (s.role what ps)) ++ [AV.int (s.role what ps i)] = ivs (0 :: (pre ++ [i]).map (s.role what ps)) from by unfold ivs; rw [List.map_append, List.map_cons, List.map_cons, List.map_append]; rfl]
    have fin : ∀ k, k = ((pre ++ [i]).filter fun i => decide (s.role what ps i = 1) != decide (s.now i = 1)).length → ∃ pr, six = pr ++ r ∧ (∀ i ∈ pr, (4 : Int) ∉ words ps i) ∧ k = (pr.filter fun i => decide (s.role what ps i = 1) != decide (s.now i = 1)).length ∧ upd W₃ nw (.list (ivs (0 :: (pre ++ [i]).map (s.role what ps)))) nw = some (.list (ivs (0 :: pr.map (s.role what ps)))) :=
      fun k hk => ⟨pre ++ [i], by rw [e1, List.append_assoc]; rfl, List.forall_mem_append.mpr ⟨hno, List.forall_mem_singleton.mpr q5⟩, hk, upd_same _ _ _⟩
    rw [filter_snoc, ← ec] at fin
    have e₄ := e₃.upd (c := .list (ivs (0 :: (pre ++ [i]).map (s.role what ps)))) fnw'
    refine b_go (if_go (decide (s.role what ps i = 1) != decide (s.now i = 1)) ⟨.int (s.now i), i0, ilt, tab_get _ _ i0 i6, rfl, rfl⟩ (fun q6 => b_go ⟨_, _, rfl, rfl, trivial, (mv + 1, some (.int i), some (.ref wd), some (.int (s.role what ps i))), rfl, e₄, fin _ ?_⟩) fun q6 => ⟨trivial, (mv, some (.int i), some (.ref wd), some (.int (s.role what ps i))), rfl, e₄, fin _ ?_⟩)
    · rw [if_pos q6]
    · rw [if_neg (by rw [q6]; exact Bool.false_ne_true)]; rfl
end
theorem steps_okPs {ps : List (Int × Int)} (h : ∀ p ∈ ps, stepOk p) : okPs ps := fun p hp =>
  let ⟨a, b, c, d⟩ := h p hp; ⟨a, Int.lt_of_le_of_lt b (by decide), c, Int.le_trans d (by decide)⟩
theorem out_good {s : LS} (G : s.Good) {what : Int} {fl : Bool} {ps : List (Int × Int)} (hp : ∀ p ∈ ps, stepOk p) : GoodR (outR (s.after what fl ps)) := fun t b h => by
  unfold outR at h
  cases e : s.after what fl ps with
  | none => rw [e] at h; cases h
  | some u =>
    rw [e] at h
    cases h
    exact (after_good G hp e).valid
/-- what is asked of an asking -/
structure Ask (W : Store) (q : Option LS) (Q : AV → Store → Prop) : Prop where
  no : q = none → ∀ W', Ext W W' → Q .none W'
  yes : ∀ t, q = some t → ∀ r W', Ext W W' → CfgL W W' r t → Q (.ref r) W'
theorem Ask.got {W : Store} {q : Option LS} {Q : AV → Store → Prop} (a : Ask W q Q) : Got W (outR q) Q fun W' => Q .none W' :=
  ⟨fun h W' e => a.no (by cases q <;> first | rfl | cases h) W' e, fun t b h r W' e c => by
    cases q with
    | none => cases h
    | some u => cases h; exact a.yes u rfl r W' e c⟩
noncomputable def whatA (tr : Int) (told : List (Int × Int)) : Int := if tr = 0 ∧ told.length < 2 then 2 - 2 * told.length else 1
theorem apply_is {s : LS} (G : s.Good) {tr : Int} {told : List (Int × Int)} (hp : ∀ p ∈ told, stepOk p) : s.sets.apply s.au tr told = outR (s.after (whatA tr told) (decide (tr ≠ 2)) told) := by
  unfold Sets.apply whatA
  by_cases h1 : tr = 0 ∧ told = []
  · rw [if_pos h1, if_pos ⟨h1.1, by rw [h1.2]; decide⟩, h1.2]
    exact leave_is G _ _
  · rw [if_neg h1]
    by_cases h2 : tr = 0 ∧ told.length ≤ 1
    · have : told.length = 1 := Nat.le_antisymm h2.2 (List.length_pos_iff.mpr fun e => h1 ⟨h2.1, e⟩)
      rw [if_pos h2, if_pos ⟨h2.1, Nat.lt_succ_of_le h2.2⟩, this]
      exact simple_is G _ hp
    · rw [if_neg h2, if_neg (fun q => h2 ⟨q.1, Nat.le_of_lt_succ q.2⟩)]
      exact enter_is G _ hp
section
variable {prog : Program} {w : World} {h : Heap} {X : Store → Prop} {Q : AV → Store → Prop} {W W₀ : Store}
theorem spec_ask (ok : PxOk (PX prog w h)) {g c ch st : Addr} {s : LS} {way tr : Int} {fl : Bool} {ps told : List (Int × Int)} {ctx : Array UInt8} (hg : IsCh W g c) (C : CfgL none₀ W c s) (G : s.Good) (hcc : IsCC W ch tr told ctx) (ht : 0 ≤ tr ∧ tr ≤ 2) (hst : W st = some (.list (ps.map prV))) (hp : stepsOk ps) (hto : stepsOk told) (hw : 0 ≤ way ∧ way ≤ 5)
    (hQ : Ask W (if 3 < way then s.after (whatA tr told) (decide (tr ≠ 2)) told else s.after (way % 3) fl ps) Q) : CodeOk (PX prog w h) 185 434 [.ref g, .ref c, .int way, .bool fl, .ref st, .ref ch] W Q X := by
  refine g_434 ok (k := 180) rfl ?_
  have V := G.valid
  have lz : ps.length ≤ 1000 := Nat.le_trans hp.1 (by decide)
  have good : ∀ {what : Int} {r}, r = outR (s.after what fl ps) → GoodR r := fun e => e ▸ out_good G hp.2
  refine b_go (b_go (if_prop (way = 1) ⟨rfl, rfl⟩ (fun q => b_go ?_) fun q => ?_))
  · subst q
    have hQ : Ask W (s.after 1 fl ps) Q := hQ
    have e := enter_is G fl hp.2
    exact m_ch hg (m_302 w) (by kernel_rfl) ((spec_enter ok hg C V hst (steps_okPs hp.2) lz (good e) (e ▸ ⟨fun z W' e' m' => hQ.got.no z W' e', hQ.got.yes⟩)).call (by decide))
  refine b_go (if_prop (way = 2) ⟨rfl, rfl⟩ (fun q2 => b_go ?_) fun q2 => ?_)
  · subst q2
    have hQ : Ask W (s.after 2 fl ps) Q := hQ
    have e := leave_is G fl ps
    exact m_ch hg (m_309 w) (by kernel_rfl) ((spec_leave ok hg C V (good e) (e ▸ ⟨fun z W' e' m' => hQ.got.no z W' e', hQ.got.yes⟩)).call (by decide))
  refine b_go (if_prop (3 < way) ⟨rfl, rfl⟩ (fun q3 => b_go ?_) fun q3 => b_go ?_)
  · rw [if_pos q3] at hQ
    have e := apply_is G (tr := tr) hto.2
    exact c_fn (keepK _ (by decide)) (spec_apply ok hcc ht C V (steps_okPs hto.2) (Nat.le_trans hto.1 (by decide)) (e ▸ out_good G hto.2) (e ▸ ⟨fun z W' e' m' => hQ.got.no z W' e', hQ.got.yes⟩))
  rw [if_neg q3, show way % 3 = 0 from by omega] at hQ
  have e := simple_is G fl hp.2
  exact m_ch hg (m_316 w) (by kernel_rfl) ((spec_simple ok hg C V hst (steps_okPs hp.2) lz (good e) (e ▸ ⟨fun z W' e' m' => hQ.got.no z W' e', hQ.got.yes⟩)).call (by decide))
end
/-! ### the law's own frame -/
def st (q : Nat → Option AV) (i : Nat) (v : AV) : Nat → Option AV := fun j => cond (Nat.beq j i) (some v) (q j)
def LV (q : Nat → Option AV) : Vars := [(Str.ofString "script", q 0), (Str.ofString "nums", q 1), (Str.ofString "states", q 2), (Str.ofString "configs", q 3), (Str.ofString "changers", q 4), (Str.ofString "state", q 5), (Str.ofString "row", q 6), (Str.ofString "part", q 7), (Str.ofString "halves", q 8), (Str.ofString "config", q 9), (Str.ofString "c", q 10), (Str.ofString "lent", q 11), (Str.ofString "told", q 12), (Str.ofString "change", q 13), (Str.ofString "votes", q 14), (Str.ofString "acked", q 15), (Str.ofString "k", q 16), (Str.ofString "kept", q 17), (Str.ofString "turn", q 18), (Str.ofString "z", q 19), (Str.ofString "way", q 20), (Str.ofString "odd", q 21), (Str.ofString "flag", q 22), (Str.ofString "said", q 23), (Str.ofString "on", q 24), (Str.ofString "what", q 25), (Str.ofString "steps", q 26), (Str.ofString "want", q 27), (Str.ofString "got", q 28), (Str.ofString "again", q 29), (Str.ofString "j", q 30)]
def fr (nu : Addr) (sts : AV) (cf cg : Addr) (q : Nat → Option AV) : Nat → Option AV := st (st (st (st q 1 (.ref nu)) 2 sts) 3 (.ref cf)) 4 (.ref cg)
def twice (p : Int → Bool) : List Int := (asc p).reverse ++ asc p
theorem asc_twice (p : Int → Bool) : asc (fun i => decide (i ∈ twice p)) = asc p := asc_ext fun x a b => by
  cases e : p x <;> simp [twice, mem_asc, e, a, b]
theorem twice_small (p : Int → Bool) : Small (twice p) := fun x hx => (List.mem_append.mp hx).elim (fun q => asc_small p x (List.mem_reverse.mp q)) (asc_small p x)
theorem twice_len (p : Int → Bool) : (twice p).length ≤ 18 := by
  unfold twice
  rw [List.length_append, List.length_reverse]
  exact Nat.add_le_add (asc_len p) (asc_len p)
theorem twice_k (p : Int → Bool) : (ivs (twice p)).length ≤ 1000 := by rw [ivs_len]; exact Nat.le_trans (twice_len p) (by decide)
theorem IsCh.spoilt {W W' : Store} {g c cf cg : Addr} {l1 l2 : List AV} (x : IsCh W g c) (hf : W cf = some (.list l1)) (hg : W cg = some (.list l2)) (e : ExtS [cf, cg] W W') : IsCh W' g c := by
  obtain ⟨ds, h1, h2⟩ := x
  have n : ∀ b c', W b = some c' → (∀ l, c' ≠ .list l) → b ∉ [cf, cg] := fun b c' e q hb => (List.mem_cons.mp hb).elim (fun z => by rw [z, hf] at e; cases e; exact q _ rfl) fun z => by rw [List.mem_singleton.mp z, hg] at e; cases e; exact q _ rfl
  exact ⟨ds, e _ _ (n _ _ h1 nofun) h1, e _ _ (n _ _ h2 nofun) h2⟩
theorem Cf.spoilt {D : List Addr} {W₀ W W' : Store} {a : Addr} {s : Sets} {au : Bool} (x : CfgS W₀ W a s au) (hD : ∀ b ∈ D, W₀ b ≠ none) (e : ExtS D W W') : CfgS W₀ W' a s au := by
  obtain ⟨d, v, o, l, x, R, F⟩ := x
  exact ⟨d, v, o, l, x, R.spoilt e fun b hb hb2 => hD b hb2 (F b hb), F⟩
theorem ExtS.of {D : List Addr} {W W' : Store} (h : Ext W W') : ExtS D W W' := fun b c _ e => h b c e
theorem ExtS.trans {D : List Addr} {W W' W'' : Store} (h : ExtS D W W') (k : ExtS D W' W'') : ExtS D W W'' := fun b c n e => k b c n (h b c n e)
section
variable {prog : Program} {w : World} {h : Heap} {X : Store → Prop} {W W₀ : Store} {m : Vars}
theorem comp_step {bnd : AV → (Vars → Prop) → Prop} {ce : CE} {okk : Store → Prop} {Qf : List AV → Store → Prop} {x : AV} {xs ys : List AV} (hb : ∀ (k k' : Vars → Prop), (∀ m, k m → k' m) → bnd x k → bnd x k') (h : bnd x fun m' => ce noX m' W fun y W₂ => okk W₂ ∧ compL bnd (fun _ W' Q' => Q' true W') (wkE ce noX) okk Qf xs (ys ++ [y]) W₂) :
    compL bnd (fun _ W' Q' => Q' true W') (wkE ce noX) okk Qf (x :: xs) ys W := hb _ _ (fun m' h => ⟨_, h, fun _ _ q => q⟩) h
theorem twice_part {P : Px} {x : Str} {p : Int → Bool} {Q : AV → Store → Prop} (h : ∀ r, W r = none → Q (.ref r) (upd W r (.list (ivs (twice p))))) :
    cComp (tg1 (Str.ofString "i")) (cBin .Add (cSlice P (cSlot 0) none) (cSlot 0)) (cSlot 0) noX ((x, some (.tup (ivs (asc p)))) :: m) W Q := by
  have e : (ivs (asc p)).reverse ++ ivs (asc p) = ivs (twice p) := by unfold twice ivs; rw [List.map_append, List.map_reverse]
  refine ⟨asc_k p, ?_⟩
  show ((ivs (asc p)).reverse.length + (ivs (asc p)).length ≤ 1000) ∧ _
  rw [← List.length_append, e]
  exact ⟨twice_k p, _, _, .tup _ (twice_k p), comp_all (g := AV.int) (l := twice p) AV.int (fun _ _ _ f h => f _ h) trivial (Nat.le_trans (twice_len p) (by decide)) (fun _ _ => ⟨rfl, rfl⟩) h⟩
/-- a list's lists are spoilt by their owner -/
theorem app_loop {D : List Addr} {hv : Addr} {Q : AFlow → Vars → Store → Prop} {q : Nat → Option AV} {lh : List AV} (hh : W hv = some (.list lh)) (hn : hv ∉ D) (hl : ∀ b ∈ D, ∃ l, W b = some (.list l) ∧ l.length + D.length ≤ 1000) (done : ∀ u W', ExtS D W W' → Q .next (LV (fun j => cond (Nat.beq j 7) u (q j))) W') :
    forL (fun v m k => k (setk m 7 v)) (wkS (q_439_5b_3b (PX prog w h) 210) X) (fun W' => W' hv = some (.list lh)) Q (D.map .ref) (LV q) W := by
  refine for1_list (g := AV.ref) (fun u => LV (fun j => cond (Nat.beq j 7) u (q j))) (fun rest u W₁ => ExtS D W W₁ ∧ (∀ b ∈ rest, b ∈ D) ∧ ∀ b ∈ D, ∃ l, W₁ b = some (.list l) ∧ l.length + rest.length ≤ 1000) (fun u W₁ z => done u W₁ z.1) (fun b r u W₁ z => ?_) D (q 7) W ⟨.refl _ _, fun _ h => h, hl⟩
  obtain ⟨e, hs, hl⟩ := z
  obtain ⟨hb, hs⟩ := List.forall_mem_cons.mp hs
  obtain ⟨l, h1, h2⟩ := hl b hb
  refine b_go (m_app h1 ⟨_, _, rfl, h1, Nat.le_trans (Nat.le_add_right _ _) h2, rfl, (e.put hb) _ _ hn hh, some (.ref b), rfl, e.put hb, hs, fun c hc => ?_⟩)
  by_cases q : c = b
  · rw [q]
    exact ⟨_, upd_same _ _ _, by rw [List.length_append]; show l.length + 1 + r.length ≤ 1000; rw [Nat.add_assoc, Nat.add_comm 1]; exact h2⟩
  · obtain ⟨l', h3, h4⟩ := hl c hc
    exact ⟨l', by rw [upd_ne q]; exact h3, Nat.le_trans (Nat.add_le_add_left (Nat.le_succ _) _) h4⟩
theorem law_5b (ok : PxOk (PX prog w h)) {nu cf cg : Addr} {sts : AV} {s : LS} (G : s.Good) {q : Nat → Option AV} {cs gs : List AV} (h1 : W cf = some (.list cs)) (h2 : W cg = some (.list gs)) (hne : cf ≠ cg) (lc : cs.length ≤ 1000) (lg : gs.length ≤ 1000) {Q : AFlow → Vars → Store → Prop}
    (hQ : ∀ q' W' c g, ExtS [cf, cg] W W' → W' cf = some (.list (cs ++ [.ref c])) → W' cg = some (.list (gs ++ [.ref g])) → CfgL W W' c s → IsCh W' g c → Q .next (LV (fr nu sts cf cg q')) W') :
    q_439_5b (PX prog w h) 210 X (LV (st (fr nu sts cf cg q) 5 (stV s))) W Q := by
  refine b_go (c_fn (keepK _ (by decide)) (spec_row ok G fun W₁ e₁ => ?_))
  refine b_go ⟨Nat.le_of_ble_eq_true rfl, _, _, .tup _ (Nat.le_of_ble_eq_true rfl), ?_⟩
  refine comp_step (fun _ _ f h => f _ h) (twice_part (p := s.sets.V) fun r0 f0 => ⟨trivial, ?_⟩)
  have e10 := (Ext.refl W₁).upd (c := .list (ivs (twice s.sets.V))) f0
  have z0 := upd_same W₁ r0 (.list (ivs (twice s.sets.V)))
  generalize upd W₁ r0 (.list (ivs (twice s.sets.V))) = A0 at *
  refine comp_step (fun _ _ f h => f _ h) (twice_part (p := s.sets.O) fun r1 f1 => ⟨trivial, ?_⟩)
  have e11 := (Ext.refl A0).upd (c := .list (ivs (twice s.sets.O))) f1
  have z1 := upd_same A0 r1 (.list (ivs (twice s.sets.O)))
  generalize upd A0 r1 (.list (ivs (twice s.sets.O))) = A1 at *
  replace z0 := e11 _ _ z0
  refine comp_step (fun _ _ f h => f _ h) (twice_part (p := s.sets.L) fun r2 f2 => ⟨trivial, ?_⟩)
  have e12 := (Ext.refl A1).upd (c := .list (ivs (twice s.sets.L))) f2
  have z2 := upd_same A1 r2 (.list (ivs (twice s.sets.L)))
  generalize upd A1 r2 (.list (ivs (twice s.sets.L))) = A2 at *
  replace z0 := e12 _ _ z0
  replace z1 := e12 _ _ z1
  refine comp_step (fun _ _ f h => f _ h) (twice_part (p := s.sets.N) fun r3 f3 => ⟨trivial, ?_⟩)
  have e13 := (Ext.refl A2).upd (c := .list (ivs (twice s.sets.N))) f3
  have z3 := upd_same A2 r3 (.list (ivs (twice s.sets.N)))
  generalize upd A2 r3 (.list (ivs (twice s.sets.N))) = A3 at *
  replace z0 := e13 _ _ z0
  replace z1 := e13 _ _ z1
  replace z2 := e13 _ _ z2
  refine ⟨Nat.le_of_ble_eq_true rfl, fun hv fh => ?_⟩
  have eh := (Ext.refl A3).upd (c := .list (List.map .ref [r0, r1, r2, r3])) fh
  have zh : upd A3 hv (.list (List.map .ref [r0, r1, r2, r3])) hv = some (.list (List.map .ref [r0, r1, r2, r3])) := upd_same _ _ _
  have hvn : hv ∉ [r0, r1, r2, r3] := by
    simp only [List.mem_cons, List.not_mem_nil, or_false, not_or]
    exact ⟨Ne.symm (ne_of z0 fh), Ne.symm (ne_of z1 fh), Ne.symm (ne_of z2 fh), Ne.symm (ne_of z3 fh)⟩
  show behind _ _ .next _ (upd A3 hv (.list (List.map .ref [r0, r1, r2, r3])))
  generalize upd A3 hv (.list (List.map .ref [r0, r1, r2, r3])) = A4 at *
  replace z0 := eh _ _ z0
  replace z1 := eh _ _ z1
  replace z2 := eh _ _ z2
  replace z3 := eh _ _ z3
  have fr0 : ∀ b ∈ [r0, r1, r2, r3], W b = none := by
    simp only [List.forall_mem_cons]
    exact ⟨e₁.none f0, (e₁.trans e10).none f1, ((e₁.trans e10).trans e11).none f2, (((e₁.trans e10).trans e11).trans e12).none f3, nofun⟩
  have E4 : Ext W A4 := ((((e₁.trans e10).trans e11).trans e12).trans e13).trans eh
  clear f0 f1 f2 f3 e10 e11 e12 e13 eh fh e₁
  have zk : (List.map AV.ref [r0, r1, r2, r3]).length ≤ 1000 := Nat.le_of_ble_eq_true rfl
  have tk : ∀ p, (twice p).length ≤ 60 := fun p => Nat.le_trans (twice_len p) (by decide)
  refine b_go (.inl ⟨_, .ref r0, zh, .inl ⟨by decide, by decide, rfl⟩, zk, .inl ⟨_, .ref r1, zh, .inl ⟨by decide, by decide, rfl⟩, zk, .inl ⟨_, .ref r2, zh, .inl ⟨by decide, by decide, rfl⟩, zk, .inl ⟨_, .ref r3, zh, .inl ⟨by decide, by decide, rfl⟩, zk, .bool s.au, by decide, by decide, rfl, ?_⟩⟩⟩⟩)
  refine c_fn (keepK _ (by decide)) (new_cfg ok z0 z1 z2 z3 (twice_small _) (twice_small _) (twice_small _) (twice_small _) (tk _) (tk _) (tk _) (tk _) fun c A5 e5 cc => ?_)
  have cc : CfgL A4 A5 c s := cc.congr (asc_twice _) (asc_twice _) (asc_twice _) (asc_twice _) rfl
  have hl : ∀ b ∈ [r0, r1, r2, r3], ∃ l, A5 b = some (.list l) ∧ l.length + [r0, r1, r2, r3].length ≤ 1000 := by
    have t : ∀ (b : Addr) p, A4 b = some (.list (ivs (twice p))) → ∃ l, A5 b = some (.list l) ∧ l.length + [r0, r1, r2, r3].length ≤ 1000 := fun b p hp => ⟨_, e5 _ _ hp, by rw [ivs_len]; exact Nat.le_trans (Nat.add_le_add_right (twice_len p) 4) (by decide)⟩
    simp only [List.forall_mem_cons]
    exact ⟨t _ _ z0, t _ _ z1, t _ _ z2, t _ _ z3, nofun⟩
  have hs : ∀ b ∈ [r0, r1, r2, r3], A4 b ≠ none := by
    simp only [List.forall_mem_cons]
    exact ⟨some_ne z0, some_ne z1, some_ne z2, some_ne z3, nofun⟩
  refine b_go ⟨_, _, .list _ _ (e5 _ _ zh) zk, app_loop (q := st (st (st (st (fr nu sts cf cg q) 5 (stV s)) 6 (rowL s)) 8 (.ref hv)) 9 (.ref c)) (e5 _ _ zh) hvn hl fun u A6 e6 => ?_⟩
  have E6 : Ext W A6 := e6.old (E4.trans e5) fr0
  have c6 : CfgL W A6 c s := (cc.spoilt hs e6).base E4
  clear z0 z1 z2 z3 zh hvn fr0 hl hs cc e5 e6 E4 zk tk
  have w1 := E6 _ _ h1
  have w2 : upd A6 cf (.list (cs ++ [.ref c])) cg = _ := (upd_ne (Ne.symm hne)).trans (E6 _ _ h2)
  refine b_go (m_app w1 ⟨_, _, rfl, w1, lc, rfl, b_go (m_app w2 (c_fn (keepK _ (by decide)) (new_changer ok fun g A8 e8 hg => ⟨_, _, rfl, e8 _ _ w2, lg, rfl, ?_⟩)))⟩)
  have w8 := e8 _ _ (upd_same A6 cf (.list (cs ++ [.ref c])))
  have e69 : ExtS [cf, cg] A6 (upd A8 cg (.list (gs ++ [.ref g]))) := (((ExtS.refl _ _).put (.head _)).trans (ExtS.of e8)).put (.tail _ (.head _))
  refine hQ (fun j => cond (Nat.beq j 7) u (st (st (st (st (fr nu sts cf cg q) 5 (stV s)) 6 (rowL s)) 8 (.ref hv)) 9 (.ref c) j)) _ c g ((ExtS.of E6).trans e69) ((upd_ne hne).trans w8) (upd_same _ _ _) (c6.spoilt ?_ e69) (hg.spoilt w8 (e8 _ _ w2) ((ExtS.refl _ _).put (.tail _ (.head _))))
  simp only [List.forall_mem_cons]
  exact ⟨some_ne h1, some_ne h2, nofun⟩
end
/-- what the run stands on -/
structure Sit where
  nu : Addr
  cf : Addr
  cg : Addr
  ch : Addr
  c0 : Addr
  c1 : Addr
  g0 : Addr
  g1 : Addr
  s0 : LS
  s1 : LS
  c : Int
  ns : List Int
  told : List (Int × Int)
def ctxX : Array UInt8 := List.toArray [120]
structure Base (W : Store) (z : Sit) : Prop where
  nums : W z.nu = some (.list (ivs z.ns))
  ne : z.ns ≠ []
  len : z.ns.length ≤ 60
  pos : ∀ x ∈ z.ns, 0 ≤ x
  cfs : W z.cf = some (.list [.ref z.c0, .ref z.c1])
  cgs : W z.cg = some (.list [.ref z.g0, .ref z.g1])
  C0 : CfgL none₀ W z.c0 z.s0
  C1 : CfgL none₀ W z.c1 z.s1
  H0 : IsCh W z.g0 z.c0
  H1 : IsCh W z.g1 z.c1
  G0 : z.s0.Good
  G1 : z.s1.Good
  cc : IsCC W z.ch (z.c % 3) z.told ctxX
  sok : stepsOk z.told
  posc : 0 ≤ z.c
theorem Base.ext {W W' : Store} {z : Sit} (B : Base W z) (e : Ext W W') : Base W' z :=
  ⟨e _ _ B.nums, B.ne, B.len, B.pos, e _ _ B.cfs, e _ _ B.cgs, B.C0.ext e, B.C1.ext e, B.H0.ext e, B.H1.ext e, B.G0, B.G1, B.cc.ext e, B.sok, B.posc⟩
def base (z : Sit) (q : Nat → Option AV) : Nat → Option AV := st (st (st (fr z.nu (.tup [stV z.s0, stV z.s1]) z.cf z.cg q) 10 (.int z.c)) 12 (preV z.told)) 13 (.ref z.ch)
/-- one of the two -/
structure Pick (W : Store) (z : Sit) (k : Int) (s : LS) (c g : Addr) : Prop where
  k0 : 0 ≤ k
  kl : k < 2 ^ 62
  st : [stV z.s0, stV z.s1][k.toNat]? = some (stV s)
  cf : [AV.ref z.c0, .ref z.c1][k.toNat]? = some (.ref c)
  cg : [AV.ref z.g0, .ref z.g1][k.toNat]? = some (.ref g)
  C : CfgL none₀ W c s
  H : IsCh W g c
  G : s.Good
theorem Base.pick {W : Store} {z : Sit} (B : Base W z) {k : Int} (hk : k = 0 ∨ k = 1) : ∃ s c g, Pick W z k s c g := by
  rcases hk with rfl | rfl
  · exact ⟨_, _, _, by decide, by decide, rfl, rfl, rfl, B.C0, B.H0, B.G0⟩
  · exact ⟨_, _, _, by decide, by decide, rfl, rfl, rfl, B.C1, B.H1, B.G1⟩
theorem two01 : ∀ k ∈ ([0, 1] : List Int), k = 0 ∨ k = 1 := by decide
/-- what is kept of an answer -/
structure KE where
  a : Addr
  d : Addr
  v : Addr
  o : Addr
  l : Addr
  x : Addr
  s : LS
def KE.cells (e : KE) : List Addr := [e.a, e.d, e.v, e.o, e.l, e.x]
def KE.Ok (W : Store) (e : KE) : Prop := Rec 251 cfgL W e.a e.d e.v e.o e.l e.x e.s.sets.V e.s.sets.O e.s.sets.L e.s.sets.N e.s.au
def KE.val (e : KE) : AV := .tup [.ref e.a, rowL e.s]
structure Kept (Wb W : Store) (kp : Addr) (ks : List KE) : Prop where
  at_ : W kp = some (.list (ks.map KE.val))
  new_ : Wb kp = none
  ok : ∀ e ∈ ks, e.Ok W
  no : ∀ e ∈ ks, kp ∉ e.cells
  fresh : ∀ e ∈ ks, ∀ b ∈ e.cells, Wb b = none
  apart : ks.Pairwise fun e e' => ∀ b ∈ e.cells, b ∉ e'.cells
theorem Kept.ext {Wb W W' : Store} {kp : Addr} {ks : List KE} (K : Kept Wb W kp ks) (e : Ext W W') : Kept Wb W' kp ks :=
  ⟨e _ _ K.at_, K.new_, fun x hx => (K.ok x hx).ext e, K.no, K.fresh, K.apart⟩
theorem Kept.spoilt {Wb W W' : Store} {kp : Addr} {ks : List KE} {D : List Addr} (K : Kept Wb W kp ks) (e : ExtS D W W') (h : kp ∉ D) (h2 : ∀ e ∈ ks, ∀ b ∈ e.cells, b ∉ D) : Kept Wb W' kp ks :=
  ⟨e _ _ h K.at_, K.new_, fun x hx => (K.ok x hx).spoilt e (h2 x hx), K.no, K.fresh, K.apart⟩
theorem Kept.some {Wb W : Store} {kp : Addr} {ks : List KE} (K : Kept Wb W kp ks) : W kp ≠ none ∧ ∀ e ∈ ks, ∀ b ∈ e.cells, W b ≠ none :=
  ⟨some_ne K.at_, fun e he b hb => Rec.some (K.ok e he) b hb⟩
theorem Kept.add {Wb W : Store} {kp : Addr} {ks : List KE} {e : KE} (K : Kept Wb W kp ks) (he : e.Ok W) (hn : kp ∉ e.cells) (hf : ∀ b ∈ e.cells, Wb b = none) (hd : ∀ e' ∈ ks, ∀ b ∈ e'.cells, b ∉ e.cells) :
    Kept Wb (upd W kp (.list (ks.map KE.val ++ [e.val]))) kp (ks ++ [e]) := by
  have q : ∀ x : KE, x.Ok W → kp ∉ x.cells → x.Ok (upd W kp (.list (ks.map KE.val ++ [e.val]))) := fun x hx hk =>
    Rec.spoilt (D := [kp]) hx ((ExtS.refl _ _).put (.head _)) fun b hb hb2 => hk (List.mem_singleton.mp hb2 ▸ hb)
  exact ⟨by rw [upd_same, List.map_append]; rfl, K.new_, List.forall_mem_append.mpr ⟨fun x hx => q x (K.ok x hx) (K.no x hx), List.forall_mem_singleton.mpr (q e he hn)⟩, List.forall_mem_append.mpr ⟨K.no, List.forall_mem_singleton.mpr hn⟩,
    List.forall_mem_append.mpr ⟨K.fresh, List.forall_mem_singleton.mpr hf⟩, List.pairwise_append.mpr ⟨K.apart, List.pairwise_singleton _ _, fun x hx y hy => List.mem_singleton.mp hy ▸ hd x hx⟩⟩
noncomputable def whatT (z : Sit) (way : Int) : Int := if 3 < way then whatA (z.c % 3) z.told else way % 3
noncomputable def onT (z : Sit) (way : Int) (fl : Bool) : Bool := if 3 < way then decide (z.c % 3 ≠ 2) else fl
noncomputable def stepsT (z : Sit) (way : Int) (ps : List (Int × Int)) : List (Int × Int) := if 3 < way then z.told else ps
theorem after_ask {z : Sit} {way : Int} {fl : Bool} {ps : List (Int × Int)} (s : LS) : (if 3 < way then s.after (whatA (z.c % 3) z.told) (decide (z.c % 3 ≠ 2)) z.told else s.after (way % 3) fl ps) = s.after (whatT z way) (onT z way fl) (stepsT z way ps) := by
  unfold whatT onT stepsT
  split <;> rfl
theorem whatT_range {z : Sit} (way : Int) : 0 ≤ whatT z way ∧ whatT z way ≤ 2 := by
  unfold whatT whatA
  split
  · split <;> omega
  · omega
theorem eqOk_pre {n : Nat} (ps : List (Int × Int)) : eqOk (n + 2) (preV ps) := List.forall_mem_map.mpr fun p _ => List.forall_mem_cons.mpr ⟨by cases n <;> trivial, List.forall_mem_singleton.mpr (by cases n <;> trivial)⟩
theorem eqOk_cc (tr : Int) (ps : List (Int × Int)) (ctx : Array UInt8) : eqOk 6 (ccV tr ps ctx) := List.forall_mem_cons.mpr ⟨trivial, List.forall_mem_cons.mpr ⟨eqOk_pre (n := 3) ps, List.forall_mem_singleton.mpr trivial⟩⟩
/-- an answer of an asking: nothing, or a configuration that is new -/
def Ans (W₀ W : Store) (q : Option LS) (v : AV) : Prop := match q with
  | none => v = .none
  | some t => ∃ r, v = .ref r ∧ CfgL W₀ W r t
theorem Ans.ask {W : Store} {q : Option LS} {Q : AV → Store → Prop} (h : ∀ v W', Ext W W' → Ans W W' q v → Q v W') : Ask W q Q :=
  ⟨fun e W' x => h _ W' x (by rw [e]; rfl), fun t e r W' x c => h _ W' x (by rw [e]; exact ⟨r, rfl, c⟩)⟩
section
variable {prog : Program} {w : World} {h : Heap} {X : Store → Prop} {Q : AFlow → Vars → Store → Prop} {W Wb : Store} {z : Sit} {q : Nat → Option AV} {kp : Addr}
theorem c_tupP {P : Px} {n : Nat} {x : Addr} {ps : List (Int × Int)} {W : Store} {Q : AV → Store → Prop} {X : Store → Prop} (h1 : W x = some (.list (ps.map prV))) (h2 : (ps.map prV).length ≤ 1000) (h : Q (preV ps) W) : Call P n (.ty "tuple") [.ref x] W Q X := c_tuple h1 h2 h
theorem steps_k {ps : List (Int × Int)} (h : stepsOk ps) : (ps.map prV).length ≤ 1000 := by rw [List.length_map]; exact Nat.le_trans h.1 (by decide)
/-- the two configurations tell what they told -/
theorem loop_13 (ok : PxOk (PX prog w h)) {a b : Addr} {vs : List (Int × Bool)} {as : List (Int × Int)} (B : Base W z) (hva : W a = some (.dict (dB vs))) (hab : W b = some (.dict (dI as))) (H : Hd vs as) (done : ∀ u W₁, Ext W W₁ → Q .next (LV (fun j => cond (Nat.beq j 16) u (st (st (base z q) 14 (.ref a)) 15 (.ref b) j))) W₁) :
    forL (fun v m k => k (setk m 16 v)) (wkS (q_439_13b (PX prog w h) 210) X) (fun _ => True) Q (ivs [0, 1]) (LV (st (st (base z q) 14 (.ref a)) 15 (.ref b))) W := by
  refine for1_list (g := AV.int) (fun u => LV (fun j => cond (Nat.beq j 16) u (st (st (base z q) 14 (.ref a)) 15 (.ref b) j))) (fun rest u W₁ => (∀ k ∈ rest, k = 0 ∨ k = 1) ∧ Ext W W₁) (fun u W₁ z => done u W₁ z.2) (fun k r u W₁ z => ?_) [0, 1] (q 16) W ⟨two01, Ext.refl W⟩
  obtain ⟨hr, e⟩ := z
  obtain ⟨hk, hr⟩ := List.forall_mem_cons.mp hr
  have B1 := B.ext e
  obtain ⟨s, c, g, p⟩ := B1.pick hk
  refine b_go (if_mid (fun t W' => t = false ∧ Ext W₁ W') (.inl ⟨_, .ref c, B1.cfs, .inl ⟨p.k0, p.kl, p.cf⟩, Nat.le_of_ble_eq_true rfl, stV s, p.k0, p.kl, p.st, c_fn (keepK _ (by decide)) (spec_tells ok p.G p.C (e _ _ hva) (e _ _ hab) H fun W₂ e₂ => ⟨rfl, e₂⟩)⟩) (fun _ q => nomatch q.1) fun W₂ q => ?_)
  exact ⟨trivial, some (.int k), rfl, hr, e.trans q.2⟩
/-- the two stand as they stood -/
theorem turn_d (ok : PxOk (PX prog w h)) (B : Base W z) (done : ∀ q' W₁, Ext W W₁ → Q .next (LV (st (base z q') 17 (.ref kp))) W₁) : q_439_15b_16 (PX prog w h) 210 X (LV (st (base z q) 17 (.ref kp))) W Q := by
  refine b_go ⟨_, _, .tup _ (by decide), ?_⟩
  refine for1_list (g := AV.int) (fun u => LV (st (base z (fun j => cond (Nat.beq j 30) u (q j))) 17 (.ref kp))) (fun rest u W₁ => (∀ k ∈ rest, k = 0 ∨ k = 1) ∧ Ext W W₁) (fun u W₁ z => done _ W₁ z.2) (fun k r u W₁ z => ?_) [0, 1] (q 30) W ⟨two01, Ext.refl W⟩
  obtain ⟨hr, e⟩ := z
  obtain ⟨hk, hr⟩ := List.forall_mem_cons.mp hr
  have B1 := B.ext e
  obtain ⟨s, c, g, p⟩ := B1.pick hk
  refine b_go (if_mid (fun t W' => t = false ∧ Ext W₁ W') (.inl ⟨_, .ref c, B1.cfs, .inl ⟨p.k0, p.kl, p.cf⟩, Nat.le_of_ble_eq_true rfl, m_row ok p.C ⟨stV s, p.k0, p.kl, p.st, c_fn (keepK _ (by decide)) (spec_row ok p.G fun W₂ e₂ => ⟨rfl, eqOk_row _ _ _ _ _, rfl, e₂⟩)⟩⟩) (fun _ q => nomatch q.1) fun W₂ q => ?_)
  exact ⟨trivial, some (.int k), rfl, hr, e.trans q.2⟩
end
section
variable {prog : Program} {w : World} {h : Heap} {X : Store → Prop} {Q : AFlow → Vars → Store → Prop} {W Wb : Store} {z : Sit} {q : Nat → Option AV} {kp : Addr}
/-- what is given is asked, spoilt and kept -/
theorem turn_c (ok : PxOk (PX prog w h)) {ks : List KE} {W₂ W₃ : Store} {zz : Int} {r r2 : Addr} {t : LS} (hz : 0 ≤ zz) (Gt : t.Good) (B : Base Wb z) (E2 : Ext Wb W₂) (E23 : Ext W₂ W₃) (E34 : Ext W₃ W) (K2 : Kept Wb W₂ kp ks) (hks : ks.length ≤ 100) (c3 : CfgL W₂ W₃ r t) (c4 : CfgL W₃ W r2 t)
    (hQ : ∀ q' W₁ ks', Ext Wb W₁ → Kept Wb W₁ kp ks' → ks'.length ≤ ks.length + 1 → Q .next (LV (st (base z q') 17 (.ref kp))) W₁) :
    q_439_15b_15t (PX prog w h) 210 X (LV (st (st (st (st (st (base z q) 17 (.ref kp)) 19 (.int zz)) 27 (stV t)) 28 (.ref r)) 29 (.ref r2))) W (behind (fun m W' => q_439_15b_16 (PX prog w h) 210 X m W' Q) Q) := by
  refine b_go (c_fn (keepK _ (by decide)) (spec_heard ok hz fun a b vs as W₅ e₅ hva hab H => ⟨_, _, rfl, ?_⟩))
  refine b_go (if_mid (fun b W' => b = false ∧ Ext W₅ W') (c_fn (keepK _ (by decide)) (spec_tells ok Gt ((c3.any.ext E34).ext e₅) hva hab H fun W₆ e₆ => ⟨rfl, e₆⟩)) (fun _ q => nomatch q.1) fun W₆ e₆ => ?_)
  have e46 := e₅.trans e₆.2
  obtain ⟨d1, v1, o1, l1, x1, R1, F1⟩ := c3
  obtain ⟨d2, v2, o2, l2, x2, R2, F2⟩ := c4
  have E3 := E2.trans E23
  have K3 := K2.ext E23
  refine b_go (c_fn (keepK _ (by decide)) (spec_spoil ok ((R1.ext E34).ext e46) fun W₇ e₇ => ⟨rfl, ?_⟩))
  have fD : ∀ b ∈ [v1, o1, l1, x1], W₂ b = none := fun b hb => F1 b (.tail _ (.tail _ hb))
  have E7 : Ext Wb W₇ := e₇.old ((E3.trans E34).trans e46) fun b hb => E2.none (fD b hb)
  have K7 : Kept Wb W₇ kp ks := ((K3.ext E34).ext e46).spoilt e₇ (fun hb => K2.some.1 (fD _ hb)) fun e he b hb hb2 => K2.some.2 e he b hb (fD b hb2)
  have R27 := (R2.ext e46).spoilt e₇ fun b hb hb2 => Rec.some R1 b (.tail _ (.tail _ hb2)) (F2 b hb)
  refine b_go (m_app K7.at_ (c_fn (keepK _ (by decide)) (spec_row ok Gt fun W₈ e₈ => ⟨_, _, rfl, (K7.ext e₈).at_, by rw [List.length_map]; exact Nat.le_trans hks (by decide), rfl, ?_⟩)))
  have K9 : Kept Wb _ kp (ks ++ [⟨r2, d2, v2, o2, l2, x2, t⟩]) := (K7.ext e₈).add (e := ⟨r2, d2, v2, o2, l2, x2, t⟩) (R27.ext e₈) (fun hb => K3.some.1 (F2 _ hb)) (fun b hb => E3.none (F2 b hb)) (fun e' he' b hb hb2 => K3.some.2 e' he' b hb (F2 b hb2))
  have E9 : Ext Wb (upd W₈ kp (.list (ks.map KE.val ++ [(KE.mk r2 d2 v2 o2 l2 x2 t).val]))) := (E7.trans e₈).upd K7.new_
  refine turn_d ok (q := st (st (st (st (st (st q 19 (.int zz)) 27 (stV t)) 28 (.ref r)) 29 (.ref r2)) 14 (.ref a)) 15 (.ref b)) (B.ext E9) fun q' W₁ e => hQ q' W₁ _ (E9.trans e) (K9.ext e) (by rw [List.length_append]; exact Nat.le_refl _)
/-- the asking itself, twice -/
theorem turn_b (ok : PxOk (PX prog w h)) {ks : List KE} {zz way : Int} {odd fl on : Bool} {what : Int} {sa : Addr} {ps sts : List (Int × Int)} (hz : 0 ≤ zz) (hway : 0 ≤ way ∧ way ≤ 5) (B : Base Wb z) (E1 : Ext Wb W) (K1 : Kept Wb W kp ks) (hks : ks.length ≤ 100) (hst : W sa = some (.list (ps.map prV))) (hps : stepsOk ps)
    (hwh : what = whatT z way) (hon : on = onT z way fl) (hsts : sts = stepsT z way ps)
    (hQ : ∀ q' W₁ ks', Ext Wb W₁ → Kept Wb W₁ kp ks' → ks'.length ≤ ks.length + 1 → Q .next (LV (st (base z q') 17 (.ref kp))) W₁) :
    q_439_15b_8 (PX prog w h) 210 X (LV (st (st (st (st (st (st (st (st (st (st (base z q) 17 (.ref kp)) 19 (.int zz)) 20 (.int way)) 21 (.bool odd)) 22 (.bool fl)) 11 (.ref sa)) 23 (preV ps)) 24 (.bool on)) 25 (.int what)) 26 (preV sts))) W Q := by
  have hwr : 0 ≤ what ∧ what ≤ 2 := hwh ▸ whatT_range way
  have hsr : stepsOk sts := by
    rw [hsts]; unfold stepsT
    split
    · exact B.sok
    · exact hps
  have hask := after_ask (z := z) (way := way) (fl := fl) (ps := ps)
  rw [← hwh, ← hon, ← hsts] at hask
  clear hwh hon hsts
  refine b_go ?_
  refine b_mid (fun m₁ W₂ => W = W₂ ∧ ∃ k : Int, (k = 0 ∨ k = 1) ∧ m₁ = LV (st (st (st (st (st (st (st (st (st (st (st (base z q) 17 (.ref kp)) 19 (.int zz)) 20 (.int way)) 21 (.bool odd)) 22 (.bool fl)) 11 (.ref sa)) 23 (preV ps)) 24 (.bool on)) 25 (.int what)) 26 (preV sts)) 16 (.int k))) (if_go (decide (what = 2) != odd) ⟨rfl, rfl⟩ (fun _ => b_go ⟨rfl, 1, .inr rfl, rfl⟩) fun _ => ⟨rfl, 0, .inl rfl, rfl⟩) ?_
  rintro _ _ ⟨rfl, k, hk, rfl⟩
  have B1 := B.ext E1
  obtain ⟨s, c, g, p⟩ := B1.pick hk
  have hask := hask s
  refine b_go ⟨stV s, p.k0, p.kl, p.st, c_fn (keepK _ (by decide)) (spec_after ok p.G hsr hwr fun W₂ e₂ => ?_)⟩
  have hgood : ∀ t, s.after what on sts = some t → t.Good := fun t ht => after_good p.G hsr.2 ht
  generalize s.after what on sts = res at *
  have B2 := B1.ext e₂
  have h3 : 0 ≤ z.c % 3 ∧ z.c % 3 ≤ 2 := ⟨Int.emod_nonneg _ (by decide), Int.le_of_lt_add_one (Int.emod_lt_of_pos _ (by decide))⟩
  refine b_go (.inl ⟨_, .ref g, B2.cgs, .inl ⟨p.k0, p.kl, p.cg⟩, Nat.le_of_ble_eq_true rfl, .inl ⟨_, .ref c, B2.cfs, .inl ⟨p.k0, p.kl, p.cf⟩, Nat.le_of_ble_eq_true rfl, c_fn (keepK _ (by decide)) (spec_ask ok (tr := z.c % 3) (told := z.told) (p.H.ext e₂) (p.C.ext e₂) p.G B2.cc h3 (e₂ _ _ hst) hps B.sok hway (Ans.ask fun v W₃ e₃ a₃ => ?_))⟩⟩)
  rw [hask] at a₃
  have B3 := B2.ext e₃
  refine b_go (.inl ⟨_, .ref g, B3.cgs, .inl ⟨p.k0, p.kl, p.cg⟩, Nat.le_of_ble_eq_true rfl, .inl ⟨_, .ref c, B3.cfs, .inl ⟨p.k0, p.kl, p.cf⟩, Nat.le_of_ble_eq_true rfl, c_fn (keepK _ (by decide)) (spec_ask ok (tr := z.c % 3) (told := z.told) ((p.H.ext e₂).ext e₃) ((p.C.ext e₂).ext e₃) p.G B3.cc h3 ((e₂.trans e₃) _ _ hst) hps B.sok hway (Ans.ask fun v2 W₄ e₄ a₄ => ?_))⟩⟩)
  rw [hask] at a₄
  have B4 := B3.ext e₄
  have E2 := E1.trans e₂
  have E4 := (E2.trans e₃).trans e₄
  have K4 := ((K1.ext e₂).ext e₃).ext e₄
  -- what was lent stands as it stood
  refine b_go (if_false_go (c_tupP (((e₂.trans e₃).trans e₄) _ _ hst) (steps_k hps) ⟨rfl, eqOk_pre (n := 4) ps, (fun q => nomatch q), fun _ => m_cc B4.cc (m_124 w) (fun _ => by kernel_rfl) (spec_cc_row ok B4.cc (steps_k B.sok) ⟨by decide, rfl, eqOk_cc _ _ _, rfl, rfl⟩)⟩) ?_)
  cases res with
  | none =>
    have a₃ : v = .none := a₃
    have a₄ : v2 = .none := a₄
    subst a₃ a₄
    refine b_go (if_false_go ⟨(fun q => nomatch q), fun _ => ⟨rfl, rfl⟩⟩ ?_)
    refine b_go (if_false_go ⟨rfl, rfl⟩ ?_)
    exact turn_d ok (q := st (st (st (st (st (st (st (st (st (st (st (st (st q 19 (.int zz)) 20 (.int way)) 21 (.bool odd)) 22 (.bool fl)) 11 (.ref sa)) 23 (preV ps)) 24 (.bool on)) 25 (.int what)) 26 (preV sts)) 16 (.int k)) 27 .none) 28 .none) 29 .none) B4 fun q' W₁ e => hQ q' W₁ ks (E4.trans e) (K4.ext e) (Nat.le_succ _)
  | some t =>
    obtain ⟨r, rfl, c3⟩ := a₃
    obtain ⟨r2, rfl, c4⟩ := a₄
    refine b_go (if_false_go ⟨(fun q => nomatch q), fun _ => ⟨rfl, rfl⟩⟩ ?_)
    exact b_go (if_true_go ⟨rfl, rfl⟩ (turn_c ok (q := st (st (st (st (st (st (st (st (st q 20 (.int way)) 21 (.bool odd)) 22 (.bool fl)) 11 (.ref sa)) 23 (preV ps)) 24 (.bool on)) 25 (.int what)) 26 (preV sts)) 16 (.int k)) hz (hgood t rfl) B E2 e₃ e₄ (K1.ext e₂) hks c3 c4 hQ))
/-- a turn of the law's loop -/
theorem turn_a (ok : PxOk (PX prog w h)) {ks : List KE} {turn : Int} (h0 : 0 ≤ turn) (B : Base Wb z) (E : Ext Wb W) (K : Kept Wb W kp ks) (hks : ks.length ≤ 100)
    (hQ : ∀ q' W₁ ks', Ext Wb W₁ → Kept Wb W₁ kp ks' → ks'.length ≤ ks.length + 1 → Q .next (LV (st (base z q') 17 (.ref kp))) W₁) :
    q_439_15b (PX prog w h) 210 X (LV (st (st (base z q) 17 (.ref kp)) 18 (.int turn))) W Q := by
  have h7 := Int.add_nonneg (show (0 : Int) ≤ 3 by decide) (Int.emod_nonneg turn (show (7 : Int) ≠ 0 by decide))
  refine b_go ⟨by decide, c_fn (keepK _ (by decide)) (spec_draw ok (E _ _ B.nums) B.ne B.len B.pos h7 fun zz hz => ?_)⟩
  refine b_go ⟨by decide, b_go ⟨by decide, by decide, by decide, ?_⟩⟩
  -- the way
  refine b_mid (fun m₁ W₁ => W = W₁ ∧ ∃ way odd, (0 ≤ way ∧ way ≤ 5) ∧ m₁ = LV (st (st (st (st (base z (st q 18 (.int turn))) 17 (.ref kp)) 19 (.int zz)) 20 (.int way)) 21 (.bool odd))) (if_prop (turn % 7 = 0) ⟨by decide, rfl, rfl⟩ (fun _ => b_go (b_go ⟨rfl, 0, false, by decide, rfl⟩)) fun _ => b_go (if_prop (turn = 6) ⟨rfl, rfl⟩ (fun _ => b_go (b_go ⟨rfl, 2, false, by decide, rfl⟩)) fun _ =>
    ⟨rfl, zz % 6, decide (zz / 6 % 3 = 1), ⟨Int.emod_nonneg _ (by decide), Int.le_of_lt_add_one (Int.emod_lt_of_pos _ (by decide))⟩, rfl⟩)) ?_
  rintro _ _ ⟨rfl, way, odd, hway, rfl⟩
  refine b_go ⟨by decide, by decide, by decide, ?_⟩
  refine b_go ⟨by decide, by decide, c_fn (keepK _ (by decide)) (spec_steps ok (Int.ediv_nonneg hz (by decide)) fun sa ps W₁ e₁ fst hst hps => ?_)⟩
  refine b_go (c_tupP hst (steps_k hps) ?_)
  -- what is asked
  have l12 := steps_k B.sok
  refine b_mid (fun m₁ W₂ => W₁ = W₂ ∧ m₁ = LV (st (st (st (st (st (st (st (st (st (st (base z (st q 18 (.int turn))) 17 (.ref kp)) 19 (.int zz)) 20 (.int way)) 21 (.bool odd)) 22 (.bool (decide (zz / 18 % 2 = 1)))) 11 (.ref sa)) 23 (preV ps)) 24 (.bool (onT z way (decide (zz / 18 % 2 = 1))))) 25 (.int (whatT z way))) 26 (preV (stepsT z way ps)))) (if_prop (3 < way) ⟨rfl, rfl⟩ (fun v => ?_) fun v => ?_) ?_
  · unfold onT whatT stepsT
    rw [if_pos v, if_pos v, if_pos v]
    unfold whatA
    refine b_go ⟨by decide, b_go (b_go (if_prop (z.c % 3 = 0 ∧ z.told.length < 2) ⟨by decide, fun q3 => c_lenT l12 ⟨?_, rfl⟩, fun q3 => ⟨?_, rfl⟩⟩ (fun q2 => b_go (c_lenT l12 ⟨two_small, b_go ⟨rfl, ?_⟩⟩)) fun q2 => b_go ⟨rfl, ?_⟩))⟩
    · rw [List.length_map]
      exact decide_eq_decide.mpr ⟨fun h => ⟨of_decide_eq_true q3, Int.ofNat_lt.mp h⟩, fun h => Int.ofNat_lt.mpr h.2⟩
    · exact (decide_eq_false fun h => of_decide_eq_false q3 h.1).symm
    · rw [if_pos q2, List.length_map]; rfl
    · rw [if_neg q2]; rfl
  · unfold onT whatT stepsT
    rw [if_neg v, if_neg v, if_neg v]
    exact b_go ⟨by decide, b_go (b_go ⟨rfl, rfl⟩)⟩
  rintro _ _ ⟨rfl, rfl⟩
  exact turn_b ok hz hway B (E.trans e₁) (K.ext e₁) hks hst hps rfl rfl rfl hQ
end
theorem IsCCn.spoilt {D : List Addr} {W₀ W W' : Store} {g : Addr} {tr : Int} {ps : List (Int × Int)} {ctx : Array UInt8} (x : IsCCn W₀ W g tr ps ctx) (hD : ∀ b ∈ D, W₀ b ≠ none) (e : ExtS D W W') : IsCCn W₀ W' g tr ps ctx :=
  let ⟨d, l, n, h1, h2, h3⟩ := x
  ⟨d, l, n, e _ _ (fun h => hD _ h n.1) h1, e _ _ (fun h => hD _ h n.2.1) h2, e _ _ (fun h => hD _ h n.2.2) h3⟩
section
variable {prog : Program} {w : World} {h : Heap} {X : Store → Prop} {W Wb : Store} {z : Sit} {q : Nat → Option AV} {kp : Addr}
theorem loop_15 (ok : PxOk (PX prog w h)) {Q : AFlow → Vars → Store → Prop} (B : Base Wb z) (E : Ext Wb W) (K : Kept Wb W kp []) (done : ∀ q' W₁ ks, Ext Wb W₁ → Kept Wb W₁ kp ks → ks.length ≤ 8 → Q .next (LV (st (base z q') 17 (.ref kp))) W₁) :
    forL (fun v m k => k (setk m 18 v)) (wkS (q_439_15b (PX prog w h) 210) X) (fun _ => True) Q ((List.range 8).map fun (i : Nat) => AV.int (0 + i)) (LV (st (base z q) 17 (.ref kp))) W := by
  refine for1_list (g := fun i : Nat => AV.int (0 + i)) (fun q => LV (st (base z q) 17 (.ref kp))) (fun rest q W₁ => Ext Wb W₁ ∧ ∃ ks, Kept Wb W₁ kp ks ∧ ks.length + rest.length ≤ 8) (fun q' W₁ z => ?_) (fun y r q' W₁ z => ?_) (List.range 8) q W ⟨E, [], K, Nat.le_refl 8⟩
  · obtain ⟨e, ks, k, l⟩ := z
    exact done q' W₁ ks e k l
  · obtain ⟨e, ks, k, l⟩ := z
    refine turn_a ok (q := q') (turn := 0 + (y : Int)) (Int.add_nonneg (by decide) (Int.natCast_nonneg y)) B e k (Nat.le_trans (Nat.le_trans (Nat.le_add_right _ _) l) (by decide)) fun q'' W₂ ks' e' k' l' => ⟨trivial, q'', rfl, e', ks', k', ?_⟩
    have l : ks.length + (r.length + 1) ≤ 8 := l
    omega
theorem loop_16 (ok : PxOk (PX prog w h)) {Q : AFlow → Vars → Store → Prop} {ks : List KE} (E : Ext Wb W) (K : Kept Wb W kp ks) (done : ∀ q' W₁, Ext Wb W₁ → Q .next (LV (st (base z q') 17 (.ref kp))) W₁) :
    forL (fun v m k => ∃ a b, v = .tup [a, b] ∧ k (setk (setk m 9 a) 6 b)) (wkS (q_439_16b (PX prog w h) 210) X) (fun W' => W' kp = some (.list (ks.map KE.val))) Q (ks.map KE.val) (LV (st (base z q) 17 (.ref kp))) W := by
  refine for2_list (g := fun e : KE => AV.ref e.a) (g' := fun e : KE => rowL e.s) (fun q => LV (st (base z q) 17 (.ref kp))) (fun rest q W₁ => Ext Wb W₁ ∧ W₁ kp = some (.list (ks.map KE.val)) ∧ (∀ e ∈ rest, e.Ok W₁ ∧ e ∈ ks) ∧ rest.Pairwise fun e e' => ∀ b ∈ e.cells, b ∉ e'.cells) (fun q' W₁ z => done q' W₁ z.1) (fun y r q' W₁ z => ?_) ks q W ⟨E, K.at_, fun e he => ⟨K.ok e he, he⟩, K.apart⟩
  obtain ⟨e, hk, hr, ha⟩ := z
  obtain ⟨⟨hq, hqm⟩, hr⟩ := List.forall_mem_cons.mp hr
  obtain ⟨ha1, ha2⟩ := List.pairwise_cons.mp ha
  have hin : ∀ b ∈ [y.v, y.o, y.l, y.x], b ∈ y.cells := fun b hb => .tail _ (.tail _ hb)
  refine b_go (if_false_go (m_row ok (W₀ := none₀) ⟨_, _, _, _, _, hq, fun _ _ => rfl⟩ ⟨rfl, eqOk_row _ _ _ _ _, rfl, rfl⟩) (b_go (c_fn (keepK _ (by decide)) (spec_spoil ok hq fun W₂ e₂ => ⟨rfl, ?_⟩))))
  have hk2 := e₂ _ _ (fun hb => K.no y hqm (hin _ hb)) hk
  exact ⟨hk2, st (st q' 9 (.ref y.a)) 6 (rowL y.s), rfl, e₂.old e (fun b hb => K.fresh y hqm b (hin b hb)), hk2, fun e' he' => ⟨Rec.spoilt (hr e' he').1 e₂ (fun b hb hb2 => ha1 e' he' b (hin b hb2) hb), (hr e' he').2⟩, ha2⟩
variable {Q : AV → Store → Prop}
theorem law_17 (ok : PxOk (PX prog w h)) (B : Base W z) (hQ : ∀ W', Q (.bool true) W') : q_439_17 (PX prog w h) 210 X (LV (base z q)) W (retQ Q) := by
  refine b_go (c_fn (keepK _ (by decide)) (spec_draw ok B.nums B.ne B.len B.pos (by decide) fun y hy => c_fn (keepK _ (by decide)) (spec_heard ok hy fun vb ab vt at' W₁ e₁ hvb hab Hb => ⟨_, _, rfl, ?_⟩)))
  have B1 := B.ext e₁
  refine b_go (.inl ⟨_, .ref z.c0, B1.cfs, .inl ⟨by decide, by decide, rfl⟩, Nat.le_of_ble_eq_true rfl, stV z.s0, by decide, by decide, rfl, c_fn (keepK _ (by decide)) (spec_tells ok B.G0 B1.C0 hvb hab Hb fun W₂ e₂ => ⟨fun _ => ?_, fun q => nomatch q⟩)⟩)
  have B2 := B1.ext e₂
  exact .inl ⟨_, .ref z.c1, B2.cfs, .inl ⟨by decide, by decide, rfl⟩, Nat.le_of_ble_eq_true rfl, stV z.s1, by decide, by decide, rfl, c_fn (keepK _ (by decide)) (spec_tells ok B.G1 B2.C1 (e₂ _ _ hvb) (e₂ _ _ hab) Hb fun W₃ e₃ => hQ _)⟩
theorem law_12 (ok : PxOk (PX prog w h)) (B : Base W z) (hQ : ∀ W', Q (.bool true) W') : q_439_12 (PX prog w h) 210 X (LV (base z q)) W (retQ Q) := by
  refine b_go (c_fn (keepK _ (by decide)) (spec_heard ok B.posc fun va aa vs as W₉ e₉ hva haa Hh => ⟨_, _, rfl, ?_⟩))
  have B9 := B.ext e₉
  refine b_go ⟨_, _, .tup _ (by decide), loop_13 ok (q := q) B9 hva haa Hh fun u W₁ e₁ => ?_⟩
  have B1 := B9.ext e₁
  refine b_go fun kp fkp => ?_
  refine b_go (c_range1 (by decide) (by decide) ⟨_, _, src_rng0 (j := 8) (by decide), loop_15 ok (kp := kp) (q := fun j => cond (Nat.beq j 16) u (st (st q 14 (.ref va)) 15 (.ref aa) j)) B1 ((Ext.refl _).upd fkp) ⟨upd_same _ _ _, fkp, nofun, nofun, nofun, .nil⟩ fun q' W₂ ks e₂ K l => ?_⟩)
  refine b_go ⟨_, _, .list _ _ K.at_ (by rw [List.length_map]; exact Nat.le_trans l (by decide)), loop_16 ok (q := q') e₂ K fun q'' W₃ e₃ => ?_⟩
  exact law_17 ok (q := st q'' 17 (.ref kp)) (B1.ext e₃) hQ
theorem law_6 (ok : PxOk (PX prog w h)) {nu cf cg c0 c1 g0 g1 : Addr} {s0 s1 : LS} {ns : List Int} (hns : W nu = some (.list (ivs ns))) (hne : ns ≠ []) (hlen : ns.length ≤ 60) (hpos : ∀ x ∈ ns, 0 ≤ x) (w1 : W cf = some (.list [.ref c0, .ref c1])) (w2 : W cg = some (.list [.ref g0, .ref g1]))
    (C0 : CfgL none₀ W c0 s0) (C1 : CfgL none₀ W c1 s1) (I0 : IsCh W g0 c0) (I1 : IsCh W g1 c1) (G0 : s0.Good) (G1 : s1.Good) (hQ : ∀ W', Q (.bool true) W') : q_439_6 (PX prog w h) 210 X (LV (fr nu (.tup [stV s0, stV s1]) cf cg q)) W (retQ Q) := by
  refine b_go (c_fn (keepK _ (by decide)) (spec_draw ok hns hne hlen hpos (by decide) fun c hc => ?_))
  refine b_go ⟨by decide, by decide, c_fn (keepK _ (by decide)) (spec_steps ok (Int.ediv_nonneg hc (by decide)) fun sa ps W₆ e₆ fst hst hps => ?_)⟩
  refine b_go (c_tupP hst (steps_k hps) ?_)
  refine b_go ⟨by decide, c_fn (keepK _ (by decide)) (new_change ok hst (Nat.le_trans hps.1 (by decide)) fun g W₇ e₇ cc => ?_)⟩
  have h7 := e₇ _ _ hst
  refine b_go (m_rev h7 ⟨_, rfl, h7, steps_k hps, rfl, ?_⟩)
  refine b_go (m_app (upd_same _ _ _) ⟨_, _, rfl, upd_same _ _ _, by rw [List.length_reverse]; exact steps_k hps, rfl, ?_⟩)
  have e8 : ExtS [sa] W₇ (upd (upd W₇ sa (.list (ps.map prV).reverse)) sa (.list ((ps.map prV).reverse ++ [.tup [.int 1, .int 1]]))) := ((ExtS.refl _ _).put (.head _)).put (.head _)
  have x := e8.old (e₆.trans e₇) (List.forall_mem_singleton.mpr fst)
  have cc8 := (cc.spoilt (List.forall_mem_singleton.mpr (some_ne hst)) e8).any
  exact law_12 ok (q := st q 11 (.ref sa)) (z := ⟨nu, cf, cg, g, c0, c1, g0, g1, s0, s1, c, ns, ps⟩) ⟨x _ _ hns, hne, hlen, hpos, x _ _ w1, x _ _ w2, C0.ext x, C1.ext x, I0.ext x, I1.ext x, G0, G1, cc8, hps, hc⟩ hQ
theorem law_2 (ok : PxOk (PX prog w h)) {nu : Addr} {ns : List Int} (hns : W nu = some (.list (ivs ns))) (hne : ns ≠ []) (hlen : ns.length ≤ 60) (hpos : ∀ x ∈ ns, 0 ≤ x) (hQ : ∀ W', Q (.bool true) W') : q_439_2 (PX prog w h) 210 X (LV (st q 1 (.ref nu))) W (retQ Q) := by
  refine b_go (c_fn (keepK _ (by decide)) (spec_draw ok hns hne hlen hpos (by decide) fun x0 hx0 => c_fn (keepK _ (by decide)) (spec_state ok hx0 fun s0 W₂ e₂ G0 => ?_)))
  refine c_fn (keepK _ (by decide)) (spec_draw ok (e₂ _ _ hns) hne hlen hpos (by decide) fun x1 hx1 => c_fn (keepK _ (by decide)) (spec_state ok hx1 fun s1 W₃ e₃ G1 => ?_))
  have n3 := (e₂.trans e₃) _ _ hns
  refine b_go fun cf fcf => b_go fun cg fcg => ?_
  obtain ⟨fcg', hcgf⟩ := upd_none fcg
  have E5 := ((Ext.refl W₃).upd (c := .list []) fcf).upd (c := .list []) fcg'
  have n5 := E5 _ _ n3
  have hnu : nu ∉ [cf, cg] := by
    simp only [List.mem_cons, List.not_mem_nil, or_false, not_or]
    exact ⟨ne_of n3 fcf, ne_of n3 fcg'⟩
  have h1 : upd (upd W₃ cf (.list [])) cg (.list []) cf = some (.list []) := (upd_ne (Ne.symm hcgf)).trans (upd_same _ _ _)
  have h2 : upd (upd W₃ cf (.list [])) cg (.list []) cg = some (.list []) := upd_same _ _ _
  have hD : ∀ b ∈ [cf, cg], upd (upd W₃ cf (.list [])) cg (.list []) b ≠ none := List.forall_mem_cons.mpr ⟨some_ne h1, List.forall_mem_singleton.mpr (some_ne h2)⟩
  show bCons _ _ X _ (upd (upd W₃ cf (.list [])) cg (.list [])) _
  generalize upd (upd W₃ cf (.list [])) cg (.list []) = A at *
  refine b_go ⟨_, _, .tup _ (Nat.le_of_ble_eq_true rfl), _, law_5b ok (nu := nu) (sts := .tup [stV s0, stV s1]) (q := q) G0 h1 h2 (Ne.symm hcgf) (by decide) (by decide) fun q1 W5 c0 g0 x1 a1 b1 C0 I0 => ⟨trivial, _, law_5b ok (nu := nu) (sts := .tup [stV s0, stV s1]) (q := q1) G1 a1 b1 (Ne.symm hcgf) (Nat.le_of_ble_eq_true rfl) (Nat.le_of_ble_eq_true rfl) fun q2 W6 c1 g1 x2 a2 b2 C1 I1 => ⟨trivial, ?_⟩, fun _ _ _ h => h⟩, fun _ _ _ h => h⟩
  exact law_6 ok (q := q2) (x2 _ _ hnu (x1 _ _ hnu n5)) hne hlen hpos a2 b2 ((C0.spoilt hD x2).any) C1.any (I0.spoilt a1 b1 x2) I1 G0 G1 hQ
theorem spec_law (ok : PxOk (PX prog w h)) {a : Addr} {script : List Int} (ha : ReadL (PX prog w h) W a (ivs script)) (hl : script.length ≤ 63) (hQ : ∀ W', Q (.bool true) W') : CodeOk (PX prog w h) 215 439 [.ref a] W Q X := by
  refine g_439 ok (k := 210) rfl ?_
  have ht : (script.take 10).length ≤ 10 := List.length_take_le 10 script
  refine b_go ⟨_, ha, by rw [ivs_len]; exact Nat.le_trans hl (by decide), fun r fr => ?_⟩
  rw [show (ivs script).take 10 = ivs (script.take 10) from by unfold ivs; rw [List.map_take]]
  refine ⟨_, _, .list _ _ (upd_same _ _ _) (by rw [ivs_len]; exact Nat.le_trans ht (by decide)), comp_all (g := AV.int) (l := script.take 10) (fun i => .int (i % 1000000007)) (fun _ _ _ f h => f _ h) (upd_same _ _ _) (Nat.le_trans ht (by decide)) (fun i _ => ⟨by decide, rfl, rfl⟩) fun nu fnu => ?_⟩
  have hns : upd (upd W r (.list (ivs (script.take 10)))) nu (.list ((script.take 10).map fun i => .int (i % 1000000007))) nu = some (.list (ivs ((script.take 10).map (· % 1000000007)))) := by rw [upd_same]; unfold ivs; rw [List.map_map]; rfl
  have hpos : ∀ x ∈ (script.take 10).map (· % 1000000007), 0 ≤ x := List.forall_mem_map.mpr fun i _ => Int.emod_nonneg i (by decide)
  have hlen : ((script.take 10).map (· % 1000000007)).length ≤ 60 := by rw [List.length_map]; exact Nat.le_trans ht (by decide)
  show behind _ _ .next _ (upd (upd W r (.list (ivs (script.take 10)))) nu (.list ((script.take 10).map fun i => .int (i % 1000000007))))
  generalize (script.take 10).map (· % 1000000007) = ns at *
  generalize upd (upd W r (.list (ivs (script.take 10)))) nu (.list ((script.take 10).map fun i => .int (i % 1000000007))) = A at *
  refine b_mid (fun m₁ W₁ => ∃ nu ns, m₁ = LV (st (st (fun _ => none) 0 (.ref a)) 1 (.ref nu)) ∧ W₁ nu = some (.list (ivs ns)) ∧ ns ≠ [] ∧ ns.length ≤ 60 ∧ ∀ x ∈ ns, 0 ≤ x) (if_prop (ns = []) (c_lenI hns (by rw [ivs_len]; exact Nat.le_trans hlen (by decide)) ⟨?_, rfl⟩) (fun _ => b_go fun r fr => ⟨r, [0], rfl, upd_same _ _ _, nofun, by decide, List.forall_mem_singleton.mpr (Int.le_refl 0)⟩) fun hne => ⟨nu, ns, rfl, hns, hne, hlen, hpos⟩) ?_
  · cases ns with
    | nil => rfl
    | cons x l => exact (decide_eq_false (Int.ne_of_gt (Int.natCast_pos.mpr (Nat.succ_pos _)))).trans (decide_eq_false (List.cons_ne_nil x l)).symm
  rintro _ W₁ ⟨nu, ns, rfl, hns, hne, hlen, hpos⟩
  exact law_2 ok hns hne hlen hpos hQ
end
theorem law_runs {prog : Program} {w : World} {s₁ : Shared} (ok : PxOk (PX prog w s₁.heap)) {a : Addr} {vs : List Value} {ns : List Int} (hL : s₁.heap.IsList a vs.toArray) (hI : IntsAre vs ns) (hl : ns.length ≤ 63) :
    wpAny (model prog w) callerA (call (.ref 439) [.ref a]) (fun v s' => v = .bool true ∧ (∀ b o, s₁.heap.get? b = some o → s'.heap.get? b = some o) ∧ s'.os = s₁.os ∧ s'.gens = s₁.gens) (fun _ _ => False) s₁ := by
  have h := ((spec_law (X := fun _ => False) (Q := fun v _ => v = .bool true) (W := fun _ => none) (a := a) (script := ns) ok (.inr ⟨vs, ns, hL, rfl, hI⟩) hl (fun _ => rfl)).call (Nat.le_refl 215)).go
  have st : St (PX prog w s₁.heap) (fun _ => none) (fun _ => none) s₁.heap := ⟨Nat.le_refl _, fun _ _ e => e, fun _ _ e => (by cases e), fun _ _ e => (by cases e)⟩
  refine wpAny_mono (h callerA (fun _ => none) s₁ [] [.ref a] ⟨rfl, by rw [depth_caller]; decide, by rw [units_caller]; decide⟩ rfl (fun e he => by cases he) st (.cons (.ref a) .nil)) (fun v s' z => ?_) (fun e s' z => ?_)
  · obtain ⟨W', h', tk', rfl, S', i', d, xv, q⟩ := z
    subst q
    cases xv
    exact ⟨rfl, S'.keep, rfl, rfl⟩
  · obtain ⟨x, W', h', tk', _, _, _, _, _, z⟩ := z
    exact z.elim
theorem lawHere : (defOf QV (Str.ofString "law")).isSome = true := by kernel_rfl
noncomputable def lawD : DefRec × List (Str × PySem.Expr) := (defOf QV (Str.ofString "law")).get lawHere
theorem law_def : defOf QV (Str.ofString "law") = some (lawD.1, lawD.2) := (Option.some_get lawHere).symm
/-- by the kernel alone, a conjunct at a time: the line «o_law» would prove a twin of the whole text, 115,000 nodes -/
theorem said0 : PySem.Challenge.rw_xm0847_01.wellSaid = true := by
  rw [PySem.W.Fast.te9446332074065402090]
  unfold PySem.W.Fast.tw9446332074065402090 PySem.W.Fast.tw17960256430627541270 PySem.W.Fast.tw2436336058641802641 PySem.W.Fast.tw12908688711261696721
  repeat' (with_reducible refine look_both ?_ ?_)
  all_goals decide +kernel
theorem hd (call : WalkO QV others (fun _ _ => True) (fun w h => (KK w).In h) PySem.Challenge.rw_xm0847_01.row.toRowW lawD.1 lawD.2 fun f vs => PySem.call f vs) : PySem.Challenge.rw_xm0847_01.Holds := by
  refine holds_law said0 fun said => ?_
  refine PySem.W.holds_open (q := QV) (loose := others) (Xt := fun _ => true) (XP := fun _ _ => True) (Yf := fun s => fragH 440 s.heap) (Ya := KK) (YP := fun w h => (KK w).In h) (N := 7000) left_pw (fun w s e => e ▸ frag_in 440 s.heap) (fun w h h' e k a o q => k a o (e a o q)) (fun _ _ => trivial) (fun _ _ _ _ _ => trivial) law_def (by kernel_rfl) (by kernel_rfl) (fun s _ => recFacts_of rfl) rfl said (by kernel_rfl) ?_ ?_ call
  · exact ⟨rfl, rfl, rfl, rfl, rfl, by kernel_rfl⟩
  · w_witness2
end Mine
theorem PySem.Challenge.cw_xm0847_01_holds : PySem.Challenge.rw_xm0847_01.Holds := by
  refine Mine.hd ?_
  intro w s₀ s₁ mg mb G Y fa o pm cd doc dV kV ho hd hcd hD hmg hg args vals as hpre hlay hrd hwl hlo
  have hmg : mg (Str.ofString "law") = some (.ref fa) := defOf_name Mine.law_def ▸ hmg
  clear ho hd hcd hD
  refine Ground.open G ?_
  intro T B D TE TW
  wrow_args hpre hlay hrd hwl hlo
  rename_i ns hs hlay0 hLl hr1 hl2 wa wb la lv lc hL ra w1 r0 hI hr hc1 hc2
  have ok : Mine.PxOk (Mine.PX PySem.Challenge.rw_xm0847_01.row.prog w s₁.heap) := Mine.px_ok Y T (by kernel_rfl)
  have h1 : mg (Str.ofString "law") = some (.ref 439) := mg_of Y T.g (Mine.law_ns w)
  rw [h1] at hmg
  cases hmg
  refine wpAny_mono (Mine.law_runs ok hL hI (by omega)) (fun v s' z => GoodW.toG ?_) (fun e s' z => z.elim)
  obtain ⟨rfl, z1, z2, z3⟩ := z
  refine ⟨.inl ⟨_, .bool true, [], rfl, fun _ => rfl, .bool true, ?_, fun _ => ⟨.nil, fun a ha => by cases ha⟩⟩, z1, z2, z3.trans hg⟩
  exact postW_of (by wrow_shape) (by wtm_val) (by first | rfl | (str_meet; first | done | w_fin))
