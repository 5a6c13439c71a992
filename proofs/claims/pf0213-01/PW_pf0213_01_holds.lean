import PyProof.Rows.All
import Wide.All
import OpenK.AllK
import Wide.FinOn
import Lean
import PySem.Challenge.RW_pf0213_01
open PySem PySem.W PyProof.Rows
set_option Elab.async false
set_option linter.unusedVariables false
set_option maxRecDepth 100000
set_option maxHeartbeats 1000000
set_option compiler.extract_closed false
set_option bootstrap.genMatcherCode false
set_option genInjectivity false
set_option genSizeOf false
namespace Mine.Internal
section
/-! ## The small store -/
set_option genInjectivity true in
inductive Role where
  | heap | cells | vars | buf (k : Nat) | log | plan | tabs | tab (i : Nat) | ent (i : Nat)
  | cell (n : Nat) | slots (n : Nat) | ltabs | lbooks | book (i : Nat) | given | tmp (k : Nat)
  deriving DecidableEq

inductive V where
  | none | bool (b : Bool) | int (i : Int) | str (s : Str) | ref (r : Role) | tup (l : List V)

inductive O where
  | list (xs : List V) | dict (es : List (Int × V)) (ep : Nat) | inst (c : Str) (fs : List (Str × V)) | pair

noncomputable abbrev St := Role → Option O
noncomputable def St.set (st : St) (r : Role) (o : O) : St := fun x => if x = r then some o else st x
theorem St.set_same {st : St} {r : Role} {o : O} : st.set r o r = some o := if_pos rfl
theorem St.set_ne {st : St} {r x : Role} {o : O} (h : x ≠ r) : st.set r o x = st x := if_neg h

/-- the world of the call -/
structure Wd where
  prog : Program
  w : World
  h0 : Heap
  os : OsState
  mg : Str → Option Value
  mb : Str → Option Value
  K : Frag

structure Wd.Ok (W : Wd) : Prop where
  g : W.h0.Ns mainGlobals W.mg
  b : W.h0.Ns builtinsNs W.mb
  lim : W.h0.NoLimit
  frag : W.K.In W.h0
  bb : ∀ x : Str, x ≠ "__name__" → W.mb x = bootBuiltins x

structure Kp where
  κ : Addr → Option (Role × Bool)
  ad : Role → Addr
  ax : Role → Addr

mutual
inductive VR (k : Kp) (h : Heap) : Value → V → Prop
  | none : VR k h .none .none
  | bool (b : Bool) : VR k h (.bool b) (.bool b)
  | int (i : Int) (t : Tok) : VR k h (.int i t) (.int i)
  | str (s : Str) (t : Tok) : VR k h (.str s t) (.str s)
  | ref {a : Addr} {r : Role} : k.κ a = some (r, false) → VR k h (.ref a) (.ref r)
  | tup {a : Addr} {vs : List Value} {l : List V} {n : Nat} : h.get? a = some { cls := .type "tuple", data := .seq vs.toArray n } → k.κ a = none → VRs k h vs l → VR k h (.ref a) (.tup l)
inductive VRs (k : Kp) (h : Heap) : List Value → List V → Prop
  | nil : VRs k h [] []
  | cons {v : Value} {x : V} {vs : List Value} {xs : List V} : VR k h v x → VRs k h vs xs → VRs k h (v :: vs) (x :: xs)
end

/-- what a step keeps: the map of roles grows; what bears no role stays, but for what `P` names -/
structure Le (P : Addr → Prop) (k : Kp) (h : Heap) (k' : Kp) (h' : Heap) : Prop where
  map : ∀ a x, k.κ a = some x → k'.κ a = some x
  rest : ∀ a o, h.get? a = some o → k.κ a = none → P a ∨ (k'.κ a = none ∧ h'.get? a = some o)
noncomputable abbrev nob : Addr → Prop := fun _ => False

theorem Le.refl {P k h} : Le P k h k h := ⟨fun _ _ e => e, fun _ _ e n => .inr ⟨n, e⟩⟩
theorem Le.trans {P k h k' h' k'' h''} (x : Le P k h k' h') (y : Le P k' h' k'' h'') : Le P k h k'' h'' :=
  ⟨fun a z e => y.map a z (x.map a z e), fun a o e n => (x.rest a o e n).elim .inl fun p => y.rest a o p.2 p.1⟩
theorem Le.weak {P k h k' h'} (x : Le nob k h k' h') : Le P k h k' h' :=
  ⟨x.map, fun a o e n => .inr ((x.rest a o e n).resolve_left id)⟩

mutual
theorem VR.mono {P : Addr → Prop} {k k' : Kp} {h h' : Heap} (hl : Le P k h k' h') (hP : ∀ a vs n, P a → h.get? a ≠ some { cls := .type "tuple", data := .seq vs n }) : ∀ {v : Value} {x : V}, VR k h v x → VR k' h' v x
  | _, _, .none => .none
  | _, _, .bool b => .bool b
  | _, _, .int i t => .int i t
  | _, _, .str s t => .str s t
  | _, _, .ref e => .ref (hl.map _ _ e)
  | _, _, .tup e n r => by
    obtain ⟨n', e'⟩ := (hl.rest _ _ e n).resolve_left fun p => hP _ _ _ p e
    exact .tup e' n' (VRs.mono hl hP r)
theorem VRs.mono {P : Addr → Prop} {k k' : Kp} {h h' : Heap} (hl : Le P k h k' h') (hP : ∀ a vs n, P a → h.get? a ≠ some { cls := .type "tuple", data := .seq vs n }) : ∀ {v : List Value} {x : List V}, VRs k h v x → VRs k' h' v x
  | _, _, .nil => .nil
  | _, _, .cons r rs => .cons (VR.mono hl hP r) (VRs.mono hl hP rs)
end
theorem VR.le {k k' : Kp} {h h' : Heap} (hl : Le nob k h k' h') {v : Value} {x : V} (r : VR k h v x) : VR k' h' v x := r.mono hl fun _ _ _ p => p.elim
theorem VRs.le {k k' : Kp} {h h' : Heap} (hl : Le nob k h k' h') {v : List Value} {x : List V} (r : VRs k h v x) : VRs k' h' v x := r.mono hl fun _ _ _ p => p.elim

theorem VRs.length {k : Kp} {h : Heap} {vs : List Value} {xs : List V} (r : VRs k h vs xs) : vs.length = xs.length := by
  induction vs generalizing xs with
  | nil => cases r; rfl
  | cons v vs ih => cases r with | cons _ r => exact congrArg (· + 1) (ih r)
theorem VRs.get {k : Kp} {h : Heap} {vs : List Value} {xs : List V} (r : VRs k h vs xs) {i : Nat} {x : V} (e : xs[i]? = some x) : ∃ v, vs[i]? = some v ∧ VR k h v x := by
  induction vs generalizing xs i with
  | nil => cases r; cases e
  | cons v vs ih => cases r with
    | cons a r => cases i with
      | zero => cases e; exact ⟨_, rfl, a⟩
      | succ i => exact ih r e
theorem VRs.append {k : Kp} {h : Heap} {vs : List Value} {xs : List V} {ws : List Value} {ys : List V} (r : VRs k h vs xs) (q : VRs k h ws ys) : VRs k h (vs ++ ws) (xs ++ ys) := by
  induction vs generalizing xs with
  | nil => cases r; exact q
  | cons v vs ih => cases r with | cons a r => exact .cons a (ih r)

/-- an int-keyed dict's entries -/
inductive ERs (k : Kp) (h : Heap) : List (Option Int × Value) → List (Int × V) → Prop
  | nil : ERs k h [] []
  | cons {i : Int} {v : Value} {x : V} {vs xs} : VR k h v x → ERs k h vs xs → ERs k h ((some i, v) :: vs) ((i, x) :: xs)
theorem ERs.mono {P : Addr → Prop} {k k' : Kp} {h h' : Heap} (hl : Le P k h k' h') (hP : ∀ a vs n, P a → h.get? a ≠ some { cls := .type "tuple", data := .seq vs n }) {v x} (e : ERs k h v x) : ERs k' h' v x := by
  induction e with
  | nil => exact .nil
  | cons r _ ih => exact .cons (r.mono hl hP) ih

/-- an object's attributes -/
noncomputable def FRs (k : Kp) (h : Heap) (m : Str → Option Value) (fs : List (Str × V)) : Prop := ∀ f x, fs.lookup f = some x → ∃ v, m f = some v ∧ VR k h v x
theorem FRs.mono {P : Addr → Prop} {k k' : Kp} {h h' : Heap} (hl : Le P k h k' h') (hP : ∀ a vs n, P a → h.get? a ≠ some { cls := .type "tuple", data := .seq vs n }) {m fs} (x : FRs k h m fs) : FRs k' h' m fs :=
  fun f y e => let ⟨v, e', r⟩ := x f y e; ⟨v, e', r.mono hl hP⟩
end
section
noncomputable def isOI : Option Int → Value → Bool
  | some i, v => Value.isInt i v
  | none, .none => true
  | none, _ => false
theorem isOI_some {i : Int} {v : Value} (h : isOI (some i) v = true) : ∃ t, v = .int i t := Value.isInt_shape h
theorem isOI_none {v : Value} (h : isOI none v = true) : v = .none := by cases v <;> first | rfl | cases h

section
variable {prog : Program} {w : World} {A : Around} {E : Value → Shared → Prop} {s : Shared}
theorem pyHash_none {Q : Int → Shared → Prop} (h : Q 0xFCA86420 { s with toks := s.toks + 1 }) :
    wpAny (model prog w) A (pyHash .none) Q E s := by
  have hT : s.TypeIs .none "NoneType" := rfl
  unfold pyHash pyHashByItsType
  have hv : [Value.none].any Value.onHeap = false := rfl
  refine wpAny_bind ?_
  rw [cRoomFor, if_neg (by rw [hv]; exact Bool.false_ne_true)]; refine wpAny_pure ?_
  refine wpAny_bind (wpAny_specialOf hT PySem.F.slot_NoneType_hash.lookup ?_)
  show wpAny _ _ (if (some (Value.builtin "NoneType.__hash__") == some Value.none) = true then _ else _) Q E s
  rw [if_neg (by rw [beq_builtin_none]; exact Bool.false_ne_true)]
  refine wpAny_bind (wpAny_specialOf hT PySem.F.slot_NoneType_hash.lookup ?_)
  show wpAny _ _ (callSpecialIfBoundUnlessNone? .none "__hash__" _ >>= _) Q E s
  refine wpAny_bind (wpAny_callSpecialIfBoundUnlessNone?_slot hT PySem.F.slot_NoneType_hash
    (wpAny_call_entry PySem.F.slot_NoneType_hash hT PySem.F.entry_NoneType_hash
      (show wpAny _ _ (do ret (← mkInt 0xFCA86420)) _ _ s from wpAny_ret_mkInt ?_) (PySem.F.args_NoneType_hash_1 _)))
  exact wpAny_pure h
theorem cmp_ofEq' {a b : Value} {Q : Value → Shared → Prop} (h : wpAny (model prog w) A (compareOp .Eq a b) Q E s) : wpAny (model prog w) A (richCompare .Eq a b) Q E s := h
theorem eqBool_none_none {Q : Bool → Shared → Prop} (h : Q true s) : wpAny (model prog w) A (eqBool .none .none) Q E s := by
  unfold eqBool
  have hne : ((Value.none == Value.none) = true) := by simp
  refine wpAny_holding ?_
  rw [if_pos hne]
  exact wpAny_bind (wpAny_rule (wpAny_pure h))
theorem eqBool_none_int {a : Int} {t : Tok} {Q : Bool → Shared → Prop} (h : Q false s) : wpAny (model prog w) A (eqBool .none (.int a t)) Q E s := by
  unfold eqBool
  have hne : ¬ ((Value.none == Value.int a t) = true) := by simp
  refine wpAny_holding ?_
  rw [if_neg hne]
  exact wpAny_bind (cmp_ofEq' (EqNone.eq_none_int (wpAny_truthy_bool h)))
theorem eqBool_int_none {a : Int} {t : Tok} {Q : Bool → Shared → Prop} (h : Q false s) : wpAny (model prog w) A (eqBool (.int a t) .none) Q E s := by
  unfold eqBool
  have hne : ¬ ((Value.int a t == Value.none) = true) := by simp
  refine wpAny_holding ?_
  rw [if_neg hne]
  exact wpAny_bind (cmp_ofEq' (EqNone.eq_int_none (wpAny_truthy_bool h)))
end

noncomputable def knd (prog : Program) (w : World) : KeyKind prog w (Option Int) where
  is := isOI
  hash := fun | some i => hashInt i | none => 0xFCA86420
  inj := fun v a b ha hb => by
    cases a <;> cases b
    · rfl
    · obtain ⟨t, rfl⟩ := isOI_some hb; cases isOI_none ha
    · obtain ⟨t, rfl⟩ := isOI_some ha; cases isOI_none hb
    · exact congrArg some (Value.isInt_inj v _ _ ha hb)
  byValue := fun k v h => by
    cases k
    · cases isOI_none h; rfl
    · obtain ⟨t, rfl⟩ := isOI_some h; rfl
  pyHash := fun {_ _ _ k _ _} hv h => by
    cases k
    · cases isOI_none hv; exact pyHash_none h
    · obtain ⟨t, rfl⟩ := isOI_some hv; exact wpAny_pyHash_int h
  eqBool := fun {_ _ _ a b _ _ _} hu hv h => by
    cases a <;> cases b
    · cases isOI_none hu; cases isOI_none hv; exact eqBool_none_none h
    · cases isOI_none hu; obtain ⟨t, rfl⟩ := isOI_some hv; exact eqBool_none_int h
    · cases isOI_none hv; obtain ⟨t, rfl⟩ := isOI_some hu; exact eqBool_int_none h
    · obtain ⟨t, rfl⟩ := isOI_some hu
      obtain ⟨u, rfl⟩ := isOI_some hv
      refine wpAny_eqBool_int ?_
      rename_i x y
      have e : (x == y) = decide (some x = some y) := by
        by_cases q : x = y
        · subst q; simp
        · simp [q]
      rw [e]; exact h
  «strs» := fun k x t v h => by
    cases k <;> cases h
end
section
set_option linter.unusedVariables false

/-- the object that a role's address bears -/
noncomputable def OR (W : Wd) (k : Kp) (h : Heap) (r : Role) : O → Prop
  | .list xs => ∃ vs n, h.get? (k.ad r) = some { cls := .type "list", data := .seq vs.toArray n } ∧ VRs k h vs xs
  | .dict es ep => ∃ kvs, h.DictAt (knd W.prog W.w) (k.ad r) kvs ep ∧ ERs k h kvs es
  | .inst c fs => ∃ C m d es ep, W.mg c = some (.ref C) ∧ h.get? (k.ad r) = some (instObj C d) ∧ d = k.ax r ∧ k.κ d = some (r, true) ∧
      h.get? d = some { cls := .type "dict", data := .dict es ep } ∧ StrKeys es ∧ (∀ name, nsFind es name = m name) ∧ es.size ≤ fs.length ∧ FRs k h m fs
  | .pair => ∃ a b, h.get? (k.ad r) = some { cls := .type "tuple", data := .seq #[a, b] }

structure Rel (W : Wd) (k : Kp) (s : Shared) (st : St) : Prop where
  keep : ∀ b o, W.h0.get? b = some o → s.heap.get? b = some o
  new : ∀ a x, k.κ a = some x → W.h0.get? a = none ∧ 3 < a ∧ (s.heap.get? a).isSome = true
  gens : s.gens = #[]
  os : s.os = W.os
  own : ∀ a r b, k.κ a = some (r, b) → st r ≠ none ∧ a = (if b then k.ax r else k.ad r)
  obj : ∀ r o, st r = some o → k.κ (k.ad r) = some (r, false) ∧ OR W k s.heap r o


/-- the frames' own addresses bear no tuples -/
noncomputable def NoTup (P : Addr → Prop) (h : Heap) : Prop := ∀ a vs n, P a → h.get? a ≠ some { cls := .type "tuple", data := .seq vs n }
theorem NoTup.nob {h : Heap} : NoTup nob h := fun _ _ _ p => p.elim

theorem OR.mono {W : Wd} {P : Addr → Prop} {k k' : Kp} {h h' : Heap} {r : Role} (hl : Le P k h k' h') (hP : NoTup P h) (had : k'.ad r = k.ad r) (hax : k'.ax r = k.ax r)
    (e1 : ∀ o, h.get? (k.ad r) = some o → h'.get? (k.ad r) = some o) (e2 : k.κ (k.ax r) = some (r, true) → ∀ o, h.get? (k.ax r) = some o → h'.get? (k.ax r) = some o) : ∀ {o : O}, OR W k h r o → OR W k' h' r o := by
  intro o x
  cases o with
  | list xs =>
    obtain ⟨vs, n, e, rs⟩ := x
    exact ⟨vs, n, by rw [had]; exact e1 _ e, rs.mono hl hP⟩
  | dict es ep =>
    obtain ⟨kvs, e, rs⟩ := x
    exact ⟨kvs, by rw [had]; exact Heap.DictAt.at' e e1, rs.mono hl hP⟩
  | inst c fs =>
    obtain ⟨C, m, d, es, ep, hC, hi, hd, hk, ho, hs, hf, hz, rs⟩ := x
    exact ⟨C, m, d, es, ep, hC, by rw [had]; exact e1 _ hi, hd.trans hax.symm, hl.map _ _ hk, by subst hd; exact e2 hk _ ho, hs, hf, hz, rs.mono hl hP⟩
  | pair =>
    obtain ⟨a, b, e⟩ := x
    exact ⟨a, b, by rw [had]; exact e1 _ e⟩

/-- a step that leaves every role's object -/
theorem Rel.le {W : Wd} {P : Addr → Prop} {k : Kp} {s s' : Shared} {st : St} (R : Rel W k s st) (hl : Le P k s.heap k s'.heap) (hP : NoTup P s.heap) (hb : ∀ a, P a → W.h0.get? a = none)
    (hk : ∀ a x, k.κ a = some x → ∀ o, s.heap.get? a = some o → s'.heap.get? a = some o) (hg : s'.gens = s.gens) (hos : s'.os = s.os) : Rel W k s' st where
  keep := fun b o e => by
    have e' := R.keep b o e
    cases q : k.κ b with
    | some x => exact hk b x q _ e'
    | none =>
      rcases hl.rest b o e' q with p | p
      · rw [hb b p] at e; cases e
      · exact p.2
  new := fun a x e => by
    obtain ⟨h1, h2, h3⟩ := R.new a x e
    obtain ⟨o, ho⟩ := Option.isSome_iff_exists.mp h3
    exact ⟨h1, h2, by rw [hk a x e o ho]; rfl⟩
  gens := hg.trans R.gens
  os := hos.trans R.os
  own := R.own
  obj := fun r o e => ⟨(R.obj r o e).1, OR.mono hl hP rfl rfl (fun o' => hk _ _ (R.obj r o e).1 o') (fun q o' => hk _ _ q o') (R.obj r o e).2⟩

/-- only new objects came -/
theorem Rel.grow {W : Wd} {k : Kp} {s : Shared} {st : St} (R : Rel W k s st) {h' : Heap} {tk : Nat} (hk : ∀ a o, s.heap.get? a = some o → h'.get? a = some o) :
    Rel W k { s with heap := h', toks := tk } st ∧ Le nob k s.heap k h' :=
  have l : Le nob k s.heap k h' := ⟨fun _ _ e => e, fun a o e n => .inr ⟨n, hk a o e⟩⟩
  ⟨R.le (s' := { s with heap := h', toks := tk }) l NoTup.nob (fun _ p => p.elim) (fun a _ _ o e => hk a o e) rfl rfl, l⟩
theorem Rel.tok {W : Wd} {k : Kp} {s : Shared} {st : St} (R : Rel W k s st) (tk : Nat) : Rel W k { s with toks := tk } st := (R.grow (h' := s.heap) (fun _ _ e => e)).1

/-- a role's object is replaced -/
theorem Rel.upd {W : Wd} {k : Kp} {s : Shared} {st : St} (R : Rel W k s st) {a : Addr} {r : Role} {b : Bool} {o' : O} {h' : Heap} {tk : Nat} (hκ : k.κ a = some (r, b)) (hs : Heap.SameBut a s.heap h') (he : (h'.get? a).isSome = true)
    (ho : Le nob k s.heap k h' → OR W k h' r o') : Rel W k { s with heap := h', toks := tk } (st.set r o') ∧ Le nob k s.heap k h' := by
  have l : Le nob k s.heap k h' := ⟨fun _ _ e => e, fun c o e n => .inr ⟨n, (hs.2 c fun q => by rw [q, hκ] at n; cases n).trans e⟩⟩
  have hr := (R.own a r b hκ).1
  refine ⟨⟨fun c o e => (hs.2 c fun q => ?_).trans (R.keep c o e), fun c x e => ⟨(R.new c x e).1, (R.new c x e).2.1, ?_⟩, R.gens, R.os, fun c r' b' e => ⟨?_, (R.own c r' b' e).2⟩, fun r' o e => ?_⟩, l⟩
  · rw [q, (R.new a _ hκ).1] at e; cases e
  · by_cases q : c = a
    · rw [q]; exact he
    · rw [hs.2 c q]; exact (R.new c x e).2.2
  · by_cases q : r' = r
    · subst q; rw [St.set_same]; exact Option.some_ne_none _
    · rw [St.set_ne q]; exact (R.own c r' b' e).1
  · by_cases q : r' = r
    · subst q
      rw [St.set_same] at e; cases e
      cases hq : st r' with
      | none => exact absurd hq hr
      | some o₀ => exact ⟨(R.obj r' o₀ hq).1, ho l⟩
    · rw [St.set_ne q] at e
      have X := R.obj r' o e
      refine ⟨X.1, OR.mono l NoTup.nob rfl rfl (fun o₁ e₁ => (hs.2 _ fun z => ?_).trans e₁) (fun z o₁ e₁ => (hs.2 _ fun y => ?_).trans e₁) X.2⟩
      · rw [z, hκ] at X; exact q (Prod.mk.inj (Option.some.inj X.1)).1.symm
      · rw [y, hκ] at z; exact q (Prod.mk.inj (Option.some.inj z)).1.symm

/-- a new role -/
noncomputable def Kp.add (k : Kp) (r : Role) (a : Addr) : Kp := { κ := fun x => if x = a then some (r, false) else k.κ x, ad := fun x => if x = r then a else k.ad x, ax := k.ax }
section
variable {k : Kp} {r : Role} {a : Addr} {h : Heap}
theorem Kp.add_self : (k.add r a).κ a = some (r, false) := if_pos rfl
theorem Kp.add_ne {b : Addr} (q : b ≠ a) : (k.add r a).κ b = k.κ b := if_neg q
theorem Kp.add_ad {r' : Role} (q : r' ≠ r) : (k.add r a).ad r' = k.ad r' := if_neg q
theorem Kp.add_ads : (k.add r a).ad r = a := if_pos rfl
theorem Kp.add_map (hκ : k.κ a = none) : ∀ b x, k.κ b = some x → (k.add r a).κ b = some x := fun b x e => by
  rw [Kp.add_ne (fun q => by rw [q, hκ] at e; cases e)]; exact e
theorem Kp.add_le (hκ : k.κ a = none) : Le (· = a) k h (k.add r a) h := ⟨Kp.add_map hκ, fun b o e n => by
  by_cases q : b = a
  · exact .inl q
  · exact .inr ⟨by rw [Kp.add_ne q]; exact n, e⟩⟩
end
theorem Rel.adopt {W : Wd} {k : Kp} {s : Shared} {st : St} (R : Rel W k s st) {a : Addr} {r : Role} {o' : O} (hr : st r = none) (hκ : k.κ a = none) (hlo : W.h0.get? a = none ∧ 3 < a) (hhi : (s.heap.get? a).isSome = true)
    {h : Heap} (hn : h.get? a = none) (hnt : NoTup (· = a) s.heap) (ho : Le (· = a) k s.heap (k.add r a) s.heap → OR W (k.add r a) s.heap r o') (hl : Le nob k h k s.heap) :
    Rel W (k.add r a) s (st.set r o') ∧ Le nob k h (k.add r a) s.heap ∧ VR (k.add r a) s.heap (.ref a) (.ref r) := by
  have la : Le (· = a) k s.heap (k.add r a) s.heap := Kp.add_le hκ
  refine ⟨⟨R.keep, fun b x e => ?_, R.gens, R.os, fun b r' c e => ?_, fun r' o e => ?_⟩, ⟨fun b x e => Kp.add_map hκ b x (hl.map b x e), fun b o e n => ?_⟩, .ref Kp.add_self⟩
  · by_cases q : b = a
    · subst q; exact ⟨hlo.1, hlo.2, hhi⟩
    · rw [Kp.add_ne q] at e; exact R.new b x e
  · by_cases q : b = a
    · rw [q, Kp.add_self] at e; cases e
      exact ⟨by rw [St.set_same]; exact Option.some_ne_none _, q.trans Kp.add_ads.symm⟩
    · rw [Kp.add_ne q] at e
      have X := R.own b r' c e
      have hne : r' ≠ r := fun z => X.1 (z ▸ hr)
      refine ⟨by rw [St.set_ne hne]; exact X.1, X.2.trans ?_⟩
      rw [Kp.add_ad hne]; rfl
  · by_cases q : r' = r
    · subst q
      rw [St.set_same] at e; cases e
      exact ⟨by rw [Kp.add_ads]; exact Kp.add_self, ho la⟩
    · rw [St.set_ne q] at e
      have X := R.obj r' o e
      exact ⟨by rw [Kp.add_ad q]; exact Kp.add_map hκ _ _ X.1, OR.mono la hnt (Kp.add_ad q) rfl (fun _ e => e) (fun _ _ e => e) X.2⟩
  · obtain ⟨n', e'⟩ := (hl.rest b o e n).resolve_left id
    exact .inr ⟨by rw [Kp.add_ne (fun q => by rw [q, hn] at e; cases e)]; exact n', e'⟩

/-- an object's dict is its role's second address -/
noncomputable def Kp.addx (k : Kp) (r : Role) (a d : Addr) : Kp := { κ := fun x => if x = a then some (r, false) else if x = d then some (r, true) else k.κ x, ad := fun x => if x = r then a else k.ad x, ax := fun x => if x = r then d else k.ax x }
section
variable {k : Kp} {r : Role} {a d : Addr} {h : Heap}
theorem Kp.addx_self : (k.addx r a d).κ a = some (r, false) := if_pos rfl
theorem Kp.addx_dict (q : d ≠ a) : (k.addx r a d).κ d = some (r, true) := (if_neg q).trans (if_pos rfl)
theorem Kp.addx_ne {b : Addr} (q : b ≠ a) (q' : b ≠ d) : (k.addx r a d).κ b = k.κ b := (if_neg q).trans (if_neg q')
theorem Kp.addx_ad {r' : Role} (q : r' ≠ r) : (k.addx r a d).ad r' = k.ad r' := if_neg q
theorem Kp.addx_ax {r' : Role} (q : r' ≠ r) : (k.addx r a d).ax r' = k.ax r' := if_neg q
theorem Kp.addx_ads : (k.addx r a d).ad r = a := if_pos rfl
theorem Kp.addx_axs : (k.addx r a d).ax r = d := if_pos rfl
theorem Kp.addx_map (hκ : k.κ a = none) (hκ' : k.κ d = none) : ∀ b x, k.κ b = some x → (k.addx r a d).κ b = some x := fun b x e => by
  rw [Kp.addx_ne (fun q => by rw [q, hκ] at e; cases e) (fun q => by rw [q, hκ'] at e; cases e)]; exact e
theorem Kp.addx_le (hκ : k.κ a = none) (hκ' : k.κ d = none) : Le (fun x => x = a ∨ x = d) k h (k.addx r a d) h := ⟨Kp.addx_map hκ hκ', fun b o e n => by
  by_cases q : b = a
  · exact .inl (.inl q)
  · by_cases q' : b = d
    · exact .inl (.inr q')
    · exact .inr ⟨by rw [Kp.addx_ne q q']; exact n, e⟩⟩
end
theorem Rel.adoptx {W : Wd} {k : Kp} {s : Shared} {st : St} (R : Rel W k s st) {a d : Addr} {r : Role} {o' : O} (hr : st r = none) (hκ : k.κ a = none) (hκ' : k.κ d = none) (hda : d ≠ a) (hlo : W.h0.get? a = none ∧ 3 < a) (hhi : (s.heap.get? a).isSome = true)
    (hlo' : W.h0.get? d = none ∧ 3 < d) (hhi' : (s.heap.get? d).isSome = true)
    {h : Heap} (hn : h.get? a = none) (hn' : h.get? d = none) (hnt : NoTup (fun x => x = a ∨ x = d) s.heap) (ho : Le (fun x => x = a ∨ x = d) k s.heap (k.addx r a d) s.heap → OR W (k.addx r a d) s.heap r o') (hl : Le nob k h k s.heap) :
    Rel W (k.addx r a d) s (st.set r o') ∧ Le nob k h (k.addx r a d) s.heap ∧ VR (k.addx r a d) s.heap (.ref a) (.ref r) := by
  have la : Le (fun x => x = a ∨ x = d) k s.heap (k.addx r a d) s.heap := Kp.addx_le hκ hκ'
  refine ⟨⟨R.keep, fun b x e => ?_, R.gens, R.os, fun b r' c e => ?_, fun r' o e => ?_⟩, ⟨fun b x e => Kp.addx_map hκ hκ' b x (hl.map b x e), fun b o e n => ?_⟩, .ref Kp.addx_self⟩
  · by_cases q : b = a
    · subst q; exact ⟨hlo.1, hlo.2, hhi⟩
    · by_cases q' : b = d
      · subst q'; exact ⟨hlo'.1, hlo'.2, hhi'⟩
      · rw [Kp.addx_ne q q'] at e; exact R.new b x e
  · by_cases q : b = a
    · rw [q, Kp.addx_self] at e; cases e
      exact ⟨by rw [St.set_same]; exact Option.some_ne_none _, q.trans Kp.addx_ads.symm⟩
    · by_cases q' : b = d
      · rw [q', Kp.addx_dict hda] at e; cases e
        exact ⟨by rw [St.set_same]; exact Option.some_ne_none _, q'.trans Kp.addx_axs.symm⟩
      · rw [Kp.addx_ne q q'] at e
        have X := R.own b r' c e
        have hne : r' ≠ r := fun z => X.1 (z ▸ hr)
        refine ⟨by rw [St.set_ne hne]; exact X.1, X.2.trans ?_⟩
        rw [Kp.addx_ad hne, Kp.addx_ax hne]
  · by_cases q : r' = r
    · subst q
      rw [St.set_same] at e; cases e
      exact ⟨by rw [Kp.addx_ads]; exact Kp.addx_self, ho la⟩
    · rw [St.set_ne q] at e
      have X := R.obj r' o e
      exact ⟨by rw [Kp.addx_ad q]; exact Kp.addx_map hκ hκ' _ _ X.1, OR.mono la hnt (Kp.addx_ad q) (Kp.addx_ax q) (fun _ e => e) (fun _ _ e => e) X.2⟩
  · obtain ⟨n', e'⟩ := (hl.rest b o e n).resolve_left id
    exact .inr ⟨by rw [Kp.addx_ne (fun q => by rw [q, hn] at e; cases e) (fun q => by rw [q, hn'] at e; cases e)]; exact n', e'⟩

/-! ## frames -/
structure EnvOk (env : Env) : Prop where
  kind : env.scope.kind = .function
  gl : env.globals = mainGlobals
  bi : env.builtins = builtinsNs

noncomputable def own (env : Env) (a : Addr) : Prop := a = env.locals ∨ ∃ x, env.kindOf x = some .cell ∧ env.cells.lookup x = some a

noncomputable abbrev Loc := Str → Option V
noncomputable def Loc.upd (ρ : Loc) (x : Str) (v : V) : Loc := fun y => if y = x then some v else ρ y
theorem Loc.upd_same {ρ : Loc} {x : Str} {v : V} : ρ.upd x v x = some v := if_pos rfl
theorem Loc.upd_ne {ρ : Loc} {x y : Str} {v : V} (h : y ≠ x) : ρ.upd x v y = ρ y := if_neg h

structure LocR (W : Wd) (k : Kp) (env : Env) (h : Heap) (ρ : Loc) : Prop where
  ok : EnvOk env
  new : ∀ a, own env a → W.h0.get? a = none ∧ k.κ a = none
  ns : ∃ m, h.Ns env.locals m ∧ ∀ x v, env.kindOf x = some .local → ρ x = some v → ∃ v', m x = some v' ∧ VR k h v' v
  cel : ∀ x, env.kindOf x = some .cell → ∃ c o, env.cells.lookup x = some c ∧ h.IsCell c o ∧ ∀ v, ρ x = some v → ∃ v', o = some v' ∧ VR k h v' v
  apart : ∀ x y c, env.cells.lookup x = some c → env.cells.lookup y = some c → x = y

theorem LocR.noTup {W k env h ρ} (L : LocR W k env h ρ) : NoTup (own env) h := fun a vs n p e => by
  rcases p with rfl | ⟨x, hx, hc⟩
  · obtain ⟨m, ⟨o, es, ep, ho, hd, _⟩, _⟩ := L.ns
    rw [e] at ho; cases ho; cases hd
  · obtain ⟨c, o, hc', ⟨ob, ho, hd⟩, _⟩ := L.cel x hx
    rw [hc] at hc'; cases hc'
    rw [e] at ho; cases ho; cases hd

theorem LocR.le {W k env h ρ k' h'} (L : LocR W k env h ρ) (hl : Le nob k h k' h') : LocR W k' env h' ρ where
  ok := L.ok
  new := fun a p => ⟨(L.new a p).1, by
    rcases p with rfl | ⟨x, hx, hc⟩
    · obtain ⟨m, ⟨o, es, ep, ho, hd, _⟩, _⟩ := L.ns
      exact ((hl.rest _ _ ho (L.new _ (.inl rfl)).2).resolve_left id).1
    · obtain ⟨c, o, hc', ⟨ob, ho, hd⟩, _⟩ := L.cel x hx
      rw [hc] at hc'; cases hc'
      exact ((hl.rest _ _ ho (L.new _ (.inr ⟨x, hx, hc⟩)).2).resolve_left id).1⟩
  ns := by
    obtain ⟨m, ⟨o, es, ep, ho, r⟩, hm⟩ := L.ns
    exact ⟨m, ⟨o, es, ep, ((hl.rest _ _ ho (L.new _ (.inl rfl)).2).resolve_left id).2, r⟩, fun x v hx hv => let ⟨v', e, r⟩ := hm x v hx hv; ⟨v', e, r.le hl⟩⟩
  cel := fun x hx => by
    obtain ⟨c, o, hc, ⟨ob, ho, hd⟩, hv⟩ := L.cel x hx
    exact ⟨c, o, hc, ⟨ob, ((hl.rest _ _ ho (L.new _ (.inr ⟨x, hx, hc⟩)).2).resolve_left id).2, hd⟩, fun v e => let ⟨v', e, r⟩ := hv v e; ⟨v', e, r.le hl⟩⟩
  apart := L.apart
end
section
set_option linter.unusedVariables false

noncomputable def Room (n : Nat) (A : Around) : Prop := A.handled = none ∧ A.depth + n < 900 ∧ A.units + 20 * n + 200 < 9900
theorem Room.units {n : Nat} {A : Around} (h : Room n A) : A.units < cLine := by
  have e : cLine = 9900 := rfl
  have := h.2.2; omega
theorem Room.depth {n : Nat} {A : Around} (h : Room n A) : A.depth < recursionLimit := by
  have e : recursionLimit = 1000 := rfl
  have := h.2.1; omega

/-- the end of a step: a related state, a related result -/
inductive PG {α β : Type} (W : Wd) (k : Kp) (h : Heap) (RR : Kp → Heap → α → β → Prop) (Q : β → St → Prop) (a : α) (s' : Shared) : Prop
  | mk (k' : Kp) (b : β) (st' : St) (R : Rel W k' s' st') (l : Le nob k h k' s'.heap) (r : RR k' s'.heap a b) (q : Q b st')
theorem PG.le {α β : Type} {W : Wd} {k k₁ : Kp} {h h₁ : Heap} {RR : Kp → Heap → α → β → Prop} {Q : β → St → Prop} {a : α} {s' : Shared} (l : Le nob k h k₁ h₁) (x : PG W k₁ h₁ RR Q a s') : PG W k h RR Q a s' :=
  let ⟨k', b, st', R, l', r, q⟩ := x; ⟨k', b, st', R, l.trans l', r, q⟩
noncomputable abbrev REq {α : Type} : Kp → Heap → α → α → Prop := fun _ _ a b => a = b
noncomputable abbrev noE : Value → Shared → Prop := fun _ _ => False

noncomputable def T {α β : Type} (W : Wd) (n : Nat) (RR : Kp → Heap → α → β → Prop) (t : Sem α) (env : Env) (ρ : Loc) (Q : β → St → Prop) (st : St) : Prop :=
  ∀ A s k, Room n A → Rel W k s st → LocR W k env s.heap ρ → wpAny (model W.prog W.w) A t (PG W k s.heap RR Q) noE s
noncomputable abbrev TE (W : Wd) (n : Nat) (e : Expr) (env : Env) (ρ : Loc) (Q : V → St → Prop) (st : St) : Prop := T W n VR (eval e env) env ρ Q st
noncomputable abbrev TB (W : Wd) (n : Nat) (e : Expr) (env : Env) (ρ : Loc) (Q : Bool → St → Prop) (st : St) : Prop := T W n REq (isTrue e env (eval e env)) env ρ Q st

theorem T.run {α β : Type} {W : Wd} {n : Nat} {RR : Kp → Heap → α → β → Prop} {t : Sem α} {env : Env} {ρ : Loc} {G : β → St → Prop} {st : St} (h : T W n RR t env ρ G st) {A : Around} {s : Shared} {k : Kp}
    (hA : Room n A) (R : Rel W k s st) (L : LocR W k env s.heap ρ) {P : α → Shared → Prop}
    (c : ∀ a s₁ k₁ b st₁, Rel W k₁ s₁ st₁ → LocR W k₁ env s₁.heap ρ → Le nob k s.heap k₁ s₁.heap → RR k₁ s₁.heap a b → G b st₁ → P a s₁) :
    wpAny (model W.prog W.w) A t P noE s :=
  wpAny_mono (h A s k hA R L) (fun a s₁ ⟨k₁, b, st₁, R₁, l, r, g⟩ => c a s₁ k₁ b st₁ R₁ (L.le l) l r g) fun _ _ f => f

/-- an operation upon values at hand -/
noncomputable def OP {α β : Type} (W : Wd) (n : Nat) (RR : Kp → Heap → α → β → Prop) (f : List Value → Sem α) (xs : List V) (Q : β → St → Prop) (st : St) : Prop :=
  ∀ A s k vs, Room n A → Rel W k s st → VRs k s.heap vs xs → wpAny (model W.prog W.w) A (f vs) (PG W k s.heap RR Q) noE s
noncomputable def op1 {α : Type} (f : Value → Sem α) : List Value → Sem α | [a] => f a | _ => unsupported "Mine"
noncomputable def op2 {α : Type} (f : Value → Value → Sem α) : List Value → Sem α | [a, b] => f a b | _ => unsupported "Mine"
noncomputable def op3 {α : Type} (f : Value → Value → Value → Sem α) : List Value → Sem α | [a, b, c] => f a b c | _ => unsupported "Mine"
/-! continuations by name (their terms stay small) -/
noncomputable abbrev K1 (W : Wd) (n : Nat) (f : List Value → Sem Value) (Q : V → St → Prop) : V → St → Prop := fun a => OP W n VR f [a] Q
noncomputable abbrev KT (W : Wd) (n : Nat) (Q : Bool → St → Prop) : V → St → Prop := fun a => OP W n REq (op1 truthy) [a] Q
noncomputable abbrev K2 (W : Wd) (n : Nat) (f : List Value → Sem Value) (Q : V → St → Prop) (a : V) : V → St → Prop := fun b => OP W n VR f [a, b] Q
noncomputable abbrev K2l (W : Wd) (n : Nat) (f : List Value → Sem Value) (r : Expr) (env : Env) (ρ : Loc) (Q : V → St → Prop) : V → St → Prop := fun a => TE W n r env ρ (K2 W n f Q a)
noncomputable abbrev KNot (Q : V → St → Prop) : Bool → St → Prop := fun b => Q (.bool (!b))
noncomputable abbrev KIte (W : Wd) (n : Nat) (b o : Expr) (env : Env) (ρ : Loc) (Q : V → St → Prop) : Bool → St → Prop := fun c => if c then TE W n b env ρ Q else TE W n o env ρ Q
noncomputable abbrev KBNot (Q : Bool → St → Prop) : Bool → St → Prop := fun b => Q (!b)
noncomputable abbrev KBAnd (W : Wd) (n : Nat) (rest : List Expr) (pos : Pos) (whole : Sem Value) (env : Env) (ρ : Loc) (QB : Bool → St → Prop) : Bool → St → Prop := fun b => if b then T W n REq (isTrue (.BoolOp .And rest pos) env whole) env ρ QB else QB false
noncomputable abbrev KBOr (W : Wd) (n : Nat) (rest : List Expr) (pos : Pos) (whole : Sem Value) (env : Env) (ρ : Loc) (QB : Bool → St → Prop) : Bool → St → Prop := fun b => if b then QB true else T W n REq (isTrue (.BoolOp .Or rest pos) env whole) env ρ QB
noncomputable abbrev KBool (QB : Bool → St → Prop) : V → St → Prop := fun c st' => ∃ b, c = .bool b ∧ QB b st'
theorem OP.go {α β : Type} {W : Wd} {n : Nat} {RR : Kp → Heap → α → β → Prop} {f : List Value → Sem α} {xs : List V} {Q : β → St → Prop} {st : St} (h : OP W n RR f xs Q st) {A : Around} {s : Shared} {k k₀ : Kp} {h₀ : Heap} {vs : List Value}
    (hA : Room n A) (R : Rel W k s st) (r : VRs k s.heap vs xs) (l : Le nob k₀ h₀ k s.heap) : wpAny (model W.prog W.w) A (f vs) (PG W k₀ h₀ RR Q) noE s :=
  wpAny_mono (h A s k vs hA R r) (fun _ _ p => p.le l) fun _ _ f => f

section
variable {W : Wd} {n : Nat} {env : Env} {ρ : Loc} {st : St} {Q : V → St → Prop}

theorem PG.val {k : Kp} {s : Shared} {v : Value} {x : V} (R : Rel W k s st) (r : VR k s.heap v x) (q : Q x st) : PG W k s.heap VR Q v s := ⟨k, x, st, R, .refl, r, q⟩
theorem PG.valt {k : Kp} {s : Shared} {v : Value} {x : V} {tk : Nat} (R : Rel W k s st) (r : VR k s.heap v x) (q : Q x st) : PG W k s.heap VR Q v { s with toks := tk } := ⟨k, x, st, R.tok tk, .refl, r, q⟩

/-! ### names, constants -/
theorem te_local {x : Str} {pos : Pos} {v : V} (hk : env.kindOf x = some .local) (hv : ρ x = some v) (q : Q v st) (hd : (x == ("__debug__" : Str)) = false := by decide) : TE W n (.Name x pos) env ρ Q st := by
  intro A s k hA R L
  obtain ⟨m, hm, hr⟩ := L.ns
  obtain ⟨v', e, r⟩ := hr x v hk hv
  exact wpAny_Name (wpAny_loadName_local L.ok.kind hk hm e (.val R r q)) hd
theorem te_cell {x : Str} {pos : Pos} {v : V} (hk : env.kindOf x = some .cell) (hv : ρ x = some v) (q : Q v st) (hd : (x == ("__debug__" : Str)) = false := by decide) : TE W n (.Name x pos) env ρ Q st := by
  intro A s k hA R L
  obtain ⟨c, o, hc, hi, hr⟩ := L.cel x hk
  obtain ⟨v', rfl, r⟩ := hr v hv
  exact wpAny_Name (wpAny_loadName_cell L.ok.kind hk hc hi (.val R r q)) hd
theorem te_int {i : Int} {kd : Nat} {pos : Pos} (q : Q (.int i) st) : TE W n (.Constant (.int i) kd pos) env ρ Q st := fun _ s _ _ R _ => wpAny_Constant_int (.valt R (.int _ _) q)
theorem te_str {x : Str} {kd : Nat} {pos : Pos} (q : Q (.str x) st) : TE W n (.Constant (.str x) kd pos) env ρ Q st := fun _ s _ _ R _ => wpAny_Constant_str (.valt R (.str _ _) q)
theorem te_bool {b : Bool} {kd : Nat} {pos : Pos} (q : Q (.bool b) st) : TE W n (.Constant (.bool b) kd pos) env ρ Q st := fun _ s _ _ R _ => wpAny_Constant_bool (.val R (.bool _) q)
theorem te_none {kd : Nat} {pos : Pos} (q : Q .none st) : TE W n (.Constant .none kd pos) env ρ Q st := fun _ s _ _ R _ => wpAny_Constant_none (.val R .none q)

/-! ### nodes -/
theorem te_bin {l r : Expr} {op : Operator} {pos : Pos} (h : TE W n l env ρ (K2l W n (op2 (binaryOp op)) r env ρ Q) st) : TE W n (.BinOp l op r pos) env ρ Q st := by
  intro A s k hA R L
  refine wpAny_BinOp (h.run hA R L fun a s₁ k₁ x st₁ R₁ L₁ l₁ ra g => ?_)
  exact g.run hA R₁ L₁ fun b s₂ k₂ y st₂ R₂ L₂ l₂ rb g₂ => g₂.go (vs := [a, b]) hA R₂ (.cons (ra.le l₂) (.cons rb .nil)) (l₁.trans l₂)
theorem te_cmp {l r : Expr} {op : CmpOp} {pos : Pos} (h : TE W n l env ρ (K2l W n (op2 (compareOp op)) r env ρ Q) st) (hm : behindInMarks op r = false := by with_unfolding_all rfl) :
    TE W n (.Compare l [op] [r] pos) env ρ Q st := by
  intro A s k hA R L
  refine wpAny_Compare1 (h.run hA R L fun a s₁ k₁ x st₁ R₁ L₁ l₁ ra g => ?_) hm
  exact g.run hA R₁ L₁ fun b s₂ k₂ y st₂ R₂ L₂ l₂ rb g₂ => g₂.go (vs := [a, b]) hA R₂ (.cons (ra.le l₂) (.cons rb .nil)) (l₁.trans l₂)
theorem te_not {x : Expr} {pos : Pos} (h : TE W n x env ρ (KT W n (KNot Q)) st) : TE W n (.UnaryOp .Not x pos) env ρ Q st := by
  intro A s k hA R L
  refine wpAny_UnaryOp (h.run hA R L fun a s₁ k₁ x st₁ R₁ L₁ l₁ ra g => ?_)
  refine not_value (wpAny_mono (g A s₁ k₁ [a] hA R₁ (.cons ra .nil)) (fun b s₂ ⟨k₂, b', st₂, R₂, l₂, e, q⟩ => ?_) fun _ _ f => f)
  cases e; exact ⟨k₂, _, st₂, R₂, l₁.trans l₂, .bool _, q⟩
theorem te_ite {t b o : Expr} {pos : Pos} (h : TB W n t env ρ (KIte W n b o env ρ Q) st) : TE W n (.IfExp t b o pos) env ρ Q st := by
  intro A s k hA R L
  refine wpAny_IfExp (h.run hA R L fun a s₁ k₁ x st₁ R₁ L₁ l₁ ra g => ?_)
  cases ra
  cases a
  · exact wpAny_mono (g A s₁ k₁ hA R₁ L₁) (fun _ _ p => p.le l₁) fun _ _ f => f
  · exact wpAny_mono (g A s₁ k₁ hA R₁ L₁) (fun _ _ p => p.le l₁) fun _ _ f => f
theorem te_one {op : BoolOp} {e : Expr} {pos : Pos} (h : TE W n e env ρ Q st) : TE W n (.BoolOp op [e] pos) env ρ Q st := fun A s k hA R L => BoolOp_one (h A s k hA R L)
theorem te_and {e₁ e₂ : Expr} {rest : List Expr} {pos : Pos} (h : TE W n e₁ env ρ (fun v => OP W n REq (op1 truthy) [v] fun c => if c then TE W n (.BoolOp .And (e₂ :: rest) pos) env ρ Q else Q v) st) :
    TE W n (.BoolOp .And (e₁ :: e₂ :: rest) pos) env ρ Q st := by
  intro A s k hA R L
  refine BoolOp_and (h.run hA R L fun a s₁ k₁ x st₁ R₁ L₁ l₁ ra g => ?_)
  refine wpAny_mono (g A s₁ k₁ [a] hA R₁ (.cons ra .nil)) (fun c s₂ ⟨k₂, c', st₂, R₂, l₂, e, q⟩ => ?_) fun _ _ f => f
  cases e
  cases c
  · exact ⟨k₂, x, st₂, R₂, l₁.trans l₂, ra.le l₂, q⟩
  · exact wpAny_mono (q A s₂ k₂ hA R₂ (L₁.le l₂)) (fun _ _ p => p.le (l₁.trans l₂)) fun _ _ f => f
theorem te_or {e₁ e₂ : Expr} {rest : List Expr} {pos : Pos} (h : TE W n e₁ env ρ (fun v => OP W n REq (op1 truthy) [v] fun c => if c then Q v else TE W n (.BoolOp .Or (e₂ :: rest) pos) env ρ Q) st) :
    TE W n (.BoolOp .Or (e₁ :: e₂ :: rest) pos) env ρ Q st := by
  intro A s k hA R L
  refine BoolOp_or (h.run hA R L fun a s₁ k₁ x st₁ R₁ L₁ l₁ ra g => ?_)
  refine wpAny_mono (g A s₁ k₁ [a] hA R₁ (.cons ra .nil)) (fun c s₂ ⟨k₂, c', st₂, R₂, l₂, e, q⟩ => ?_) fun _ _ f => f
  cases e
  cases c
  · exact wpAny_mono (q A s₂ k₂ hA R₂ (L₁.le l₂)) (fun _ _ p => p.le (l₁.trans l₂)) fun _ _ f => f
  · exact ⟨k₂, x, st₂, R₂, l₁.trans l₂, ra.le l₂, q⟩
theorem te_attr {e : Expr} {f : Str} {pos : Pos} (h : TE W n e env ρ (K1 W n (op1 fun v => getAttr v f true) Q) st)
    (he : eval (.Attribute e f pos) env = (do
      let o ← eval e env
      standAt pos.atName
      let r ← holding [o] (getAttr o f true)
      letTemporaryGo e o r
      pure r) := by with_unfolding_all rfl) : TE W n (.Attribute e f pos) env ρ Q st := by
  intro A s k hA R L
  refine Attribute_any_ (h.run hA R L fun a s₁ k₁ x st₁ R₁ L₁ l₁ ra g => ?_) he
  exact g.go (vs := [a]) hA R₁ (.cons ra .nil) l₁
theorem te_sub {e i : Expr} {pos : Pos} (h : TE W n e env ρ (K2l W n (op2 (subscriptTail e i)) i env ρ Q) st) : TE W n (.Subscript e i pos) env ρ Q st := by
  intro A s k hA R L
  refine Subscript_ (h.run hA R L fun a s₁ k₁ x st₁ R₁ L₁ l₁ ra g => ?_)
  exact g.run hA R₁ L₁ fun b s₂ k₂ y st₂ R₂ L₂ l₂ rb g₂ => g₂.go (vs := [a, b]) hA R₂ (.cons (ra.le l₂) (.cons rb .nil)) (l₁.trans l₂)

/-! ### tests -/
variable {QB : Bool → St → Prop}
theorem tb_not {x : Expr} {pos : Pos} {whole : Sem Value} (h : TB W n x env ρ (KBNot QB) st) : T W n REq (isTrue (.UnaryOp .Not x pos) env whole) env ρ QB st := by
  intro A s k hA R L
  exact wpAny_isTrue_Not (h.run hA R L fun a s₁ k₁ x st₁ R₁ L₁ l₁ ra g => ⟨k₁, _, st₁, R₁, l₁, congrArg _ ra, g⟩)
theorem tb_andnil {pos : Pos} {whole : Sem Value} (q : QB true st) : T W n REq (isTrue (.BoolOp .And [] pos) env whole) env ρ QB st := fun A s k hA R L => isTrue_and_nil ⟨k, _, st, R, .refl, rfl, q⟩
theorem tb_ornil {pos : Pos} {whole : Sem Value} (q : QB false st) : T W n REq (isTrue (.BoolOp .Or [] pos) env whole) env ρ QB st := fun A s k hA R L => isTrue_or_nil ⟨k, _, st, R, .refl, rfl, q⟩
theorem tb_and {x : Expr} {rest : List Expr} {pos : Pos} {whole : Sem Value} (h : TB W n x env ρ (KBAnd W n rest pos whole env ρ QB) st) :
    T W n REq (isTrue (.BoolOp .And (x :: rest) pos) env whole) env ρ QB st := by
  intro A s k hA R L
  refine isTrue_and (h.run hA R L fun a s₁ k₁ x st₁ R₁ L₁ l₁ ra g => ?_)
  cases ra
  cases a
  · exact ⟨k₁, _, st₁, R₁, l₁, rfl, g⟩
  · exact wpAny_mono (g A s₁ k₁ hA R₁ L₁) (fun _ _ p => p.le l₁) fun _ _ f => f
theorem tb_or {x : Expr} {rest : List Expr} {pos : Pos} {whole : Sem Value} (h : TB W n x env ρ (KBOr W n rest pos whole env ρ QB) st) :
    T W n REq (isTrue (.BoolOp .Or (x :: rest) pos) env whole) env ρ QB st := by
  intro A s k hA R L
  refine isTrue_or (h.run hA R L fun a s₁ k₁ x st₁ R₁ L₁ l₁ ra g => ?_)
  cases ra
  cases a
  · exact wpAny_mono (g A s₁ k₁ hA R₁ L₁) (fun _ _ p => p.le l₁) fun _ _ f => f
  · exact ⟨k₁, _, st₁, R₁, l₁, rfl, g⟩
theorem tb_cmp {l r : Expr} {op : CmpOp} {pos : Pos} {whole : Sem Value} (h : TE W n l env ρ (K2l W n (op2 (compareOp op)) r env ρ (KBool QB)) st) (hm : behindInMarks op r = false := by with_unfolding_all rfl) :
    T W n REq (isTrue (.Compare l [op] [r] pos) env whole) env ρ QB st := by
  intro A s k hA R L
  refine wpAny_isTrue_Compare1 (h.run hA R L fun a s₁ k₁ x st₁ R₁ L₁ l₁ ra g => ?_) hm
  refine g.run hA R₁ L₁ fun b s₂ k₂ y st₂ R₂ L₂ l₂ rb g₂ => ?_
  refine wpAny_mono (g₂ A s₂ k₂ [a, b] hA R₂ (.cons (ra.le l₂) (.cons rb .nil))) (fun c s₃ ⟨k₃, c', st₃, R₃, l₃, rc, q⟩ => ?_) fun _ _ f => f
  obtain ⟨b', rfl, q⟩ := q
  cases rc
  exact wpAny_truthy_bool ⟨k₃, _, st₃, R₃, (l₁.trans l₂).trans l₃, rfl, q⟩
theorem tb_val {e : Expr} (h : TE W n e env ρ (KT W n QB) st) (he : isTrue e env (eval e env) = (do let v ← eval e env; standAt e.pos; holding [v] (truthy v)) := by k_dflt rfl) : TB W n e env ρ QB st := by
  intro A s k hA R L
  refine isTrue_plain (h.run hA R L fun a s₁ k₁ x st₁ R₁ L₁ l₁ ra g => ?_) he
  exact g.go (vs := [a]) hA R₁ (.cons ra .nil) l₁
end
end
section
set_option linter.unusedVariables false

/-! ## dicts over the small store -/
noncomputable def dget {α : Type} (es : List (Int × α)) (i : Int) : Option α := (es.find? fun e => decide (e.1 = i)).map (·.2)
noncomputable def dput {α : Type} (es : List (Int × α)) (i : Int) (x : α) : List (Int × α) := if es.any (fun e => decide (e.1 = i)) then es.map (fun e => if e.1 = i then (e.1, x) else e) else es ++ [(i, x)]
noncomputable def ddel {α : Type} (es : List (Int × α)) (i : Int) : List (Int × α) := es.filter fun e => decide (e.1 ≠ i)

section
variable {k : Kp} {h : Heap}
theorem ERs.length : ∀ {kvs : List (Option Int × Value)} {es : List (Int × V)}, ERs k h kvs es → kvs.length = es.length
  | _, _, .nil => rfl
  | _, _, .cons _ r => congrArg (· + 1) r.length
theorem ERs.valueAt (i : Int) : ∀ {kvs : List (Option Int × Value)} {es : List (Int × V)}, ERs k h kvs es → (∀ x, dget es i = some x → ∃ v, PySem.valueAt kvs (some i) = some v ∧ VR k h v x) ∧ (dget es i = none → PySem.valueAt kvs (some i) = none)
  | _, _, .nil => ⟨fun x e => by simp [dget] at e, fun _ => rfl⟩
  | _, _, .cons (i := j) (v := v) (x := y) r rs => by
    have ih := ERs.valueAt i rs
    unfold dget PySem.valueAt at ih ⊢
    by_cases q : j = i
    · subst q
      simp only [List.find?_cons, decide_true, Option.map_some]
      exact ⟨fun x e => ⟨_, rfl, by cases e; exact r⟩, fun e => by cases e⟩
    · have q' : ¬ (some j = some i) := fun e => q (Option.some.inj e)
      simp only [List.find?_cons, decide_eq_false q, decide_eq_false q']
      exact ih
theorem ERs.valueAt_none : ∀ {kvs : List (Option Int × Value)} {es : List (Int × V)}, ERs k h kvs es → PySem.valueAt kvs none = none
  | _, _, .nil => rfl
  | _, _, .cons (i := j) r rs => by
    have ih := ERs.valueAt_none rs
    unfold PySem.valueAt at ih ⊢
    simp only [List.find?_cons, reduceCtorEq, decide_false]
    exact ih
theorem ERs.any (i : Int) : ∀ {kvs : List (Option Int × Value)} {es : List (Int × V)}, ERs k h kvs es → (kvs.any fun kv => decide (kv.1 = some i)) = es.any fun e => decide (e.1 = i)
  | _, _, .nil => rfl
  | _, _, .cons (i := j) r rs => by
    simp only [List.any_cons, ERs.any i rs, Option.some.injEq]
theorem ERs.map (i : Int) {v : Value} {x : V} (r : VR k h v x) : ∀ {kvs : List (Option Int × Value)} {es : List (Int × V)}, ERs k h kvs es → ERs k h (kvs.map fun kv => if kv.1 = some i then (kv.1, v) else kv) (es.map fun e => if e.1 = i then (e.1, x) else e)
  | _, _, .nil => .nil
  | _, _, .cons (i := j) r' rs => by
    simp only [List.map_cons, Option.some.injEq]
    by_cases q : j = i
    · rw [if_pos q, if_pos q]; exact .cons r (ERs.map i r rs)
    · rw [if_neg q, if_neg q]; exact .cons r' (ERs.map i r rs)
theorem ERs.snoc {i : Int} {v : Value} {x : V} (r : VR k h v x) : ∀ {kvs : List (Option Int × Value)} {es : List (Int × V)}, ERs k h kvs es → ERs k h (kvs ++ [(some i, v)]) (es ++ [(i, x)])
  | _, _, .nil => .cons r .nil
  | _, _, .cons r' rs => .cons r' (rs.snoc r)
theorem ERs.stored {i : Int} {v : Value} {x : V} (r : VR k h v x) {kvs : List (Option Int × Value)} {es : List (Int × V)} (rs : ERs k h kvs es) : ERs k h (PySem.stored kvs (some i) v) (dput es i x) := by
  unfold PySem.stored dput
  rw [rs.any i]
  split
  · exact rs.map i r
  · exact rs.snoc r
theorem ERs.without (i : Int) : ∀ {kvs : List (Option Int × Value)} {es : List (Int × V)}, ERs k h kvs es → ERs k h (PySem.without kvs (some i)) (ddel es i)
  | _, _, .nil => .nil
  | _, _, .cons (i := j) r rs => by
    have ih := ERs.without i rs
    unfold PySem.without ddel at ih ⊢
    simp only [List.filter_cons, ne_eq, Option.some.injEq]
    by_cases q : j = i
    · simp only [q, not_true_eq_false, decide_false, Bool.false_eq_true, if_false]; exact ih
    · simp only [q, not_false_eq_true, decide_true, if_true]; exact .cons r ih
end

theorem VRs.one {k : Kp} {h : Heap} {vs : List Value} {x : V} (r : VRs k h vs [x]) : ∃ a, vs = [a] ∧ VR k h a x := by
  cases r with | cons r rs => cases rs; exact ⟨_, rfl, r⟩
theorem VRs.two {k : Kp} {h : Heap} {vs : List Value} {x y : V} (r : VRs k h vs [x, y]) : ∃ a b, vs = [a, b] ∧ VR k h a x ∧ VR k h b y := by
  cases r with | cons r rs => obtain ⟨b, rfl, rb⟩ := rs.one; exact ⟨_, _, rfl, r, rb⟩
theorem VRs.three {k : Kp} {h : Heap} {vs : List Value} {x y z : V} (r : VRs k h vs [x, y, z]) : ∃ a b c, vs = [a, b, c] ∧ VR k h a x ∧ VR k h b y ∧ VR k h c z := by
  cases r with | cons r rs => obtain ⟨b, c, rfl, rb⟩ := rs.two; exact ⟨_, _, _, rfl, r, rb⟩
theorem VR.int_inv {k : Kp} {h : Heap} {v : Value} {i : Int} (r : VR k h v (.int i)) : ∃ t, v = .int i t := by cases r; exact ⟨_, rfl⟩
theorem VR.str_inv {k : Kp} {h : Heap} {v : Value} {i : Str} (r : VR k h v (.str i)) : ∃ t, v = .str i t := by cases r; exact ⟨_, rfl⟩
theorem VR.bool_inv {k : Kp} {h : Heap} {v : Value} {i : Bool} (r : VR k h v (.bool i)) : v = .bool i := by cases r; rfl
theorem VR.none_inv {k : Kp} {h : Heap} {v : Value} (r : VR k h v .none) : v = .none := by cases r; rfl
theorem VR.ref_inv {k : Kp} {h : Heap} {v : Value} {x : Role} (r : VR k h v (.ref x)) : ∃ a, v = .ref a ∧ k.κ a = some (x, false) := by cases r with | ref e => exact ⟨_, rfl, e⟩
theorem VR.tup_inv {k : Kp} {h : Heap} {v : Value} {l : List V} (r : VR k h v (.tup l)) : ∃ a vs n, v = .ref a ∧ h.get? a = some { cls := .type "tuple", data := .seq vs.toArray n } ∧ k.κ a = Option.none ∧ VRs k h vs l := by cases r with | tup e n r => exact ⟨_, _, _, rfl, e, n, r⟩

section
variable {W : Wd} {n : Nat} {st : St} {Q : V → St → Prop}

theorem Rel.addr {k : Kp} {s : Shared} (R : Rel W k s st) {a : Addr} {r : Role} (e : k.κ a = some (r, false)) : a = k.ad r := (R.own a r false e).2
theorem Rel.notSys (ok : W.Ok) {k : Kp} {s : Shared} (R : Rel W k s st) {a : Addr} {x : Role × Bool} (e : k.κ a = some x) : (a == sysModules) = false := by
  have h1 := (R.new a x e).2.1
  have : a ≠ sysModules := fun q => by rw [q] at h1; exact absurd h1 (by decide)
  simpa using this
theorem Rel.dictAt {k : Kp} {s : Shared} (R : Rel W k s st) {a : Addr} {r : Role} {es ep} (e : k.κ a = some (r, false)) (hr : st r = some (.dict es ep)) : ∃ kvs, s.heap.DictAt (knd W.prog W.w) a kvs ep ∧ ERs k s.heap kvs es := by
  have X := (R.obj r _ hr).2
  rw [R.addr e]; exact X
theorem Rel.listAt {k : Kp} {s : Shared} (R : Rel W k s st) {a : Addr} {r : Role} {xs} (e : k.κ a = some (r, false)) (hr : st r = some (.list xs)) : ∃ vs m, IsL s.heap a vs.toArray m ∧ VRs k s.heap vs xs := by
  have X := (R.obj r _ hr).2
  rw [R.addr e]; exact X

/-! ### ints, strs, bools, None -/
theorem op_add {a b : Int} (q : Q (.int (a + b)) st) : OP W n VR (op2 (binaryOp .Add)) [.int a, .int b] Q st := by
  intro A s k vs hA R r
  obtain ⟨_, _, rfl, ra, rb⟩ := r.two
  obtain ⟨_, rfl⟩ := ra.int_inv; obtain ⟨_, rfl⟩ := rb.int_inv
  exact P.add_int (.valt R (.int _ _) q)
theorem op_sub {a b : Int} (q : Q (.int (a - b)) st) : OP W n VR (op2 (binaryOp .Sub)) [.int a, .int b] Q st := by
  intro A s k vs hA R r
  obtain ⟨_, _, rfl, ra, rb⟩ := r.two
  obtain ⟨_, rfl⟩ := ra.int_inv; obtain ⟨_, rfl⟩ := rb.int_inv
  exact P.sub_int (.valt R (.int _ _) q)
theorem op_iadd {a b : Int} (q : Q (.int (a + b)) st) : OP W n VR (op2 (inplaceOp .Add)) [.int a, .int b] Q st := by
  intro A s k vs hA R r
  obtain ⟨_, _, rfl, ra, rb⟩ := r.two
  obtain ⟨_, rfl⟩ := ra.int_inv; obtain ⟨_, rfl⟩ := rb.int_inv
  exact P.iadd_int (.valt R (.int _ _) q)
theorem op_isub {a b : Int} (q : Q (.int (a - b)) st) : OP W n VR (op2 (inplaceOp .Sub)) [.int a, .int b] Q st := by
  intro A s k vs hA R r
  obtain ⟨_, _, rfl, ra, rb⟩ := r.two
  obtain ⟨_, rfl⟩ := ra.int_inv; obtain ⟨_, rfl⟩ := rb.int_inv
  exact P.isub_int (.valt R (.int _ _) q)
theorem op_mod {a b : Int} (hb : b ≠ 0) (q : Q (.int (a.fmod b)) st) : OP W n VR (op2 (binaryOp .Mod)) [.int a, .int b] Q st := by
  intro A s k vs hA R r
  obtain ⟨_, _, rfl, ra, rb⟩ := r.two
  obtain ⟨_, rfl⟩ := ra.int_inv; obtain ⟨_, rfl⟩ := rb.int_inv
  exact mod_int' hb (.valt R (.int _ _) q)
theorem op_fdiv {a b : Int} (hb : b ≠ 0) (hs : b.natAbs < 1073741824) (q : Q (.int (a.fdiv b)) st) : OP W n VR (op2 (binaryOp .FloorDiv)) [.int a, .int b] Q st := by
  intro A s k vs hA R r
  obtain ⟨_, _, rfl, ra, rb⟩ := r.two
  obtain ⟨_, rfl⟩ := ra.int_inv; obtain ⟨_, rfl⟩ := rb.int_inv
  exact floordiv_int hb (.valt R (.int _ _) q) (.inl (PyProof.noPylong_small hs))
theorem op_lt {a b : Int} (q : Q (.bool (decide (a < b))) st) : OP W n VR (op2 (compareOp .Lt)) [.int a, .int b] Q st := by
  intro A s k vs hA R r
  obtain ⟨_, _, rfl, ra, rb⟩ := r.two
  obtain ⟨_, rfl⟩ := ra.int_inv; obtain ⟨_, rfl⟩ := rb.int_inv
  exact P.lt_int (.val R (.bool _) q)
theorem op_gt {a b : Int} (q : Q (.bool (decide (a > b))) st) : OP W n VR (op2 (compareOp .Gt)) [.int a, .int b] Q st := by
  intro A s k vs hA R r
  obtain ⟨_, _, rfl, ra, rb⟩ := r.two
  obtain ⟨_, rfl⟩ := ra.int_inv; obtain ⟨_, rfl⟩ := rb.int_inv
  exact P.gt_int (.val R (.bool _) q)

noncomputable def V.isNone : V → Bool | .none => true | _ => false
theorem VR.plainIs {k : Kp} {h : Heap} {v : Value} {x : V} (r : VR k h v x) : PySem.plainIs v .none = true ∧ (v == Value.none) = x.isNone := by
  cases r <;> exact ⟨rfl, rfl⟩
theorem op_is {x : V} (q : Q (.bool x.isNone) st) : OP W n VR (op2 (compareOp .Is)) [x, .none] Q st := by
  intro A s k vs hA R r
  obtain ⟨_, _, rfl, ra, rb⟩ := r.two
  cases rb.none_inv
  refine wpAny_is_plain ra.plainIs.1 ?_
  rw [ra.plainIs.2]; exact .val R (.bool _) q
theorem op_isNot {x : V} (q : Q (.bool (!x.isNone)) st) : OP W n VR (op2 (compareOp .IsNot)) [x, .none] Q st := by
  intro A s k vs hA R r
  obtain ⟨_, _, rfl, ra, rb⟩ := r.two
  cases rb.none_inv
  refine wpAny_isNot_plain ra.plainIs.1 ?_
  rw [ra.plainIs.2]; exact .val R (.bool _) q

/-- plain data: no roles -/
noncomputable def V.toD : V → Option PyData
  | .none => some .none
  | .bool b => some (.bool b)
  | .int i => some (.int i)
  | .str s => some (.str s)
  | .ref _ => Option.none
  | .tup l => (go l).map .tuple
where go : List V → Option (List PyData)
  | [] => some []
  | x :: r => (x.toD).bind fun d => (go r).map (d :: ·)

mutual
theorem VR.reads {k : Kp} {h : Heap} : ∀ {v : Value} {x : V} {d : PyData}, VR k h v x → x.toD = some d → ∃ as, Reads h v d as
  | _, _, _, .none, e => by simp only [V.toD, Option.some.injEq] at e; subst e; exact ⟨_, .none⟩
  | _, _, _, .bool b, e => by simp only [V.toD, Option.some.injEq] at e; subst e; exact ⟨_, .bool b⟩
  | _, _, _, .int i t, e => by simp only [V.toD, Option.some.injEq] at e; subst e; exact ⟨_, .int i t⟩
  | _, _, _, .str i t, e => by simp only [V.toD, Option.some.injEq] at e; subst e; exact ⟨_, .str i t⟩
  | _, _, _, .ref _, e => by simp [V.toD] at e
  | _, _, _, .tup (vs := vs) ho hn r, e => by
    simp only [V.toD, Option.map_eq_some_iff] at e
    obtain ⟨ds, e, rfl⟩ := e
    obtain ⟨as, ra⟩ := VRs.reads r e
    exact ⟨_, .tuple ho rfl rfl (by simpa using ra)⟩
theorem VRs.reads {k : Kp} {h : Heap} : ∀ {v : List Value} {x : List V} {d : List PyData}, VRs k h v x → V.toD.go x = some d → ∃ as, ReadsAll h v d as
  | _, _, _, .nil, e => by simp only [V.toD.go, Option.some.injEq] at e; subst e; exact ⟨_, .nil⟩
  | _, _, _, .cons r rs, e => by
    simp only [V.toD.go, Option.bind_eq_some_iff, Option.map_eq_some_iff] at e
    obtain ⟨d, e1, ds, e2, rfl⟩ := e
    obtain ⟨as, ra⟩ := VR.reads r e1
    obtain ⟨bs, rb⟩ := VRs.reads rs e2
    exact ⟨_, .cons ra rb⟩
end
theorem op_eq {x y : V} {d e : PyData} (hx : x.toD = some d) (hy : y.toD = some e) (cd : d.canLay0 = true) (ce : e.canLay0 = true) (dd : d.depth ≤ 64) (q : Q (.bool (PyData.eqv d e)) st) : OP W n VR (op2 (compareOp .Eq)) [x, y] Q st := by
  intro A s k vs hA R r
  obtain ⟨_, _, rfl, ra, rb⟩ := r.two
  obtain ⟨as, ra⟩ := ra.reads hx
  obtain ⟨bs, rb⟩ := rb.reads hy
  refine SeqAt.compareEq_reads ra rb cd ce ?_ (.val R (.bool _) q)
  have := hA.2.2
  have e : cLine = 9900 := rfl
  omega
theorem op_ne {x y : V} {d e : PyData} (hx : x.toD = some d) (hy : y.toD = some e) (cd : d.canLay0 = true) (ce : e.canLay0 = true) (dd : d.depth ≤ 64) (q : Q (.bool (!PyData.eqv d e)) st) : OP W n VR (op2 (compareOp .NotEq)) [x, y] Q st := by
  intro A s k vs hA R r
  obtain ⟨_, _, rfl, ra, rb⟩ := r.two
  obtain ⟨as, ra⟩ := ra.reads hx
  obtain ⟨bs, rb⟩ := rb.reads hy
  refine SeqAt.compareNe_reads ra rb cd ce ?_ (.val R (.bool _) q)
  have := hA.2.2
  have e : cLine = 9900 := rfl
  omega

/-! ### truth -/
theorem op_truthb {b : Bool} {QB : Bool → St → Prop} (q : QB b st) : OP W n REq (op1 truthy) [.bool b] QB st := by
  intro A s k vs hA R r
  obtain ⟨_, rfl, ra⟩ := r.one
  cases ra.bool_inv
  exact wpAny_truthy_bool ⟨k, _, st, R, .refl, rfl, q⟩
theorem op_truthl {r : Role} {xs : List V} {QB : Bool → St → Prop} (hr : st r = some (.list xs)) (hz : xs.length ≤ 16777216) (q : QB (!xs.isEmpty) st) : OP W n REq (op1 truthy) [.ref r] QB st := by
  intro A s k vs hA R rr
  obtain ⟨_, rfl, ra⟩ := rr.one
  obtain ⟨a, rfl, e⟩ := ra.ref_inv
  obtain ⟨vs, m, hl, rs⟩ := R.listAt e hr
  have hlen := rs.length
  have he : vs.toArray.isEmpty = xs.isEmpty := by
    cases vs <;> cases xs <;> simp_all
  refine wpAny_truthy_list hl.isList (by rw [List.size_toArray]; omega) ?_
  rw [he]
  exact ⟨k, _, st, R.tok _, .refl, rfl, q⟩

/-! ### dicts -/
theorem op_in {r : Role} {es ep} {i : Int} (ok : W.Ok) (hr : st r = some (.dict es ep)) (q : Q (.bool (dget es i).isSome) st) : OP W n VR (op2 (compareOp .In)) [.int i, .ref r] Q st := by
  intro A s k vs hA R rr
  obtain ⟨_, _, rfl, ra, rb⟩ := rr.two
  obtain ⟨t, rfl⟩ := ra.int_inv; obtain ⟨a, rfl, e⟩ := rb.ref_inv
  obtain ⟨kvs, hd, rs⟩ := R.dictAt e hr
  refine wpAny_in_of (knd := knd W.prog W.w) (k := some i) (by simp [knd, isOI, Value.isInt]) (R.notSys ok e) hd.dictOf.mapOf ?_
  have : (PySem.valueAt kvs (some i)).isSome = (dget es i).isSome := by
    have X := rs.valueAt i
    cases g : dget es i with
    | none => rw [X.2 g]; rfl
    | some x => obtain ⟨v, e1, _⟩ := X.1 x g; rw [e1]; rfl
  rw [this]
  exact .valt R (.bool _) q
theorem op_in_none {r : Role} {es ep} (ok : W.Ok) (hr : st r = some (.dict es ep)) (q : Q (.bool false) st) : OP W n VR (op2 (compareOp .In)) [.none, .ref r] Q st := by
  intro A s k vs hA R rr
  obtain ⟨_, _, rfl, ra, rb⟩ := rr.two
  cases ra.none_inv; obtain ⟨a, rfl, e⟩ := rb.ref_inv
  obtain ⟨kvs, hd, rs⟩ := R.dictAt e hr
  refine wpAny_in_of (knd := knd W.prog W.w) (k := none) (by simp [knd, isOI]) (R.notSys ok e) hd.dictOf.mapOf ?_
  rw [rs.valueAt_none]
  exact .valt R (.bool _) q
theorem op_notin {r : Role} {es ep} {i : Int} (ok : W.Ok) (hr : st r = some (.dict es ep)) (q : Q (.bool (!(dget es i).isSome)) st) : OP W n VR (op2 (compareOp .NotIn)) [.int i, .ref r] Q st := by
  intro A s k vs hA R rr
  obtain ⟨_, _, rfl, ra, rb⟩ := rr.two
  obtain ⟨t, rfl⟩ := ra.int_inv; obtain ⟨a, rfl, e⟩ := rb.ref_inv
  obtain ⟨kvs, hd, rs⟩ := R.dictAt e hr
  refine wpAny_notIn_of (knd := knd W.prog W.w) (k := some i) (by simp [knd, isOI, Value.isInt]) (R.notSys ok e) hd.dictOf.mapOf ?_
  have : (PySem.valueAt kvs (some i)).isSome = (dget es i).isSome := by
    have X := rs.valueAt i
    cases g : dget es i with
    | none => rw [X.2 g]; rfl
    | some x => obtain ⟨v, e1, _⟩ := X.1 x g; rw [e1]; rfl
  rw [this]
  exact .valt R (.bool _) q
theorem op_dictitem {r : Role} {es ep} {i : Int} {x : V} {value slice : Expr} (hr : st r = some (.dict es ep)) (hx : dget es i = some x) (q : Q x st)
    (hs : ∀ a t, subscripted slice false (.ref a) (.int i t) = operate [.ref a, .int i t] (getItem (.ref a) (.int i t)) := by intro _ _; with_unfolding_all rfl) : OP W n VR (op2 (subscriptTail value slice)) [.ref r, .int i] Q st := by
  intro A s k vs hA R rr
  obtain ⟨_, _, rfl, ra, rb⟩ := rr.two
  obtain ⟨t, rfl⟩ := rb.int_inv; obtain ⟨a, rfl, e⟩ := ra.ref_inv
  obtain ⟨kvs, hd, rs⟩ := R.dictAt e hr
  obtain ⟨v, hv, rv⟩ := (rs.valueAt i).1 x hx
  refine tail_any hd.dictOf.typeIs slot_dict_getitem.lookup (wpAny_getItem_of (knd := knd W.prog W.w) (k := some i) (by simp [knd, isOI, Value.isInt]) hd.dictOf.mapOf hv ?_) (hs a t)
  exact .valt R rv q
theorem op_getitem {r : Role} {es ep} {i : Int} {x : V} (hr : st r = some (.dict es ep)) (hx : dget es i = some x) (q : Q x st) : OP W n VR (op2 getItem) [.ref r, .int i] Q st := by
  intro A s k vs hA R rr
  obtain ⟨_, _, rfl, ra, rb⟩ := rr.two
  obtain ⟨t, rfl⟩ := rb.int_inv; obtain ⟨a, rfl, e⟩ := ra.ref_inv
  obtain ⟨kvs, hd, rs⟩ := R.dictAt e hr
  obtain ⟨v, hv, rv⟩ := (rs.valueAt i).1 x hx
  refine wpAny_getItem_of (knd := knd W.prog W.w) (k := some i) (by simp [knd, isOI, Value.isInt]) hd.dictOf.mapOf hv ?_
  exact .valt R rv q
noncomputable abbrev RU : Kp → Heap → Unit → Unit → Prop := fun _ _ _ _ => True
theorem op_setitem {r : Role} {es ep} {i : Int} {x : V} {QU : Unit → St → Prop} (hr : st r = some (.dict es ep)) (hz : es.length ≤ 16777216) (q : ∀ ep', QU () (st.set r (.dict (dput es i x) ep'))) : OP W n RU (op3 setItem) [.ref r, .int i, x] QU st := by
  intro A s k vs hA R rr
  obtain ⟨_, _, v, rfl, ra, rb, rc⟩ := rr.three
  obtain ⟨t, rfl⟩ := rb.int_inv; obtain ⟨a, rfl, e⟩ := ra.ref_inv
  obtain ⟨kvs, hd, rs⟩ := R.dictAt e hr
  refine wpAny_setItem_pairs (knd := knd W.prog W.w) (k := some i) (by simp [knd, isOI, Value.isInt]) hd.dictOf (fun h' hd' hs' => ?_) (by rw [rs.length]; exact hz)
  obtain ⟨ep', hd'⟩ := hd'.dictAt
  have X := R.upd (o' := .dict (dput es i x) ep') (tk := s.toks + 1) e hs' (by obtain ⟨_, _, ho, _⟩ := hd'; rw [ho]; rfl) fun l => ⟨_, by rw [← R.addr e]; exact hd', (rs.mono l NoTup.nob).stored (rc.le l)⟩
  exact ⟨k, (), _, X.1, X.2, trivial, q ep'⟩
theorem op_delitem {r : Role} {es ep} {i : Int} {QU : Unit → St → Prop} (hr : st r = some (.dict es ep)) (hz : es.length ≤ 16777216) (hx : (dget es i).isSome = true) (q : ∀ ep', QU () (st.set r (.dict (ddel es i) ep'))) : OP W n RU (op2 delItem) [.ref r, .int i] QU st := by
  intro A s k vs hA R rr
  obtain ⟨_, _, rfl, ra, rb⟩ := rr.two
  obtain ⟨t, rfl⟩ := rb.int_inv; obtain ⟨a, rfl, e⟩ := ra.ref_inv
  obtain ⟨kvs, hd, rs⟩ := R.dictAt e hr
  obtain ⟨x, hx⟩ := Option.isSome_iff_exists.mp hx
  obtain ⟨v, hv, rv⟩ := (rs.valueAt i).1 x hx
  refine wpAny_delItem_slot hd.dictOf.typeIs (by decide) PySem.F.slot_dict_delitem (call_meetsIn PySem.F.slot_dict_delitem hd.dictOf.typeIs PySem.F.entry_dict_delitem (PySem.F.args_dict_delitem_2 _ _)
    (meets_dict_delitem_pairs (knd := knd W.prog W.w) a (k := some i) (by simp [knd, isOI, Value.isInt])) ⟨kvs, hd.dictOf, by rw [rs.length]; exact hz, by rw [hv]; rfl, fun h' hd' hs' => ?_⟩)
  obtain ⟨ep', hd'⟩ := hd'.dictAt
  have X := R.upd (o' := .dict (ddel es i) ep') (tk := s.toks + 1) e hs' (by obtain ⟨_, _, ho, _⟩ := hd'; rw [ho]; rfl) fun l => ⟨_, by rw [← R.addr e]; exact hd', (rs.mono l NoTup.nob).without i⟩
  exact ⟨k, (), _, X.1, X.2, trivial, q ep'⟩

/-! ### lists, tuples -/
theorem op_tupitem {xs : List V} {i : Int} {x : V} {value slice : Expr} (h0 : 0 ≤ i) (hi : i < 2 ^ 63) (hx : xs[i.toNat]? = some x) (q : Q x st)
    (hs : ∀ a t, subscripted slice false (.ref a) (.int i t) = operate [.ref a, .int i t] (getItem (.ref a) (.int i t)) := by intro _ _; with_unfolding_all rfl) : OP W n VR (op2 (subscriptTail value slice)) [.tup xs, .int i] Q st := by
  intro A s k vs hA R rr
  obtain ⟨_, _, rfl, ra, rb⟩ := rr.two
  obtain ⟨t, rfl⟩ := rb.int_inv; obtain ⟨a, ws, m, rfl, ho, hn, rs⟩ := ra.tup_inv
  obtain ⟨v, hv, rv⟩ := rs.get hx
  have hlt : i.toNat < ws.length := (List.getElem?_eq_some_iff.mp hv).1
  have hj : seqIndex? i ws.length = some i.toNat := seqIndex_of h0 (by omega)
  exact item_tupleT ⟨_, ho, rfl, m, rfl⟩ (by omega) hi hj hv (.val R rv q) (hs a t)
theorem op_listitem {r : Role} {xs : List V} {i : Int} {x : V} {value slice : Expr} (hr : st r = some (.list xs)) (h0 : 0 ≤ i) (hi : i < 2 ^ 63) (hx : xs[i.toNat]? = some x) (q : Q x st)
    (hs : ∀ a t, subscripted slice false (.ref a) (.int i t) = operate [.ref a, .int i t] (getItem (.ref a) (.int i t)) := by intro _ _; with_unfolding_all rfl) : OP W n VR (op2 (subscriptTail value slice)) [.ref r, .int i] Q st := by
  intro A s k vs hA R rr
  obtain ⟨_, _, rfl, ra, rb⟩ := rr.two
  obtain ⟨t, rfl⟩ := rb.int_inv; obtain ⟨a, rfl, e⟩ := ra.ref_inv
  obtain ⟨ws, m, hl, rs⟩ := R.listAt e hr
  obtain ⟨v, hv, rv⟩ := rs.get hx
  exact tail_any ⟨_, hl, rfl⟩ slot_list_getitem.lookup (wpAny_getItem_list hl.isList h0 hi (by simpa using hv) (.val R rv q)) (hs a t)
end
end
section
set_option linter.unusedVariables false

section
variable {W : Wd} {n : Nat} {env : Env} {ρ : Loc} {st : St} {Q : V → St → Prop}

/-! ## arguments -/
noncomputable abbrev TA (W : Wd) (n : Nat) (args : List Expr) (pos : Pos) (env : Env) (ρ : Loc) (Q : List V → St → Prop) (st : St) : Prop := T W n VRs (spliced (backTo pos (starEach args env))) env ρ Q st
noncomputable abbrev KCons (QL : List V → St → Prop) (v : V) : List V → St → Prop := fun vs => QL (v :: vs)
noncomputable abbrev KA (W : Wd) (n : Nat) (rest : List Expr) (pos : Pos) (env : Env) (ρ : Loc) (QL : List V → St → Prop) : V → St → Prop := fun v => TA W n rest pos env ρ (KCons QL v)
noncomputable abbrev KTup (Q : V → St → Prop) : List V → St → Prop := fun xs st' => xs.length ≤ 16777216 ∧ Q (.tup xs) st'
variable {QL : List V → St → Prop}
theorem ta_nil {pos : Pos} (q : QL [] st) : TA W n [] pos env ρ QL st := fun A s k hA R L => args_nil ⟨k, _, st, R, .refl, .nil, q⟩
theorem ta_cons {e : Expr} {rest : List Expr} {pos : Pos} (h : TE W n e env ρ (KA W n rest pos env ρ QL) st) (he : starEach (e :: rest) env = (false, eval e env) :: starEach rest env := by k_dflt rfl) : TA W n (e :: rest) pos env ρ QL st := by
  intro A s k hA R L
  refine args_cons (h.run hA R L fun a s₁ k₁ x st₁ R₁ L₁ l₁ ra g => ?_) he
  exact g.run hA R₁ L₁ fun vs s₂ k₂ xs st₂ R₂ L₂ l₂ rs g₂ => ⟨k₂, _, st₂, R₂, l₁.trans l₂, .cons (ra.le l₂) rs, g₂⟩

/-- a new list, tuple, dict -/
theorem Heap.get_new {h : Heap} {o : Obj} {b : Addr} {x : Obj} (e : h.get? b = some x) : (h.push o).get? b = some x := Heap.get?_push_of_some _ e
theorem fresh_none {h : Heap} : h.get? h.objs.size = none := by
  cases q : h.get? h.objs.size with
  | none => rfl
  | some o => exact absurd (Heap.lt_size q) (Nat.lt_irrefl _)
theorem Rel.push {k : Kp} {s : Shared} (R : Rel W k s st) (o : Obj) {tk : Nat} : Rel W k { s with heap := s.heap.push o, toks := tk } st ∧ Le nob k s.heap k (s.heap.push o) :=
  R.grow (fun _ _ e => Heap.get?_push_of_some _ e)
theorem Rel.freshκ {k : Kp} {s : Shared} (R : Rel W k s st) : k.κ s.heap.objs.size = none := by
  cases q : k.κ s.heap.objs.size with
  | none => rfl
  | some x =>
    obtain ⟨o, ho⟩ := Option.isSome_iff_exists.mp (R.new _ _ q).2.2
    exact absurd (Heap.lt_size ho) (Nat.lt_irrefl _)
theorem Rel.lo (ok : W.Ok) {k : Kp} {s : Shared} (R : Rel W k s st) {a : Addr} (h : s.heap.objs.size ≤ a) : W.h0.get? a = none ∧ 3 < a := by
  refine ⟨?_, ?_⟩
  · cases q : W.h0.get? a with
    | none => rfl
    | some o => exact absurd (Heap.lt_size (R.keep _ _ q)) (Nat.not_lt.mpr h)
  · obtain ⟨o, _, _, ho, _⟩ := ok.g
    exact Nat.lt_of_lt_of_le (Heap.lt_size (R.keep _ _ ho)) h

theorem Rel.newList (ok : W.Ok) {k : Kp} {s : Shared} (R : Rel W k s st) {vs : List Value} {xs : List V} (rs : VRs k s.heap vs xs) {r : Role} (hr : st r = none) {m : Nat} {tk : Nat} :
    ∃ k', Rel W k' { s with heap := s.heap.push { cls := .type "list", data := .seq vs.toArray m }, toks := tk } (st.set r (.list xs)) ∧ Le nob k s.heap k' (s.heap.push { cls := .type "list", data := .seq vs.toArray m }) ∧ VR k' (s.heap.push { cls := .type "list", data := .seq vs.toArray m }) (.ref s.heap.objs.size) (.ref r) := by
  obtain ⟨R', l⟩ := R.push { cls := .type "list", data := .seq vs.toArray m } (tk := tk)
  have hg : (s.heap.push { cls := .type "list", data := .seq vs.toArray m }).get? s.heap.objs.size = some { cls := .type "list", data := .seq vs.toArray m } := Heap.get?_push_size _ rfl
  have X := R'.adopt (a := s.heap.objs.size) (r := r) (o' := .list xs) hr R.freshκ (R.lo ok (Nat.le_refl _)) (by show ((s.heap.push _).get? _).isSome = true; rw [hg]; rfl) (h := s.heap) fresh_none
    (fun a vs' n' p e => by subst p; have e : (s.heap.push _).get? _ = _ := e; rw [hg] at e; simp at e) (fun la => ⟨vs, m, by rw [Kp.add_ads]; exact hg, (rs.le l).mono la (fun a vs' n' p e => by subst p; have e : (s.heap.push _).get? _ = _ := e; rw [hg] at e; simp at e)⟩) l
  exact ⟨_, X⟩
theorem Rel.newDict (ok : W.Ok) {k : Kp} {s : Shared} (R : Rel W k s st) {r : Role} (hr : st r = none) {tk : Nat} :
    ∃ k', Rel W k' { s with heap := s.heap.push { cls := .type "dict", data := .dict #[] }, toks := tk } (st.set r (.dict [] 0)) ∧ Le nob k s.heap k' (s.heap.push { cls := .type "dict", data := .dict #[] }) ∧ VR k' (s.heap.push { cls := .type "dict", data := .dict #[] }) (.ref s.heap.objs.size) (.ref r) := by
  obtain ⟨R', l⟩ := R.push { cls := .type "dict", data := .dict #[] } (tk := tk)
  have hg : (s.heap.push { cls := .type "dict", data := .dict #[] }).get? s.heap.objs.size = some { cls := .type "dict", data := .dict #[] } := Heap.get?_push_size _ rfl
  have X := R'.adopt (a := s.heap.objs.size) (r := r) (o' := .dict [] 0) hr R.freshκ (R.lo ok (Nat.le_refl _)) (by show ((s.heap.push _).get? _).isSome = true; rw [hg]; rfl) (h := s.heap) fresh_none
    (fun a vs' n' p e => by subst p; have e : (s.heap.push _).get? _ = _ := e; rw [hg] at e; simp at e) (fun la => ⟨[], ⟨_, #[], by rw [Kp.add_ads]; exact hg, ⟨rfl, rfl, rfl⟩, rfl, fun _ he => by simp at he, .nil, List.nodup_nil⟩, .nil⟩) l
  exact ⟨_, X⟩
theorem Rel.newTup {k : Kp} {s : Shared} (R : Rel W k s st) {vs : List Value} {xs : List V} (rs : VRs k s.heap vs xs) {m : Nat} {tk : Nat} :
    Rel W k { s with heap := s.heap.push { cls := .type "tuple", data := .seq vs.toArray m }, toks := tk } st ∧ Le nob k s.heap k (s.heap.push { cls := .type "tuple", data := .seq vs.toArray m }) ∧ VR k (s.heap.push { cls := .type "tuple", data := .seq vs.toArray m }) (.ref s.heap.objs.size) (.tup xs) := by
  obtain ⟨R', l⟩ := R.push { cls := .type "tuple", data := .seq vs.toArray m } (tk := tk)
  exact ⟨R', l, .tup (Heap.get?_push_size _ rfl) R.freshκ (rs.le l)⟩

theorem te_tuple {es : List Expr} {kd : Nat} {pos : Pos} (h : TA W n es pos env ρ (KTup Q) st) : TE W n (.Tuple es kd pos) env ρ Q st := by
  intro A s k hA R L
  refine wpAny_Tuple_spliced (h.run hA R L fun vs s₁ k₁ xs st₁ R₁ L₁ l₁ rs g => ?_)
  refine ⟨by rw [rs.length]; exact g.1, ?_⟩
  obtain ⟨R₂, l₂, r₂⟩ := R₁.newTup rs (m := 0) (tk := s₁.toks)
  exact ⟨k₁, _, st₁, R₂, l₁.trans l₂, r₂, g.2⟩
theorem te_list (ok : W.Ok) {es : List Expr} {pos : Pos} (r : Role) (h : TA W n es pos env ρ (fun xs st' => xs.length ≤ 16777216 ∧ st' r = none ∧ Q (.ref r) (st'.set r (.list xs))) st) : TE W n (.List es pos) env ρ Q st := by
  intro A s k hA R L
  refine wpAny_List_spliced (h.run hA R L fun vs s₁ k₁ xs st₁ R₁ L₁ l₁ rs g => ?_)
  refine ⟨by rw [rs.length]; exact g.1, ?_⟩
  obtain ⟨k₂, R₂, l₂, r₂⟩ := R₁.newList ok rs g.2.1 (m := 0) (tk := s₁.toks)
  exact ⟨k₂, _, _, R₂, l₁.trans l₂, r₂, g.2.2⟩
theorem te_dict (ok : W.Ok) {pos : Pos} (r : Role) (hr : st r = none) (q : Q (.ref r) (st.set r (.dict [] 0))) : TE W n (.Dict [] [] pos) env ρ Q st := by
  intro A s k hA R L
  refine wpAny_Dict_empty ?_
  obtain ⟨k₂, R₂, l₂, r₂⟩ := R.newDict ok hr (tk := s.toks)
  exact ⟨k₂, _, _, R₂, l₂, r₂, q⟩

/-! ## list addition -/
theorem op_listadd (ok : W.Ok) {a b : Role} {xs ys : List V} (r : Role) (ha : st a = some (.list xs)) (hb : st b = some (.list ys)) (hr : st r = none) (hz : xs.length + ys.length ≤ 16777216) (q : Q (.ref r) (st.set r (.list (xs ++ ys)))) :
    OP W n VR (op2 (binaryOp .Add)) [.ref a, .ref b] Q st := by
  intro A s k vs hA R rr
  obtain ⟨_, _, rfl, ra, rb⟩ := rr.two
  obtain ⟨x, rfl, ex⟩ := ra.ref_inv; obtain ⟨y, rfl, ey⟩ := rb.ref_inv
  obtain ⟨vs, m, hl, rs⟩ := R.listAt ex ha
  obtain ⟨ws, m', hl', rs'⟩ := R.listAt ey hb
  refine P.add_list hl hl' ?_ (by simp only [List.size_toArray, rs.length, rs'.length]; exact hz)
  have e : vs.toArray ++ ws.toArray = (vs ++ ws).toArray := by simp
  rw [e]
  obtain ⟨k₂, R₂, l₂, r₂⟩ := R.newList ok (rs.append rs') hr (m := 0) (tk := s.toks)
  exact ⟨k₂, _, _, R₂, l₂, r₂, q⟩

/-! ## attributes -/
noncomputable def fields : List Str := ["sort", "number", "count", "slots", "colour", "is_buffered", "has_destructor", "is_destructed", "is_freed", "weak", "cells", "vars", "log", "last", "buffer", "full", "freed", "plan", "tables", "entries"]
/-- the class is plain: attributes are read from and stored into the object's dict -/
noncomputable def goodCls (K : Frag) (C : Addr) : Bool := (findIn K (.ref C) "__getattribute__" == some (some (.builtin "object.__getattribute__"))) && (findIn K (.ref C) "__setattr__" == some (some (.builtin "object.__setattr__"))) &&
  plainOver K C && (clsIn K C).any (·.hasDict) && fields.all fun f => findIn K (.ref C) f == some none
structure ClsAt (W : Wd) (c : Str) : Prop where
  ok : ∀ C, W.mg c = some (.ref C) → goodCls W.K C = true

theorem good_parts {K : Frag} {C : Addr} (h : goodCls K C = true) : findIn K (.ref C) "__getattribute__" = some (some (.builtin "object.__getattribute__")) ∧ findIn K (.ref C) "__setattr__" = some (some (.builtin "object.__setattr__")) ∧
    plainOver K C = true ∧ (clsIn K C).any (·.hasDict) = true ∧ ∀ f ∈ fields, findIn K (.ref C) f = some none := by
  unfold goodCls at h
  simp only [Bool.and_eq_true, beq_iff_eq, List.all_eq_true] at h
  exact ⟨h.1.1.1.1, h.1.1.1.2, h.1.1.2, h.1.2, h.2⟩

theorem lookIn_of {es : Array DictEntry} {ep : Nat} {f : Str} {v : Value} (hs : StrKeys es) (e : nsFind es f = some v) : lookIn f { cls := .type "dict", data := .dict es ep } = some (some v) := by
  unfold lookIn
  dsimp only
  unfold nsFind findBy at e
  rw [← Array.find?_toList] at e
  cases q : es.toList.find? (fun x => x.key.isStr f) with
  | none => rw [q] at e; cases e
  | some x => rw [q] at e; simp only [Option.map_some, Option.some.injEq] at e; rw [← e]
theorem lookIn_isSome {es : Array DictEntry} {ep : Nat} {f : Str} (hs : StrKeys es) : (lookIn f { cls := .type "dict", data := .dict es ep }).isSome = true := by
  unfold lookIn
  dsimp only
  split
  · rfl
  · rw [if_neg]; rfl
    intro h
    obtain ⟨e, he, hr⟩ := List.any_eq_true.mp h
    obtain ⟨n, t, hk⟩ := hs e (Array.mem_toList_iff.mp he)
    simp [DictEntry.refKey, hk] at hr

theorem Rel.instAt {k : Kp} {s : Shared} (R : Rel W k s st) {a : Addr} {r : Role} {c : Str} {fs : List (Str × V)} (e : k.κ a = some (r, false)) (hr : st r = some (.inst c fs)) :
    ∃ C m es ep, W.mg c = some (.ref C) ∧ s.heap.get? a = some (instObj C (k.ax r)) ∧ k.κ (k.ax r) = some (r, true) ∧ s.heap.get? (k.ax r) = some { cls := .type "dict", data := .dict es ep } ∧ StrKeys es ∧ (∀ name, nsFind es name = m name) ∧ es.size ≤ fs.length ∧ FRs k s.heap m fs := by
  obtain ⟨C, m, d, es, ep, h1, h2, h3, h4, h5, h6, h7, h8, h9⟩ := (R.obj r _ hr).2
  subst h3
  rw [← R.addr e] at h2
  exact ⟨C, m, es, ep, h1, h2, h4, h5, h6, h7, h8, h9⟩

theorem op_attr {r : Role} {c f : Str} {fs : List (Str × V)} {x : V} (ok : W.Ok) (hc : ClsAt W c) (hr : st r = some (.inst c fs)) (hx : fs.lookup f = some x) (hf : f ∈ fields) (q : Q x st) : OP W n VR (op1 fun v => getAttr v f true) [.ref r] Q st := by
  intro A s k vs hA R rr
  obtain ⟨_, rfl, ra⟩ := rr.one
  obtain ⟨a, rfl, e⟩ := ra.ref_inv
  obtain ⟨C, m, es, ep, h1, h2, h4, h5, h6, h7, h8, h9⟩ := R.instAt e hr
  obtain ⟨v, hv, rv⟩ := h9 f x hx
  obtain ⟨g1, g2, g3, g4, g5⟩ := good_parts (hc.ok C h1)
  have X : W.K.In s.heap := ok.frag.keeps R.keep
  have I : InstAt s.heap a (instObj C (k.ax r)) C (some { cls := .type "dict", data := .dict es ep }) := ⟨h2, rfl, rfl, h5⟩
  obtain ⟨cd, hcd, hhd⟩ := any_some g4
  have hfind : findObj W.K C (some { cls := .type "dict", data := .dict es ep }) f = some (.value v) := by
    unfold findObj
    rw [hcd, g5 f hf]
    simp only [Option.bind_some]
    unfold PySem.W.ownOf
    rw [if_pos hhd]
    dsimp only
    rw [lookIn_of h6 ((h7 f).trans hv)]
    rfl
  have hh : handedIn v = true := by cases rv <;> rfl
  exact get_value X I g1 hfind hh (.valt R rv q)

/-- the attributes with one set -/
noncomputable def setF (fs : List (Str × V)) (f : Str) (x : V) : List (Str × V) := if (fs.lookup f).isSome then fs.map (fun p => if p.1 = f then (p.1, x) else p) else fs ++ [(f, x)]
theorem lookup_map_same {fs : List (Str × V)} {f : Str} {x : V} (h : (fs.lookup f).isSome = true) : (fs.map fun p => if p.1 = f then (p.1, x) else p).lookup f = some x := by
  induction fs with
  | nil => cases h
  | cons p r ih =>
    obtain ⟨g, y⟩ := p
    by_cases q : g = f
    · subst q; simp
    · have q' : (f == g) = false := by simpa using fun e => q e.symm
      simp only [List.lookup_cons, q'] at h
      simp only [List.map_cons, if_neg q, List.lookup_cons, q']
      exact ih h
theorem lookup_map_other {fs : List (Str × V)} {f g : Str} {x : V} (h : g ≠ f) : (fs.map fun p => if p.1 = f then (p.1, x) else p).lookup g = fs.lookup g := by
  induction fs with
  | nil => rfl
  | cons p r ih =>
    obtain ⟨j, y⟩ := p
    by_cases q : j = f
    · subst q
      have q' : (g == j) = false := by simpa using h
      simp only [List.map_cons, if_true, List.lookup_cons, q']; exact ih
    · simp only [List.map_cons, if_neg q, List.lookup_cons]
      cases g == j <;> simp [ih]
theorem setF_same {fs : List (Str × V)} {f : Str} {x : V} : (setF fs f x).lookup f = some x := by
  unfold setF
  split
  · exact lookup_map_same (by assumption)
  · rename_i h
    rw [List.lookup_append]
    cases q : fs.lookup f with
    | none => simp
    | some y => rw [q] at h; exact absurd rfl h
theorem setF_other {fs : List (Str × V)} {f g : Str} {x : V} (h : g ≠ f) : (setF fs f x).lookup g = fs.lookup g := by
  unfold setF
  split
  · exact lookup_map_other h
  · rw [List.lookup_append]
    have q' : (g == f) = false := by simpa using h
    simp [List.lookup_cons, q']
theorem FRs.set {k : Kp} {h : Heap} {m : Str → Option Value} {fs : List (Str × V)} (F : FRs k h m fs) {f : Str} {v : Value} {x : V} (r : VR k h v x) : FRs k h (fun y => if y = f then some v else m y) (setF fs f x) := fun g y e => by
  by_cases q : g = f
  · subst q; rw [setF_same] at e; cases e; exact ⟨v, if_pos rfl, r⟩
  · rw [setF_other q] at e
    obtain ⟨v', e', r'⟩ := F g y e
    exact ⟨v', (if_neg q).trans e', r'⟩
end
end
section
set_option linter.unusedVariables false

theorem putName_spec {es : Array DictEntry} {ep : Nat} {name : Str} {hash : Int} {t : Tok} {v : Value} {m : Str → Option Value} (hs : StrKeys es) (hm : ∀ n, nsFind es n = m n) :
    ∃ es' ep', Obj.putName name hash (.str name t) v { cls := .type "dict", data := .dict es ep } = { cls := .type "dict", data := .dict es' ep' } ∧ StrKeys es' ∧
      (∀ n, nsFind es' n = (fun y => if y = name then some v else m y) n) ∧ es'.size ≤ (if (m name).isSome then es.size else es.size + 1) := by
  cases hi : es.findIdx? (·.key.isStr name) with
  | some i =>
    refine ⟨es.modify i fun e => { e with val := v }, ep, by simp only [Obj.putName_eq, Obj.putNameByArray, hi], hs.modify _ _, fun x => ?_, ?_⟩
    · show _ = if x = name then some v else m x
      rw [← hm]; exact findBy_modify (fun n v => v.isStr n) Value.isStr_inj es name x v i hi
    · rw [Array.size_modify]; split <;> omega
  | none =>
    refine ⟨es.push ⟨hash, .str name t, v⟩, ep + 1, by simp only [Obj.putName_eq, Obj.putNameByArray, hi], hs.push _ _ _ _, fun x => ?_, ?_⟩
    · show _ = if x = name then some v else m x
      rw [← hm]
      exact findBy_push (fun n v => v.isStr n) es name x _ _ v (fun y => by
        show (name == y) = decide (y = name)
        by_cases h : y = name
        · subst h; simp
        · have : ¬ name = y := fun e => h e.symm
          simp [h, this]) hi
    · have hn : m name = none := by
        rw [← hm]
        have : findBy (fun n v => v.isStr n) es name = none := by rw [findBy_of_findIdx?, hi]
        exact this
      rw [hn]
      simp [Array.size_push]

theorem setF_length (fs : List (Str × V)) (f : Str) (x : V) : (setF fs f x).length = if (fs.lookup f).isSome then fs.length else fs.length + 1 := by
  unfold setF; split <;> simp

section
variable {W : Wd} {n : Nat} {env : Env} {ρ : Loc} {st : St} {Q : V → St → Prop}
theorem op_setattr {r : Role} {c f : Str} {fs : List (Str × V)} {x : V} {QU : Unit → St → Prop} (ok : W.Ok) (hc : ClsAt W c) (hr : st r = some (.inst c fs)) (hf : f ∈ fields) (hz : fs.length ≤ 1000)
    (q : QU () (st.set r (.inst c (setF fs f x)))) : OP W n RU (op2 fun o v => setAttr o f v) [.ref r, x] QU st := by
  intro A s k vs hA R rr
  obtain ⟨_, v, rfl, ra, rv⟩ := rr.two
  obtain ⟨a, rfl, e⟩ := ra.ref_inv
  obtain ⟨C, m, es, ep, h1, h2, h4, h5, h6, h7, h8, h9⟩ := R.instAt e hr
  obtain ⟨g1, g2, g3, g4, g5⟩ := good_parts (hc.ok C h1)
  have X : W.K.In s.heap := ok.frag.keeps R.keep
  have I : InstAt s.heap a (instObj C (k.ax r)) C (some { cls := .type "dict", data := .dict es ep }) := ⟨h2, rfl, rfl, h5⟩
  obtain ⟨cd, hcd, hhd⟩ := any_some g4
  have ht : takerIn W.K C f = some none := by unfold takerIn; rw [g5 f hf]; rfl
  obtain ⟨hh, g, d, t, os⟩ := s
  show wpAny _ _ (setAttr (.ref a) f v) _ _ _
  refine set_plain X I g2 (osa_open X I g3 ht fun b => ?_)
  dsimp only at h2 h5 X ⊢
  refine wpAny_bind (wpAny_pure (wpAny_bind (wpAny_bind (wpAny_loadPart h2 (wpAny_bind ((looks_clsIn X hcd).here ?_))))))
  rw [hhd]
  refine wpAny_pure (a := some (k.ax r)) (wpAny_bind (wpAny_pure (wpAny_bind ?_)))
  unfold nsSet
  refine wpAny_bind (wpAny_bind (wpAny_askSetting (wpAny_pure (wpAny_bind (wpAny_mkText (wpAny_bind (wpAny_loadPart h5 ?_)))))))
  have hnr : (!es.any (·.key.isStr f) && es.any (·.refKey)) = false := by
    have : es.any (·.refKey) = false := by
      rw [Array.any_eq_false']; intro e he; obtain ⟨n, t, h⟩ := h6 e he; simp [DictEntry.refKey, h]
    rw [this, Bool.and_false]
  dsimp only
  rw [aRefKeyMayBeTheName_at, hnr]
  refine wpAny_updatePart h5 ?_
  dsimp only
  obtain ⟨es', ep', e1, e2, e3, e4⟩ := putName_spec (ep := ep) (name := f) (hash := PyData.keyHash W.w.params f) (t := t + 1) (v := v) h6 h7
  have hsize : es'.size ≤ (setF fs f x).length := by
    rw [setF_length]
    refine Nat.le_trans e4 ?_
    by_cases q : (fs.lookup f).isSome = true
    · obtain ⟨y, hy⟩ := Option.isSome_iff_exists.mp q
      obtain ⟨w', hw, _⟩ := h9 f y hy
      rw [hw, if_pos q]; simpa using h8
    · rw [if_neg q]; split <;> omega
  have hlen : (setF fs f x).length ≤ 1001 := by rw [setF_length]; split <;> omega
  have D' : (hh.update (k.ax r) (Obj.putName f (PyData.keyHash W.w.params f) (.str f (t + 1)) v)).get? (k.ax r) = some { cls := .type "dict", data := .dict es' ep' } := by
    have := Heap.get?_update_self (Obj.putName f (PyData.keyHash W.w.params f) (.str f (t + 1)) v) h5 (by rw [e1]; rfl)
    rw [e1] at this; exact this
  refine wpAny_bind (wpAny_lookBehind D' (pastItsLine_dict (by rw [sizeLine_eq]; omega)) ?_)
  have U := R.upd (o' := .inst c (setF fs f x)) (tk := t + 1 + 1) h4 (Heap.SameBut.update ..) (by rw [D']; rfl) fun l => ⟨C, _, k.ax r, es', ep', h1, by
      have hne : k.ax r ≠ a := fun z => by rw [z, e] at h4; cases h4
      have := (Heap.get?_update_other hh (Obj.putName f (PyData.keyHash W.w.params f) (.str f (t + 1)) v) hne).trans h2
      rw [← R.addr e]; exact this, rfl, h4, D', e2, e3, hsize, (h9.mono l NoTup.nob).set (rv.le l)⟩
  refine wpAny_pure ⟨k, (), _, U.1, U.2, trivial, q⟩
end
end
section
set_option linter.unusedVariables false

inductive Fl where
  | next | ret (v : V)
inductive FlR (k : Kp) (h : Heap) : Flow → Fl → Prop
  | next : FlR k h .next .next
  | ret {v : Value} {x : V} : VR k h v x → FlR k h (.ret v) (.ret x)

inductive PS (W : Wd) (k : Kp) (h : Heap) (env : Env) (Q : Fl → Loc → St → Prop) (f : Flow) (s' : Shared) : Prop
  | mk (k' : Kp) (fl : Fl) (ρ' : Loc) (st' : St) (R : Rel W k' s' st') (l : Le (own env) k h k' s'.heap) (L : LocR W k' env s'.heap ρ') (r : FlR k' s'.heap f fl) (q : Q fl ρ' st')
theorem PS.le {W : Wd} {k k₁ : Kp} {h h₁ : Heap} {env : Env} {Q : Fl → Loc → St → Prop} {a : Flow} {s' : Shared} (l : Le (own env) k h k₁ h₁) (x : PS W k₁ h₁ env Q a s') : PS W k h env Q a s' :=
  let ⟨k', b, ρ', st', R, l', r, f, q⟩ := x; ⟨k', b, ρ', st', R, l.trans l', r, f, q⟩

noncomputable def TS (W : Wd) (n : Nat) (t : Sem Flow) (env : Env) (ρ : Loc) (Q : Fl → Loc → St → Prop) (st : St) : Prop :=
  ∀ A s k, Room n A → Rel W k s st → LocR W k env s.heap ρ → wpAny (model W.prog W.w) A t (PS W k s.heap env Q) noE s
noncomputable abbrev TX (W : Wd) (n : Nat) (e : Stmt) (env : Env) (ρ : Loc) (Q : Fl → Loc → St → Prop) (st : St) : Prop := TS W n (exec e env) env ρ Q st
noncomputable abbrev TXs (W : Wd) (n : Nat) (e : List Stmt) (env : Env) (ρ : Loc) (Q : Fl → Loc → St → Prop) (st : St) : Prop := TS W n (execs e env) env ρ Q st

section
variable {W : Wd} {n : Nat} {env : Env} {ρ : Loc} {st : St} {Q : Fl → Loc → St → Prop}

theorem TS.go {t : Sem Flow} (h : TS W n t env ρ Q st) {A : Around} {s : Shared} {k k₀ : Kp} {h₀ : Heap} (hA : Room n A) (R : Rel W k s st) (L : LocR W k env s.heap ρ) (l : Le (own env) k₀ h₀ k s.heap) :
    wpAny (model W.prog W.w) A t (PS W k₀ h₀ env Q) noE s := wpAny_mono (h A s k hA R L) (fun _ _ p => p.le l) fun _ _ f => f

/-! ### storing a name -/
theorem store (hk : env.kindOf x = some .local ∨ env.kindOf x = some .cell) {v : Value} {y : V} {A : Around} {s : Shared} {k : Kp} (R : Rel W k s st) (L : LocR W k env s.heap ρ) (rv : VR k s.heap v y) {P : Unit → Shared → Prop}
    (q : ∀ s', Rel W k s' st → LocR W k env s'.heap (ρ.upd x y) → Le (own env) k s.heap k s'.heap → P () s') : wpAny (model W.prog W.w) A (storeName env x v) P noE s := by
  have nt := L.noTup
  have hmod : (env.scope.kind == .class || (env.scope.kind == .module && env.locals != env.globals)) = false := by rw [L.ok.kind]; rfl
  have step : ∀ (a : Addr) (h' : Heap) (tk : Nat), own env a → Heap.SameBut a s.heap h' → Le (own env) k s.heap k h' ∧ Rel W k { s with heap := h', toks := tk } st := fun a h' tk ha hs => by
    have l : Le (own env) k s.heap k h' := ⟨fun _ _ e => e, fun b o e nn => by
      by_cases p : b = a
      · exact .inl (p ▸ ha)
      · exact .inr ⟨nn, (hs.2 b p).trans e⟩⟩
    refine ⟨l, R.le (s' := { s with heap := h', toks := tk }) l nt (fun b hb => (L.new b hb).1) (fun b x' e o ho => (hs.2 b fun p => ?_).trans ho) rfl rfl⟩
    rw [p, (L.new a ha).2] at e; cases e
  rcases hk with hk | hk
  · obtain ⟨m, hm, hr⟩ := L.ns
    refine wpAny_storeName_local hk hm (fun h' hn' hs' => ?_) hmod
    obtain ⟨l, R'⟩ := step env.locals h' (s.toks + 1) (.inl rfl) hs'
    refine q _ R' ⟨L.ok, L.new, ⟨_, hn', fun z w hz hw => ?_⟩, fun z hz => ?_, L.apart⟩ l
    · by_cases p : z = x
      · subst p; rw [Loc.upd_same] at hw; cases hw
        exact ⟨v, if_pos rfl, rv.mono l nt⟩
      · rw [Loc.upd_ne p] at hw
        obtain ⟨v', e, r⟩ := hr z w hz hw
        exact ⟨v', (if_neg p).trans e, r.mono l nt⟩
    · obtain ⟨c, o, hc, ⟨ob, ho, hd⟩, hv⟩ := L.cel z hz
      have hne : c ≠ env.locals := fun p => by
        obtain ⟨o', es, ep, ho', hd', _⟩ := hm
        rw [p, ho'] at ho; cases ho; rw [hd'] at hd; cases hd
      refine ⟨c, o, hc, ⟨ob, (hs'.2 c hne).trans ho, hd⟩, fun w hw => ?_⟩
      have p : z ≠ x := fun p => by rw [p, hk] at hz; cases hz
      rw [Loc.upd_ne p] at hw
      obtain ⟨v', e, r⟩ := hv w hw
      exact ⟨v', e, r.mono l nt⟩
  · obtain ⟨c, o, hc, hi, hv⟩ := L.cel x hk
    refine wpAny_storeName_cell L.ok.kind hk hc hi fun h' hc' hs' => ?_
    obtain ⟨l, R'⟩ := step c h' s.toks (.inr ⟨x, hk, hc⟩) hs'
    refine q _ R' ⟨L.ok, L.new, ?_, fun z hz => ?_, L.apart⟩ l
    · obtain ⟨m, hm, hr⟩ := L.ns
      have hne : env.locals ≠ c := fun p => by
        obtain ⟨o', es, ep, ho', hd', _⟩ := hm
        obtain ⟨ob, ho, hd⟩ := hi
        rw [← p, ho'] at ho; cases ho; rw [hd'] at hd; cases hd
      refine ⟨m, hm.sameBut hs' hne, fun z w hz hw => ?_⟩
      have p : z ≠ x := fun p => by rw [p, hk] at hz; cases hz
      rw [Loc.upd_ne p] at hw
      obtain ⟨v', e, r⟩ := hr z w hz hw
      exact ⟨v', e, r.mono l nt⟩
    · by_cases p : z = x
      · subst p
        exact ⟨c, _, hc, hc', fun w hw => by rw [Loc.upd_same] at hw; cases hw; exact ⟨v, rfl, rv.mono l nt⟩⟩
      · obtain ⟨c₂, o₂, hc₂, hi₂, hv₂⟩ := L.cel z hz
        have hne : c₂ ≠ c := fun e => p (L.apart z x c (e ▸ hc₂) hc)
        refine ⟨c₂, o₂, hc₂, hi₂.sameBut hs' hne, fun w hw => ?_⟩
        rw [Loc.upd_ne p] at hw
        obtain ⟨v', e, r⟩ := hv₂ w hw
        exact ⟨v', e, r.mono l nt⟩

/-! ### statements -/
noncomputable abbrev KNx (W : Wd) (n : Nat) (rest : List Stmt) (env : Env) (Q : Fl → Loc → St → Prop) : Fl → Loc → St → Prop := fun f ρ' st' => match f with | .next => TXs W n rest env ρ' Q st' | .ret v => Q (.ret v) ρ' st'
noncomputable abbrev KLp (P : Loc → St → Prop) (Q : Fl → Loc → St → Prop) : Fl → Loc → St → Prop := fun f ρ' st' => match f with | .next => P ρ' st' | .ret v => Q (.ret v) ρ' st'
noncomputable abbrev KRet (Q : Fl → Loc → St → Prop) (ρ : Loc) : V → St → Prop := fun v st' => Q (.ret v) ρ st'
noncomputable abbrev KExp (Q : Fl → Loc → St → Prop) (ρ : Loc) : V → St → Prop := fun _ st' => Q .next ρ st'
noncomputable abbrev KDone (Q : Fl → Loc → St → Prop) (ρ : Loc) : Unit → St → Prop := fun _ st' => Q .next ρ st'
noncomputable abbrev KIf (W : Wd) (n : Nat) (b o : List Stmt) (env : Env) (ρ : Loc) (Q : Fl → Loc → St → Prop) : Bool → St → Prop := fun c => if c then TXs W n b env ρ Q else TXs W n o env ρ Q
noncomputable abbrev KNam (Q : Fl → Loc → St → Prop) (ρ : Loc) (x : Str) : V → St → Prop := fun v st' => Q .next (ρ.upd x v) st'
noncomputable abbrev KAt2 (W : Wd) (n : Nat) (f : Str) (ρ : Loc) (Q : Fl → Loc → St → Prop) (v : V) : V → St → Prop := fun ov => OP W n RU (op2 fun a b => setAttr a f b) [ov, v] (KDone Q ρ)
noncomputable abbrev KAt (W : Wd) (n : Nat) (f : Str) (o : Expr) (env : Env) (ρ : Loc) (Q : Fl → Loc → St → Prop) : V → St → Prop := fun v => TE W n o env ρ (KAt2 W n f ρ Q v)
noncomputable abbrev KSb3 (W : Wd) (n : Nat) (ρ : Loc) (Q : Fl → Loc → St → Prop) (v ov : V) : V → St → Prop := fun iv => OP W n RU (op3 setItem) [ov, iv, v] (KDone Q ρ)
noncomputable abbrev KSb2 (W : Wd) (n : Nat) (i : Expr) (env : Env) (ρ : Loc) (Q : Fl → Loc → St → Prop) (v : V) : V → St → Prop := fun ov => TE W n i env ρ (KSb3 W n ρ Q v ov)
noncomputable abbrev KSb (W : Wd) (n : Nat) (i o : Expr) (env : Env) (ρ : Loc) (Q : Fl → Loc → St → Prop) : V → St → Prop := fun v => TE W n o env ρ (KSb2 W n i env ρ Q v)
noncomputable abbrev KAg4 (W : Wd) (n : Nat) (f : Str) (ρ : Loc) (Q : Fl → Loc → St → Prop) (ov : V) : V → St → Prop := fun new => OP W n RU (op2 fun a b => setAttr a f b) [ov, new] (KDone Q ρ)
noncomputable abbrev KAg3 (W : Wd) (n : Nat) (f : Str) (op : Operator) (ρ : Loc) (Q : Fl → Loc → St → Prop) (ov old : V) : V → St → Prop := fun v => OP W n VR (op2 (inplaceOp op)) [old, v] (KAg4 W n f ρ Q ov)
noncomputable abbrev KAg2 (W : Wd) (n : Nat) (f : Str) (op : Operator) (e : Expr) (env : Env) (ρ : Loc) (Q : Fl → Loc → St → Prop) (ov : V) : V → St → Prop := fun old => TE W n e env ρ (KAg3 W n f op ρ Q ov old)
noncomputable abbrev KAg (W : Wd) (n : Nat) (f : Str) (op : Operator) (e : Expr) (env : Env) (ρ : Loc) (Q : Fl → Loc → St → Prop) : V → St → Prop := fun ov => OP W n VR (op1 fun v => getAttr v f true) [ov] (KAg2 W n f op e env ρ Q ov)
noncomputable abbrev KGs5 (W : Wd) (n : Nat) (ρ : Loc) (Q : Fl → Loc → St → Prop) (ov iv : V) : V → St → Prop := fun new => OP W n RU (op3 setItem) [ov, iv, new] (KDone Q ρ)
noncomputable abbrev KGs4 (W : Wd) (n : Nat) (op : Operator) (ρ : Loc) (Q : Fl → Loc → St → Prop) (ov iv old : V) : V → St → Prop := fun v => OP W n VR (op2 (inplaceOp op)) [old, v] (KGs5 W n ρ Q ov iv)
noncomputable abbrev KGs3 (W : Wd) (n : Nat) (op : Operator) (e : Expr) (env : Env) (ρ : Loc) (Q : Fl → Loc → St → Prop) (ov iv : V) : V → St → Prop := fun old => TE W n e env ρ (KGs4 W n op ρ Q ov iv old)
noncomputable abbrev KGs2 (W : Wd) (n : Nat) (op : Operator) (e : Expr) (env : Env) (ρ : Loc) (Q : Fl → Loc → St → Prop) (ov : V) : V → St → Prop := fun iv => OP W n VR (op2 getItem) [ov, iv] (KGs3 W n op e env ρ Q ov iv)
noncomputable abbrev KGs (W : Wd) (n : Nat) (op : Operator) (i e : Expr) (env : Env) (ρ : Loc) (Q : Fl → Loc → St → Prop) : V → St → Prop := fun ov => TE W n i env ρ (KGs2 W n op e env ρ Q ov)
noncomputable abbrev KDl2 (W : Wd) (n : Nat) (ρ : Loc) (Q : Fl → Loc → St → Prop) (ov : V) : V → St → Prop := fun iv => OP W n RU (op2 delItem) [ov, iv] (KDone Q ρ)
noncomputable abbrev KDl (W : Wd) (n : Nat) (i : Expr) (env : Env) (ρ : Loc) (Q : Fl → Loc → St → Prop) : V → St → Prop := fun ov => TE W n i env ρ (KDl2 W n ρ Q ov)
theorem ts_nil (q : Q .next ρ st) : TXs W n [] env ρ Q st := fun A s k hA R L => wpAny_execs_nil ⟨k, _, ρ, st, R, .refl, L, .next, q⟩
theorem ts_cons {x : Stmt} {rest : List Stmt} (h : TX W n x env ρ (KNx W n rest env Q) st) : TXs W n (x :: rest) env ρ Q st := by
  intro A s k hA R L
  refine wpAny_execs_cons (wpAny_mono (h A s k hA R L) (fun f s₁ ⟨k₁, fl, ρ₁, st₁, R₁, l₁, L₁, r, g⟩ => ?_) fun _ _ f => f)
  cases r with
  | next => exact TS.go g hA R₁ L₁ l₁
  | ret r => exact ⟨k₁, _, ρ₁, st₁, R₁, l₁, L₁, .ret r, g⟩
theorem tx_return {e : Expr} {pos : Pos} (h : TE W n e env ρ (KRet Q ρ) st) : TX W n (.Return (some e) pos) env ρ Q st := by
  intro A s k hA R L
  exact wpAny_Return_some (h.run hA R L fun a s₁ k₁ x st₁ R₁ L₁ l₁ ra g => ⟨k₁, _, ρ, st₁, R₁, l₁.weak, L₁, .ret ra, g⟩)
theorem tx_expr {e : Expr} {pos : Pos} (h : TE W n e env ρ (KExp Q ρ) st) (hs : swapsWith e none pos.line env = pure false := by k_dflt rfl) : TX W n (.Expr e pos) env ρ Q st := by
  intro A s k hA R L
  have hi : interactive env = false := by unfold interactive; rw [L.ok.kind]; rfl
  rw [exec_Expr env e pos hi hs]
  refine wpAny_bind (wpAny_standAt (wpAny_bind (h.run hA R L fun a s₁ k₁ x st₁ R₁ L₁ l₁ ra g => wpAny_dropValue ?_)))
  exact ⟨k₁, _, ρ, st₁, R₁, l₁.weak, L₁, .next, g⟩
theorem tx_if {t : Expr} {b o : List Stmt} {pos : Pos} (h : TB W n t env ρ (KIf W n b o env ρ Q) st) : TX W n (.If t b o pos) env ρ Q st := by
  intro A s k hA R L
  refine wpAny_If (h.run hA R L fun a s₁ k₁ x st₁ R₁ L₁ l₁ ra g => ?_)
  cases ra
  cases a
  · exact TS.go g hA R₁ L₁ l₁.weak
  · exact TS.go g hA R₁ L₁ l₁.weak
theorem tx_name {x : Str} {p pos : Pos} {e : Expr} (hk : env.kindOf x = some .local ∨ env.kindOf x = some .cell) (h : TE W n e env ρ (KNam Q ρ x) st)
    (hs : swapsWith e (some (.Name x p)) pos.line env = pure false := by k_dflt rfl) : TX W n (.Assign [.Name x p] e pos) env ρ Q st := by
  intro A s k hA R L
  refine wpAny_Assign_Name (h.run hA R L fun a s₁ k₁ y st₁ R₁ L₁ l₁ ra g => ?_) hs
  exact store hk R₁ L₁ ra fun s₂ R₂ L₂ l₂ => ⟨k₁, _, _, st₁, R₂, l₁.weak.trans l₂, L₂, .next, g⟩
theorem tx_attr {o e : Expr} {f : Str} {p pos : Pos} (h : TE W n e env ρ (KAt W n f o env ρ Q) st)
    (hs : swapsWith e (some (.Attribute o f p)) pos.line env = pure false := by k_dflt rfl) : TX W n (.Assign [.Attribute o f p] e pos) env ρ Q st := by
  intro A s k hA R L
  refine plainObj_wpAny_Assign_Attribute (h.run hA R L fun a s₁ k₁ y st₁ R₁ L₁ l₁ ra g => ?_) hs
  refine g.run hA R₁ L₁ fun b s₂ k₂ z st₂ R₂ L₂ l₂ rb g₂ => ?_
  refine wpAny_mono (g₂ A s₂ k₂ [b, a] hA R₂ (.cons rb (.cons (ra.le l₂) .nil))) (fun _ s₃ ⟨k₃, _, st₃, R₃, l₃, _, q⟩ => ?_) fun _ _ f => f
  exact ⟨k₃, _, ρ, st₃, R₃, ((l₁.trans l₂).trans l₃).weak, L₂.le l₃, .next, q⟩
theorem tx_sub {o i e : Expr} {p pos : Pos} (h : TE W n e env ρ (KSb W n i o env ρ Q) st)
    (hs : swapsWith e (some (.Subscript o i p)) pos.line env = pure false := by k_dflt rfl) : TX W n (.Assign [.Subscript o i p] e pos) env ρ Q st := by
  intro A s k hA R L
  refine wpAny_Assign_Subscript (h.run hA R L fun a s₁ k₁ y st₁ R₁ L₁ l₁ ra g => ?_) hs
  refine g.run hA R₁ L₁ fun b s₂ k₂ z st₂ R₂ L₂ l₂ rb g₂ => ?_
  refine g₂.run hA R₂ L₂ fun c s₃ k₃ z' st₃ R₃ L₃ l₃ rc g₃ => ?_
  refine wpAny_mono (g₃ A s₃ k₃ [b, c, a] hA R₃ (.cons (rb.le l₃) (.cons rc (.cons ((ra.le l₂).le l₃) .nil)))) (fun _ s₄ ⟨k₄, _, st₄, R₄, l₄, _, q⟩ => ?_) fun _ _ f => f
  exact ⟨k₄, _, ρ, st₄, R₄, (((l₁.trans l₂).trans l₃).trans l₄).weak, L₃.le l₄, .next, q⟩
theorem tx_augattr {o e : Expr} {f : Str} {tp pos : Pos} {op : Operator} (h : TE W n o env ρ (KAg W n f op e env ρ Q) st) : TX W n (.AugAssign (.Attribute o f tp) op e pos) env ρ Q st := by
  intro A s k hA R L
  refine wpAny_AugAssign_AttributeAny (h.run hA R L fun a s₁ k₁ y st₁ R₁ L₁ l₁ ra g => ?_)
  refine wpAny_mono (g A s₁ k₁ [a] hA R₁ (.cons ra .nil)) (fun old s₂ ⟨k₂, old', st₂, R₂, l₂, ro, g₂⟩ => ?_) fun _ _ f => f
  refine g₂.run hA R₂ (L₁.le l₂) fun c s₃ k₃ z' st₃ R₃ L₃ l₃ rc g₃ => ?_
  refine wpAny_mono (g₃ A s₃ k₃ [old, c] hA R₃ (.cons (ro.le l₃) (.cons rc .nil))) (fun new s₄ ⟨k₄, new', st₄, R₄, l₄, rn, g₄⟩ => ?_) fun _ _ f => f
  refine wpAny_mono (g₄ A s₄ k₄ [a, new] hA R₄ (.cons (((ra.le l₂).le l₃).le l₄) (.cons rn .nil))) (fun _ s₅ ⟨k₅, _, st₅, R₅, l₅, _, q⟩ => ?_) fun _ _ f => f
  exact ⟨k₅, _, ρ, st₅, R₅, ((((l₁.trans l₂).trans l₃).trans l₄).trans l₅).weak, (L₃.le l₄).le l₅, .next, q⟩
theorem tx_augsub {o i e : Expr} {tp pos : Pos} {op : Operator} (h : TE W n o env ρ (KGs W n op i e env ρ Q) st)
    (hi : ∀ ov iv new, augStore i ov iv new = (do holding [new, ov, iv] (setItem ov iv new); release [new, ov, iv] []; pure .next) := by intros; rfl) : TX W n (.AugAssign (.Subscript o i tp) op e pos) env ρ Q st := by
  intro A s k hA R L
  refine wpAny_AugAssign_SubscriptAny (h.run hA R L fun a s₁ k₁ y st₁ R₁ L₁ l₁ ra g => ?_) hi
  refine g.run hA R₁ L₁ fun b s₁' k₁' y' st₁' R₁' L₁' l₁' rb g' => ?_
  refine wpAny_mono (g' A s₁' k₁' [a, b] hA R₁' (.cons (ra.le l₁') (.cons rb .nil))) (fun old s₂ ⟨k₂, old', st₂, R₂, l₂, ro, g₂⟩ => ?_) fun _ _ f => f
  refine g₂.run hA R₂ (L₁'.le l₂) fun c s₃ k₃ z' st₃ R₃ L₃ l₃ rc g₃ => ?_
  refine wpAny_mono (g₃ A s₃ k₃ [old, c] hA R₃ (.cons (ro.le l₃) (.cons rc .nil))) (fun new s₄ ⟨k₄, new', st₄, R₄, l₄, rn, g₄⟩ => ?_) fun _ _ f => f
  refine wpAny_mono (g₄ A s₄ k₄ [a, b, new] hA R₄ (.cons ((((ra.le l₁').le l₂).le l₃).le l₄) (.cons (((rb.le l₂).le l₃).le l₄) (.cons rn .nil)))) (fun _ s₅ ⟨k₅, _, st₅, R₅, l₅, _, q⟩ => ?_) fun _ _ f => f
  exact ⟨k₅, _, ρ, st₅, R₅, (((((l₁.trans l₁').trans l₂).trans l₃).trans l₄).trans l₅).weak, (L₃.le l₄).le l₅, .next, q⟩
theorem tx_delsub {o i : Expr} {p pos : Pos} (h : TE W n o env ρ (KDl W n i env ρ Q) st) : TX W n (.Delete [.Subscript o i p] pos) env ρ Q st := by
  intro A s k hA R L
  refine wpAny_Delete (wpAny_deleteEach_cons ?_)
  have e : delete (.Subscript o i p) env = (do
    let ov ← eval o env
    let iv ← holding [ov] (eval i env)
    standAt p
    holding [ov, iv] (delItem ov iv)
    release [ov, iv] []) := rfl
  rw [e]
  refine wpAny_bind (h.run hA R L fun a s₁ k₁ y st₁ R₁ L₁ l₁ ra g => ?_)
  refine wpAny_bind (wpAny_holding (g.run hA R₁ L₁ fun b s₂ k₂ z st₂ R₂ L₂ l₂ rb g₂ => ?_))
  refine wpAny_bind (wpAny_standAt (wpAny_bind (wpAny_holding (wpAny_mono (g₂ A s₂ k₂ [a, b] hA R₂ (.cons (ra.le l₂) (.cons rb .nil))) (fun _ s₃ ⟨k₃, _, st₃, R₃, l₃, _, q⟩ => ?_) fun _ _ f => f))))
  exact wpAny_release (wpAny_deleteEach_nil ⟨k₃, _, ρ, st₃, R₃, ((l₁.trans l₂).trans l₃).weak, L₂.le l₃, .next, q⟩)
end
end
section
set_option linter.unusedVariables false

section
variable {W : Wd} {n : Nat} {env : Env} {ρ : Loc} {st : St} {Q : Fl → Loc → St → Prop}

/-! ### targets -/
inductive PT (W : Wd) (k : Kp) (h : Heap) (env : Env) (Q : Loc → St → Prop) (s' : Shared) : Prop
  | mk (k' : Kp) (ρ' : Loc) (st' : St) (R : Rel W k' s' st') (l : Le (own env) k h k' s'.heap) (L : LocR W k' env s'.heap ρ') (q : Q ρ' st')
/-- a value goes into a target -/
noncomputable def TT (W : Wd) (n : Nat) (t : Value → Sem Unit) (v : V) (env : Env) (ρ : Loc) (Q : Loc → St → Prop) (st : St) : Prop :=
  ∀ A s k a, Room n A → Rel W k s st → LocR W k env s.heap ρ → VR k s.heap a v → wpAny (model W.prog W.w) A (t a) (fun _ s' => PT W k s.heap env Q s') noE s
noncomputable def TTs (W : Wd) (n : Nat) (ts : List (Value → Sem Unit)) (vs : List V) (env : Env) (ρ : Loc) (Q : Loc → St → Prop) (st : St) : Prop :=
  ∀ A s k as, Room n A → Rel W k s st → LocR W k env s.heap ρ → VRs k s.heap as vs → wpAny (model W.prog W.w) A (assignInOrder ts as) (fun _ s' => PT W k s.heap env Q s') noE s
noncomputable abbrev KTs (W : Wd) (n : Nat) (ts : List (Value → Sem Unit)) (vs : List V) (env : Env) (QT : Loc → St → Prop) : Loc → St → Prop := fun ρ' => TTs W n ts vs env ρ' QT
noncomputable abbrev KTp (W : Wd) (n : Nat) (t : Value → Sem Unit) (env : Env) (ρ : Loc) (QT : Loc → St → Prop) : V → St → Prop := fun v => TT W n t v env ρ QT
variable {QT : Loc → St → Prop}
theorem tt_name {x : Str} {pos : Pos} {v : V} (hk : env.kindOf x = some .local ∨ env.kindOf x = some .cell) (q : QT (ρ.upd x v) st) : TT W n (assign (.Name x pos) env) v env ρ QT st := by
  intro A s k a hA R L r
  exact wpAny_assign_Name (store hk R L r fun s' R' L' l => ⟨k, _, st, R', l, L', q⟩)
theorem tt_bind {x : Str} {v : V} (hk : env.kindOf x = some .local ∨ env.kindOf x = some .cell) (q : QT (ρ.upd x v) st) : TT W n (fun a => bindName env x a) v env ρ QT st := by
  intro A s k a hA R L r
  exact wpAny_bindName (store hk R L r fun s' R' L' l => ⟨k, _, st, R', l, L', q⟩)
theorem tt_attr {o : Expr} {f : Str} {pos : Pos} {v : V} (h : TE W n o env ρ (fun ov => OP W n RU (op2 fun a b => setAttr a f b) [ov, v] fun _ st' => QT ρ st') st) : TT W n (assign (.Attribute o f pos) env) v env ρ QT st := by
  intro A s k a hA R L r
  have e : assign (.Attribute o f pos) env a = (do
    let ov ← holding [a] (eval o env)
    standAt pos.atName
    holding [a, ov] (setAttr ov f a)
    release [a, ov] []) := rfl
  rw [e]
  refine wpAny_bind (wpAny_holding (h.run hA R L fun b s₁ k₁ y st₁ R₁ L₁ l₁ rb g => ?_))
  refine wpAny_bind (wpAny_standAt (wpAny_bind (wpAny_holding (wpAny_mono (g A s₁ k₁ [b, a] hA R₁ (.cons rb (.cons (r.le l₁) .nil))) (fun _ s₂ ⟨k₂, _, st₂, R₂, l₂, _, q⟩ => ?_) fun _ _ f => f))))
  exact wpAny_release ⟨k₂, ρ, st₂, R₂, (l₁.trans l₂).weak, L₁.le l₂, q⟩
theorem VRs.leP {P : Addr → Prop} {k k' : Kp} {h h' : Heap} (hl : Le P k h k' h') (hP : NoTup P h) {v : List Value} {x : List V} (r : VRs k h v x) : VRs k' h' v x := r.mono hl hP
theorem tts_nil {ts : List (Value → Sem Unit)} (q : QT ρ st) : TTs W n ts [] env ρ QT st := by
  intro A s k as hA R L r
  cases r
  cases ts <;> exact wpAny_pure ⟨k, ρ, st, R, .refl, L, q⟩
theorem tts_cons {t : Value → Sem Unit} {ts : List (Value → Sem Unit)} {v : V} {vs : List V} (h : TT W n t v env ρ (KTs W n ts vs env QT) st) : TTs W n (t :: ts) (v :: vs) env ρ QT st := by
  intro A s k as hA R L r
  cases r with
  | cons r rs =>
    refine wpAny_bind (wpAny_holding (wpAny_mono (h A s k _ hA R L r) (fun _ s₁ ⟨k₁, ρ₁, st₁, R₁, l₁, L₁, g⟩ => ?_) fun _ _ f => f))
    exact wpAny_mono (g A s₁ k₁ _ hA R₁ L₁ (rs.mono l₁ L.noTup)) (fun _ s₂ ⟨k₂, ρ₂, st₂, R₂, l₂, L₂, q⟩ => ⟨k₂, ρ₂, st₂, R₂, l₁.trans l₂, L₂, q⟩) fun _ _ f => f
theorem VRs.reverse {k : Kp} {h : Heap} : ∀ {vs : List Value} {xs : List V}, VRs k h vs xs → VRs k h vs.reverse xs.reverse
  | _, _, .nil => .nil
  | _, _, .cons r rs => by rw [List.reverse_cons, List.reverse_cons]; exact rs.reverse.append (.cons r .nil)
theorem unpack_tup {A : Around} {s : Shared} {k : Kp} {a : Value} {xs : List V} (hA : Room n A) (R : Rel W k s st) (r : VR k s.heap a (.tup xs)) {P : List Value → Shared → Prop}
    (q : ∀ vs s', Rel W k s' st → Le nob k s.heap k s'.heap → VRs k s'.heap vs xs → P vs s') {m : Nat} (hm : m = xs.length) : wpAny (model W.prog W.w) A (unpackItems a m none) P noE s := by
  obtain ⟨t, vs, j, rfl, ho, hn, rs⟩ := r.tup_inv
  have e : m = vs.toArray.size := by rw [List.size_toArray, rs.length]; exact hm
  rw [e]
  refine wpAny_unpackItems_tuple hA.1 ⟨_, ho, rfl, j, rfl⟩ fun h' hx => ?_
  obtain ⟨R', l⟩ := R.grow (h' := h') (tk := s.toks) (fun b o e => hx b o (Nat.ne_of_lt (Heap.lt_size e)) e)
  exact q _ _ R' l (by simpa using rs.le l)
theorem tt_tuple {es : List Expr} {kd : Nat} {pos : Pos} {xs : List V} (hn : (assignEach es env).length = xs.length) (hs : (assignEach es env).findIdx? (·.1) = none) (h : TTs W n ((assignEach es env).map (·.2)) xs env ρ QT st) : TT W n (assign (.Tuple es kd pos) env) (.tup xs) env ρ QT st := by
  intro A s k a hA R L r
  have e : assign (.Tuple es kd pos) env a = (do standAt pos; unpack a (assignEach es env)) := rfl
  rw [e]
  refine wpAny_bind (wpAny_standAt ?_)
  unfold unpack
  rw [hs]
  refine wpAny_bind (wpAny_holding (unpack_tup hA R r (fun vs s' R' l rs => ?_) hn))
  exact wpAny_mono (h A s' k vs hA R' (L.le l) rs) (fun _ s₂ ⟨k₂, ρ₂, st₂, R₂, l₂, L₂, q⟩ => ⟨k₂, ρ₂, st₂, R₂, l.weak.trans l₂, L₂, q⟩) fun _ _ f => f

theorem tx_tuple {es : List Expr} {kd : Nat} {tp pos : Pos} {e : Expr} (h : TE W n e env ρ (KTp W n (assign (.Tuple es kd tp) env) env ρ (Q .next)) st)
    (hs : swapsWithSole [.Tuple es kd tp] e pos.line env = pure false := by k_dflt rfl) (hw : swappedStores [.Tuple es kd tp] e env = pure none := by k_dflt rfl) : TX W n (.Assign [.Tuple es kd tp] e pos) env ρ Q st := by
  intro A s k hA R L
  refine PyProof.Rows.Assign_Tuple (h.run hA R L fun a s₁ k₁ y st₁ R₁ L₁ l₁ ra g => ?_) hs hw
  exact wpAny_mono (g A s₁ k₁ a hA R₁ L₁ ra) (fun _ s₂ ⟨k₂, ρ₂, st₂, R₂, l₂, L₂, q⟩ => ⟨k₂, _, ρ₂, st₂, R₂, l₁.weak.trans l₂, L₂, .next, q⟩) fun _ _ f => f
theorem tx_swapped {es : List Expr} {kd : Nat} {tp pos : Pos} {e : Expr} {names : List Str} (h : TE W n e env ρ (fun v st' => ∃ xs, v = .tup xs ∧ xs.length = names.length ∧ TTs W n (names.reverse.map fun n a => bindName env n a) xs.reverse env ρ (Q .next) st') st)
    (hw : swappedStores [.Tuple es kd tp] e env = pure (some names)) (hs : swapsWithSole [.Tuple es kd tp] e pos.line env = pure false := by k_dflt rfl) : TX W n (.Assign [.Tuple es kd tp] e pos) env ρ Q st := by
  intro A s k hA R L
  refine Assign_Tuple_swapped (h.run hA R L fun a s₁ k₁ y st₁ R₁ L₁ l₁ ra g => ?_) hs hw
  obtain ⟨xs, rfl, hl, g⟩ := g
  refine unpack_tup hA R₁ ra (fun vs s' R' l rs => ?_) hl.symm
  exact wpAny_mono (g A s' k₁ _ hA R' (L₁.le l) rs.reverse) (fun _ s₂ ⟨k₂, ρ₂, st₂, R₂, l₂, L₂, q⟩ => ⟨k₂, _, ρ₂, st₂, R₂, (l₁.trans l).weak.trans l₂, L₂, .next, q⟩) fun _ _ f => f

/-! ### while -/
noncomputable abbrev KWh (W : Wd) (n : Nat) (b : List Stmt) (env : Env) (ρ : Loc) (P : Loc → St → Prop) (Q : Fl → Loc → St → Prop) : Bool → St → Prop := fun c => if c then TXs W n b env ρ (KLp P Q) else Q .next ρ
theorem tx_while {t : Expr} {b : List Stmt} {pos : Pos} (I : Nat → Loc → St → Prop) (m : Nat) (h0 : I m ρ st)
    (turn : ∀ m ρ st, I m ρ st → TB W n t env ρ (KWh W n b env ρ (fun ρ' st' => ∃ j, j < m ∧ I j ρ' st') Q) st) :
    TX W n (.While t b [] pos) env ρ Q st := by
  intro A s k hA R L
  refine wpAny_While ?_
  have hAm : A.mark none = A := by obtain ⟨hd, d, fr, gs, u⟩ := A; rfl
  refine codeAny_whileLoop (fun j s' => PT W k s.heap env (I j) s') (fun j s₁ ⟨k₁, ρ₁, st₁, R₁, l₁, L₁, hI⟩ => ?_) m ⟨k, ρ, st, R, .refl, L, h0⟩
  refine wpAny_mono (T.run (turn j ρ₁ st₁ hI) hA R₁ L₁ (P := fun c s₂ => _) fun c s₂ k₂ c' st₂ R₂ L₂ l₂ rc g => ?_) (fun _ _ p => p) fun _ _ f => f.elim
  cases rc
  cases c
  · show wpAny _ _ (execs [] env) _ _ _
    exact wpAny_execs_nil ⟨k₂, _, ρ₁, st₂, R₂, l₁.trans l₂.weak, L₂, .next, g⟩
  · refine wpAny_mono (g A s₂ k₂ hA R₂ L₂) (fun f s₃ ⟨k₃, fl, ρ₃, st₃, R₃, l₃, L₃, r, q⟩ => ?_) fun _ _ f => f.elim
    cases r with
    | next => obtain ⟨j', hj, hI'⟩ := q; exact ⟨j', hj, k₃, ρ₃, st₃, R₃, (l₁.trans l₂.weak).trans l₃, L₃, hI'⟩
    | ret r => exact ⟨k₃, _, ρ₃, st₃, R₃, (l₁.trans l₂.weak).trans l₃, L₃, .ret r, q⟩

/-! ### calls of the text's functions -/
noncomputable def CallOK (W : Wd) (n : Nat) (f : Str) (vs : List V) (Q : V → St → Prop) (st : St) : Prop :=
  ∀ A s k ws a, Room n A → Rel W k s st → VRs k s.heap ws vs → W.mg f = some (.ref a) →
    codeAny (model W.prog W.w) A (.call (.ref a) ⟨ws, []⟩) (fun r s' => match r with | .ok (.ret v) => PG W k s.heap VR Q v s' | .ok _ => False | .error e => noE e s') s
theorem Room.le {m n : Nat} {A : Around} (h : Room n A) (hm : m ≤ n) : Room m A := ⟨h.1, by have := h.2.1; omega, by have := h.2.2; omega⟩
theorem CallOK.mono {m n : Nat} {f : Str} {vs : List V} {Q Q' : V → St → Prop} {st : St} (h : CallOK W m f vs Q st) (hm : m ≤ n) (hq : ∀ v st', Q v st' → Q' v st') : CallOK W n f vs Q' st :=
  fun A s k ws a hA R r e => codeAny_mono (h A s k ws a (hA.le hm) R r e) fun r s' p => by
    rcases r with e | (_ | _ | _ | v)
    · exact p
    · exact p
    · exact p
    · exact p
    · obtain ⟨k', b, st', R', l', r', q⟩ := p; exact ⟨k', b, st', R', l', r', hq _ _ q⟩
noncomputable abbrev KF (W : Wd) (n : Nat) (f : Str) (Q : V → St → Prop) : List V → St → Prop := fun vs => CallOK W n f vs Q
/-- a global function of the text -/
noncomputable def FnAt (W : Wd) (f : Str) : Prop := ∃ a o fd, W.mg f = some (.ref a) ∧ W.h0.get? a = some o ∧ o.data = .func fd
variable {QV : V → St → Prop}
theorem te_call {f : Str} {p pos : Pos} {args : List Expr} (ok : W.Ok) (hf : FnAt W f) (hk : env.kindOf f = some .globalImplicit) (h : TA W n args pos env ρ (KF W n f QV) st)
    (hd : (f == ("__debug__" : Str)) = false := by decide) (he : match args with | [] => True | e :: r => starEach (e :: r) env = (false, eval e env) :: starEach r env := by first | exact trivial | rfl) : TE W n (.Call (.Name f p) args [] pos) env ρ QV st := by
  intro A s k hA R L
  obtain ⟨a, o, fd, hm, ho, hdat⟩ := hf
  refine Call_ (Calls.Name_function_global L.ok.kind hk (Calls.loadGlobal_global (by rw [L.ok.gl]; exact ok.g.keeps R.keep) hm ?_) hd)
  have fin : ∀ vs s₁ k₁ xs st₁, Rel W k₁ s₁ st₁ → Le nob k s.heap k₁ s₁.heap → VRs k₁ s₁.heap vs xs → CallOK W n f xs QV st₁ → wpAny (model W.prog W.w) A (call (.ref a) vs) (PG W k s.heap VR QV) noE s₁ := fun vs s₁ k₁ xs st₁ R₁ l₁ rs g =>
    wpAny_call (codeAny_mono (g A s₁ k₁ vs a hA R₁ rs hm) fun r s' p => by
      rcases r with e | (_ | _ | _ | v)
      · exact p
      · exact p
      · exact p
      · exact p
      · exact p.le l₁)
  cases args with
  | nil =>
    refine Calls.callWith_function (o := o) (fd := fd) (PyProof.Rows.evalArgs_none ⟨⟨R.keep _ _ ho, hdat⟩, ?_⟩)
    have X : wpAny (model W.prog W.w) A (spliced (backTo pos (starEach [] env))) (fun vs s₁ => wpAny (model W.prog W.w) A (call (.ref a) vs) (PG W k s.heap VR QV) noE s₁) noE s :=
      T.run h hA R L fun vs s₁ k₁ xs st₁ R₁ L₁ l₁ rs g => fin vs s₁ k₁ xs st₁ R₁ l₁ rs g
    exact fun Γ p hΓ => X Γ p hΓ Γ p hΓ
  | cons e r =>
    refine callWith_def (o := o) hdat ?_ he
    exact h.run hA R L fun vs s₁ k₁ xs st₁ R₁ L₁ l₁ rs g => ⟨R₁.keep _ _ ho, fin vs s₁ k₁ xs st₁ R₁ l₁ rs g⟩
end
end
section
set_option linter.unusedVariables false

noncomputable def Loc.ofL : List (Str × V) → Loc
  | [] => fun _ => none
  | (x, v) :: r => (Loc.ofL r).upd x v
theorem bindL_not {kf : Str → Option NameKind} {x : Str} : ∀ {l : List (Str × Value)} {m : Str → Option Value}, (∀ p ∈ l, p.1 ≠ x) → bindL kf l m x = m x
  | [], _, _ => rfl
  | (y, v) :: r, m, h => by
    unfold bindL
    rw [bindL_not fun p hp => h p (List.mem_cons_of_mem _ hp)]
    split
    · exact if_neg fun e => h (y, v) List.mem_cons_self e.symm
    · rfl
theorem bindC_not {kf : Str → Option NameKind} {x : Str} : ∀ {l : List (Str × Value)} {m : Str → Option Value}, (∀ p ∈ l, p.1 ≠ x) → bindC kf l m x = m x
  | [], _, _ => rfl
  | (y, v) :: r, m, h => by
    unfold bindC
    rw [bindC_not fun p hp => h p (List.mem_cons_of_mem _ hp)]
    split
    · rfl
    · exact if_neg fun e => h (y, v) List.mem_cons_self e.symm
theorem bind_start {k : Kp} {h : Heap} {kf : Str → Option NameKind} {ps : List Str} {ws : List Value} {vs : List V} {m c : Str → Option Value} (hn : ps.Nodup) (rs : VRs k h ws vs) (x : Str) (v : V) (e : Loc.ofL (ps.zip vs) x = some v) :
    (kf x = some .local → ∃ w, bindL kf (ps.zip ws) m x = some w ∧ VR k h w v) ∧ (kf x ≠ some .local → ∃ w, bindC kf (ps.zip ws) c x = some w ∧ VR k h w v) := by
  induction ps generalizing ws vs m c with
  | nil => cases e
  | cons p ps ih => cases rs with
    | nil => cases e
    | @cons w y ws vs r rs =>
      obtain ⟨hp, hn⟩ := List.nodup_cons.mp hn
      have e : (Loc.ofL (ps.zip vs)).upd p y x = some v := e
      have hnot : ∀ q ∈ ps.zip ws, q.1 ≠ p := fun q hq z => hp (z ▸ (List.of_mem_zip hq).1)
      rw [List.zip_cons_cons]
      by_cases q : x = p
      · subst q
        rw [Loc.upd_same] at e; cases e
        refine ⟨fun hk => ⟨w, ?_, r⟩, fun hk => ⟨w, ?_, r⟩⟩
        · unfold bindL; rw [bindL_not hnot, if_pos hk]; exact if_pos rfl
        · unfold bindC; rw [bindC_not hnot, if_neg hk]; exact if_pos rfl
      · rw [Loc.upd_ne q] at e
        unfold bindL bindC
        exact ih hn rs e

/-- the top's functions stand in the heap at the call -/
structure Wd.Fns (W : Wd) : Prop where
  fns : ∀ d ∈ recsOf PySem.Challenge.pw_pf0213_01, ∃ a o pm code doc, W.mg d.name = some (.ref a) ∧ W.h0.get? a = some o ∧ o.data = .func (Calls.docDef d.name d.params d.body d.scope pm code doc) ∧ W.h0.CodeRec code d.name

theorem Wd.Fns.at_ {W : Wd} (F : W.Fns) {f : Str} {d : DefRec} (hd : d ∈ recsOf PySem.Challenge.pw_pf0213_01) (hn : d.name = f) : FnAt W f := by
  obtain ⟨a, o, pm, code, doc, h1, h2, h3, _⟩ := F.fns d hd
  exact ⟨a, o, _, hn ▸ h1, h2, h3⟩

theorem Room.deeper {n : Nat} {A : Around} (h : Room (n + 1) A) (env : Env) : Room n (A.deeper env) := ⟨h.1, by show A.depth + 1 + n < 900; have := h.2.1; omega, by show A.units + 3 + 20 * n + 200 < 9900; have := h.2.2; omega⟩

section
variable {W : Wd} {n : Nat} {st : St} {Q : V → St → Prop}
noncomputable abbrev FQ (Q : V → St → Prop) : Fl → Loc → St → Prop := fun fl _ st' => match fl with | .ret v => Q v st' | .next => Q .none st'
/-! ## calls of a function object -/
noncomputable def CallAt (W : Wd) (n : Nat) (a : Addr) (vs : List V) (Q : V → St → Prop) (st : St) : Prop :=
  ∀ A s k ws, Room n A → Rel W k s st → VRs k s.heap ws vs →
    codeAny (model W.prog W.w) A (.call (.ref a) ⟨ws, []⟩) (fun r s' => match r with | .ok (.ret v) => PG W k s.heap VR Q v s' | .ok _ => False | .error e => noE e s') s

theorem at_intro (ok : W.Ok) {a : Addr} {o : Obj} {fd : FuncData} {body : List Stmt} {ps : List Str} {vs : List V} (h2 : W.h0.get? a = some o) (h3 : o.data = .func fd) (h4 : W.h0.CodeRec fd.code fd.qualname)
    (hbody : fd.body = .stmts body) (hclo : fd.closure = []) (hgl' : fd.globals = mainGlobals) (hbi' : fd.builtins = builtinsNs)
    (hbind : ∀ ws, ws.length = vs.length → bindArgs fd ⟨ws, []⟩ = pure (ps.zip ws))
    (hps : ps.Nodup) (hkind : (ps.all fun x => fd.scope.names.lookup x == some .local || fd.scope.names.lookup x == some .cell) = true)
    (hk : fd.scope.kind = .function) (hco : fd.scope.isCoroutine = false) (hgen : fd.scope.isGenerator = false)
    (h : ∀ env : Env, env.scope = fd.scope → TXs W n body env (Loc.ofL (ps.zip vs)) (FQ Q) st) : CallAt W (n + 1) a vs Q st := by
  intro A s k ws hA R rs
  refine codeAny_call_cells hA.depth (R.keep _ _ h2) h3 (ok.lim.keeps R.keep) (h4.keeps R.keep) hbody (hbind ws rs.length) hclo (fun x hx => ?_) (fun s₁ X => ?_) hco hgen hk
  · have hx1 : x.1 ∈ ps := (List.of_mem_zip hx).1
    have := List.all_eq_true.mp hkind x.1 hx1
    simp only [Bool.or_eq_true, beq_iff_eq] at this
    exact this.imp id fun e => ⟨e, cellsFrom_some _ _ _ (.inl e)⟩
  · have hce0 : (callEnvC fd s.heap.objs.size a).cells = cellsFrom (s.heap.objs.size + 1) fd.scope.names [] := by first | rfl | (show (callEnvC fd s.heap.objs.size a).cells = _; simp [callEnvC, hclo])
    generalize henv : callEnvC fd s.heap.objs.size a = env at X hce0 ⊢
    have hsc : env.scope = fd.scope := by rw [← henv]; rfl
    have hlo : env.locals = s.heap.objs.size := by rw [← henv]; rfl
    have hgl : env.globals = mainGlobals := by rw [← henv]; exact hgl'
    have hbi : env.builtins = builtinsNs := by rw [← henv]; exact hbi'
    have hce : env.cells = cellsFrom (s.heap.objs.size + 1) fd.scope.names [] := hce0
    obtain ⟨h₁, tk, rfl⟩ := X.toInCall.same
    have keep : ∀ b o, s.heap.get? b = some o → h₁.get? b = some o := X.toInCall.keep
    obtain ⟨R₁, l₁⟩ := R.grow (h' := h₁) (tk := tk) keep
    have hfresh : ∀ b, own env b → s.heap.objs.size ≤ b := fun b hb => by
      rcases hb with rfl | ⟨x, hx, hc⟩
      · rw [hlo]; exact Nat.le_refl _
      · exact Nat.le_of_lt (hlo ▸ X.above x b (mem_of_lookup hc))
    have hcell : ∀ x, env.kindOf x = some .cell → ∃ c, env.cells.lookup x = some c := fun x hx => by
      have hx : env.scope.names.lookup x = some .cell := hx
      rw [hsc] at hx
      rw [hce]
      exact Option.isSome_iff_exists.mp (cellsFrom_some _ _ _ (.inl hx))
    have L₁ : LocR W k env h₁ (Loc.ofL (ps.zip vs)) := {
      ok := ⟨by rw [hsc]; exact hk, hgl, hbi⟩
      new := fun b hb => by
        have hle := hfresh b hb
        refine ⟨(R.lo ok hle).1, ?_⟩
        cases q : k.κ b with
        | none => rfl
        | some x =>
          obtain ⟨ob, hob⟩ := Option.isSome_iff_exists.mp (R.new _ _ q).2.2
          exact absurd (Heap.lt_size hob) (Nat.not_lt.mpr hle)
      ns := ⟨_, X.toInCall.ns, fun x v hx hv => by
        obtain ⟨w, e, r⟩ := (bind_start (kf := env.kindOf) (m := fun _ => none) (c := fun _ => none) hps rs x v hv).1 hx
        exact ⟨w, e, r.le l₁⟩⟩
      cel := fun x hx => by
        obtain ⟨c, hc⟩ := hcell x hx
        refine ⟨c, _, hc, X.cell x c hc, fun v hv => ?_⟩
        obtain ⟨w, e, r⟩ := (bind_start (kf := env.kindOf) (m := fun _ => none) (c := fun _ => none) hps rs x v hv).2 (by rw [hx]; decide)
        exact ⟨w, e, r.le l₁⟩
      apart := fun x y c hx hy => name_of_addr X.apart (mem_of_lookup hx) (mem_of_lookup hy) }
    refine wpAny_mono (h env hsc (A.deeper env) _ k (hA.deeper env) R₁ L₁) (fun fl s' ⟨k', fl', ρ', st', R', l', L', r, q⟩ => ?_) fun _ _ p => p.elim
    have l : Le nob k s.heap k' s'.heap := ⟨fun b x e => l'.map b x e, fun b ob e nn => by
      rcases l'.rest b ob (keep b ob e) nn with p | p
      · exact absurd (Heap.lt_size e) (Nat.not_lt.mpr (hfresh b p))
      · exact .inr p⟩
    cases r with
    | next => exact ⟨k', _, st', R', l, .none, q⟩
    | ret r => exact ⟨k', _, st', R', l, r, q⟩
theorem fn_intro (ok : W.Ok) (F : W.Fns) {f : Str} {params : Arguments} {body : List Stmt} {scope : Scope} {pos : Pos} {ps : List Str} {vs : List V}
    (hd : DefRec.mk f params body scope pos ∈ recsOf PySem.Challenge.pw_pf0213_01)
    (hbind : ∀ pm code doc ws, ws.length = vs.length → bindArgs (Calls.docDef f params body scope pm code doc) ⟨ws, []⟩ = pure (ps.zip ws))
    (hps : ps.Nodup) (hkind : (ps.all fun x => scope.names.lookup x == some .local || scope.names.lookup x == some .cell) = true)
    (hk : scope.kind = .function) (hco : scope.isCoroutine = false) (hgen : scope.isGenerator = false)
    (h : ∀ env : Env, env.scope = scope → TXs W n body env (Loc.ofL (ps.zip vs)) (FQ Q) st) : CallOK W (n + 1) f vs Q st := by
  intro A s k ws a hA R rs hm
  obtain ⟨a', o, pm, code, doc, h1, h2, h3, h4⟩ := F.fns _ hd
  rw [hm] at h1
  cases h1
  exact at_intro ok h2 h3 h4 rfl rfl rfl rfl (hbind pm code doc) hps hkind hk hco hgen h A s k ws hA R rs
end
end
section
set_option linter.unusedVariables false

section
variable {W : Wd} {n : Nat} {env : Env} {ρ : Loc} {st : St} {Q : V → St → Prop}

noncomputable def IsMeth (W : Wd) (st : St) (ov : V) (name : Str) (id : String) : Prop :=
  ∀ (A : Around) (s : Shared) (k : Kp) (a : Value), Rel W k s st → VR k s.heap a ov → ∀ (pl : Sem Bool) (P : Value × List Value → Shared → Prop) (E : Value → Shared → Prop), P (.builtin id, [a]) s → wpAny (model W.prog W.w) A (getMethod a name pl) P E s
theorem isMeth_dict {r : Role} {es ep} {name : Str} {id : String} (hr : st r = some (.dict es ep)) (slot : Slot "dict" name id) (hty : typeOf (.builtin id) = pure (.type "method_descriptor")) : IsMeth W st (.ref r) name id := by
  intro A s k a R ra pl P E h
  obtain ⟨a, rfl, e⟩ := ra.ref_inv
  obtain ⟨kvs, hd, _⟩ := R.dictAt e hr
  exact getMethod_builtin hd.dictOf.typeIs PySem.F.plainAttrs_dict slot hty hd.dictOf.mapOf.noDict h
theorem isMeth_list {r : Role} {xs} {name : Str} {id : String} (hr : st r = some (.list xs)) (slot : Slot "list" name id) (hty : typeOf (.builtin id) = pure (.type "method_descriptor")) : IsMeth W st (.ref r) name id := by
  intro A s k a R ra pl P E h
  obtain ⟨a, rfl, e⟩ := ra.ref_inv
  obtain ⟨vs, m, hl, _⟩ := R.listAt e hr
  exact getMethod_builtin ⟨_, hl, rfl⟩ PySem.F.plainAttrs_list slot hty (fun a e => by cases e; exact ⟨_, hl, rfl⟩) h

noncomputable def PlainArgs (env : Env) : List Expr → Prop
  | [] => True
  | e :: r => starEach (e :: r) env = (false, eval e env) :: starEach r env
/-- the calls of a built-in: the arguments are read, then it runs -/
theorem with_builtin {id : String} {pos : Pos} {args : List Expr} {first : List Value} {QL : List V → St → Prop} {A : Around} {s : Shared} {k : Kp} {P : Value → Shared → Prop} (hA : Room n A) (R : Rel W k s st) (L : LocR W k env s.heap ρ)
    (h : TA W n args pos env ρ QL st) (c : ∀ vs s₁ k₁ xs st₁, Rel W k₁ s₁ st₁ → LocR W k₁ env s₁.heap ρ → Le nob k s.heap k₁ s₁.heap → VRs k₁ s₁.heap vs xs → QL xs st₁ → wpAny (model W.prog W.w) A (call (.builtin id) (first ++ vs)) P noE s₁)
    (he : PlainArgs env args) (hp : (backTo pos (starEach args env)).any (·.1) = false) :
    wpAny (model W.prog W.w) A (callWith pos (.builtin id) first (backTo pos (starEach args env)) []) P noE s := by
  have X : wpAny (model W.prog W.w) A (spliced (backTo pos (starEach args env))) (fun vs s₁ => wpAny (model W.prog W.w) A (call (.builtin id) (first ++ vs)) P noE s₁) noE s :=
    T.run h hA R L fun vs s₁ k₁ xs st₁ R₁ L₁ l₁ rs g => c vs s₁ k₁ xs st₁ R₁ L₁ l₁ rs g
  refine Calls.callWith_builtin hp ?_
  cases args with
  | nil => exact PyProof.Rows.evalArgs_none fun Γ p hΓ => X Γ p hΓ Γ p hΓ
  | cons e r =>
    have he : starEach (e :: r) env = (false, eval e env) :: starEach r env := he
    rw [he] at X ⊢
    exact Calls.evalArgs_plain X
noncomputable abbrev KM2 (W : Wd) (n : Nat) (id : String) (Q : V → St → Prop) (ov : V) : List V → St → Prop := fun vs => OP W n VR (fun ws => call (.builtin id) ws) (ov :: vs) Q
noncomputable abbrev KM (W : Wd) (n : Nat) (name : Str) (args : List Expr) (pos : Pos) (env : Env) (ρ : Loc) (Q : V → St → Prop) : V → St → Prop := fun ov st₁ => ∃ id, IsMeth W st₁ ov name id ∧ TA W n args pos env ρ (KM2 W n id Q ov) st₁
theorem te_meth {o : Expr} {name : Str} {ap pos : Pos} {args : List Expr} {pl : Sem Bool} (h : TE W n o env ρ (KM W n name args pos env ρ Q) st)
    (hcall : eval (.Call (.Attribute o name ap) args [] pos) env = (do
      let ov ← eval o env
      standAt ap.atName
      let (f, first) ← holding [ov] (getMethod ov name pl)
      callWith pos f first (backTo pos (starEach args env)) (backToKw pos (keywordEach [] env))) := by k_dflt rfl)
    (he : PlainArgs env args := by first | exact trivial | rfl) (hp : (backTo pos (starEach args env)).any (·.1) = false := by k_dflt rfl) :
    TE W n (.Call (.Attribute o name ap) args [] pos) env ρ Q st := by
  intro A s k hA R L
  refine methodCall_KW (h.run hA R L fun a s₁ k₁ x st₁ R₁ L₁ l₁ ra g => ?_) hcall
  obtain ⟨id, hm, g⟩ := g
  refine hm A s₁ k₁ a R₁ ra _ _ _ ?_
  exact with_builtin hA R₁ L₁ g (fun vs s₂ k₂ xs st₂ R₂ L₂ l₂ rs g₂ => g₂.go (vs := a :: vs) hA R₂ (.cons (ra.le l₂) rs) (l₁.trans l₂)) he hp

/-! ### methods of dicts -/
theorem isOI_int {i : Int} {t : Tok} : (knd W.prog W.w).is (some i) (.int i t) = true := by simp [knd, isOI, Value.isInt]
theorem isOI_nn : (knd W.prog W.w).is none .none = true := by simp [knd, isOI]
theorem ERs.val {k : Kp} {h : Heap} {kvs : List (Option Int × Value)} {es : List (Int × V)} (rs : ERs k h kvs es) (i : Int) {v : Value} {x : V} (r : VR k h v x) : VR k h ((PySem.valueAt kvs (some i)).getD v) ((dget es i).getD x) := by
  have X := rs.valueAt i
  cases g : dget es i with
  | none => rw [X.2 g]; exact r
  | some y => obtain ⟨w, e, rw'⟩ := X.1 y g; rw [e]; exact rw'
theorem op_get {r : Role} {es ep} {i : Int} (ok : W.Ok) (hr : st r = some (.dict es ep)) (q : Q ((dget es i).getD .none) st) : OP W n VR (fun ws => call (.builtin "dict.get") ws) [.ref r, .int i] Q st := by
  intro A s k vs hA R rr
  obtain ⟨_, _, rfl, ra, rb⟩ := rr.two
  obtain ⟨t, rfl⟩ := rb.int_inv; obtain ⟨a, rfl, e⟩ := ra.ref_inv
  obtain ⟨kvs, hd, rs⟩ := R.dictAt e hr
  exact call_meetsIn PySem.F.slot_dict_get hd.dictOf.typeIs PySem.F.entry_dict_get (PySem.F.args_dict_get_2 _ _) (meets_dict_get (knd := knd W.prog W.w) a (k := some i) isOI_int (R.notSys ok e)) ⟨_, hd.dictOf.mapOf, .valt R (rs.val i .none) q⟩
theorem op_get_none {r : Role} {es ep} (ok : W.Ok) (hr : st r = some (.dict es ep)) (q : Q .none st) : OP W n VR (fun ws => call (.builtin "dict.get") ws) [.ref r, .none] Q st := by
  intro A s k vs hA R rr
  obtain ⟨_, _, rfl, ra, rb⟩ := rr.two
  cases rb.none_inv; obtain ⟨a, rfl, e⟩ := ra.ref_inv
  obtain ⟨kvs, hd, rs⟩ := R.dictAt e hr
  refine call_meetsIn PySem.F.slot_dict_get hd.dictOf.typeIs PySem.F.entry_dict_get (PySem.F.args_dict_get_2 _ _) (meets_dict_get (knd := knd W.prog W.w) a (k := none) isOI_nn (R.notSys ok e)) ⟨_, hd.dictOf.mapOf, ?_⟩
  rw [rs.valueAt_none]; exact PG.valt (W := W) (k := k) R .none q
theorem op_get2 {r : Role} {es ep} {i : Int} {d : V} (ok : W.Ok) (hr : st r = some (.dict es ep)) (q : Q ((dget es i).getD d) st) : OP W n VR (fun ws => call (.builtin "dict.get") ws) [.ref r, .int i, d] Q st := by
  intro A s k vs hA R rr
  obtain ⟨_, _, v, rfl, ra, rb, rc⟩ := rr.three
  obtain ⟨t, rfl⟩ := rb.int_inv; obtain ⟨a, rfl, e⟩ := ra.ref_inv
  obtain ⟨kvs, hd, rs⟩ := R.dictAt e hr
  exact call_meetsIn PySem.F.slot_dict_get hd.dictOf.typeIs PySem.F.entry_dict_get (PySem.F.args_dict_get_3 _ _ _) (meets_dict_get_default (knd := knd W.prog W.w) a (k := some i) isOI_int (R.notSys ok e) v) ⟨_, hd.dictOf.mapOf, .valt R (rs.val i rc) q⟩
theorem op_dpop {r : Role} {es ep} {i : Int} {x : V} (hr : st r = some (.dict es ep)) (hz : es.length ≤ 16777216) (hx : dget es i = some x) (q : ∀ ep', Q x (st.set r (.dict (ddel es i) ep'))) : OP W n VR (fun ws => call (.builtin "dict.pop") ws) [.ref r, .int i] Q st := by
  intro A s k vs hA R rr
  obtain ⟨_, _, rfl, ra, rb⟩ := rr.two
  obtain ⟨t, rfl⟩ := rb.int_inv; obtain ⟨a, rfl, e⟩ := ra.ref_inv
  obtain ⟨kvs, hd, rs⟩ := R.dictAt e hr
  obtain ⟨v, hv, rv⟩ := (rs.valueAt i).1 x hx
  refine call_meetsIn PySem.F.slot_dict_pop hd.dictOf.typeIs PySem.F.entry_dict_pop (PySem.F.args_dict_pop_2 _ _) (meets_dict_pop_there (knd := knd W.prog W.w) a (k := some i) isOI_int [] (.inl rfl) rfl) ⟨kvs, v, hd.dictOf, by rw [rs.length]; exact hz, hv, fun h' hd' hs' => ?_⟩
  obtain ⟨ep', hd'⟩ := hd'.dictAt
  have X := R.upd (o' := .dict (ddel es i) ep') (tk := s.toks + 1) e hs' (by obtain ⟨_, _, ho, _⟩ := hd'; rw [ho]; rfl) fun l => ⟨_, by rw [← R.addr e]; exact hd', (rs.mono l NoTup.nob).without i⟩
  exact ⟨k, _, _, X.1, X.2, rv.le X.2, q ep'⟩
theorem op_dpop2 {r : Role} {es ep} {i : Int} {d : V} (ok : W.Ok) (hr : st r = some (.dict es ep)) (hz : es.length ≤ 16777216) (q : ∀ ep', Q ((dget es i).getD d) (st.set r (.dict (ddel es i) ep'))) (q' : dget es i = none → Q d st) : OP W n VR (fun ws => call (.builtin "dict.pop") ws) [.ref r, .int i, d] Q st := by
  intro A s k vs hA R rr
  obtain ⟨_, _, w, rfl, ra, rb, rc⟩ := rr.three
  obtain ⟨t, rfl⟩ := rb.int_inv; obtain ⟨a, rfl, e⟩ := ra.ref_inv
  obtain ⟨kvs, hd, rs⟩ := R.dictAt e hr
  cases g : dget es i with
  | none =>
    refine call_meetsIn PySem.F.slot_dict_pop hd.dictOf.typeIs PySem.F.entry_dict_pop (PySem.F.args_dict_pop_3 _ _ _) (meets_dict_pop_default (knd := knd W.prog W.w) a (k := some i) isOI_int (R.notSys ok e) rfl w) ⟨kvs, hd.dictOf, (rs.valueAt i).2 g, ?_⟩
    exact PG.valt (W := W) (k := k) R rc (q' g)
  | some x =>
    obtain ⟨v, hv, rv⟩ := (rs.valueAt i).1 x g
    refine call_meetsIn PySem.F.slot_dict_pop hd.dictOf.typeIs PySem.F.entry_dict_pop (PySem.F.args_dict_pop_3 _ _ _) (meets_dict_pop_there (knd := knd W.prog W.w) a (k := some i) isOI_int [w] (.inr ⟨w, rfl⟩) rfl) ⟨kvs, v, hd.dictOf, by rw [rs.length]; exact hz, hv, fun h' hd' hs' => ?_⟩
    obtain ⟨ep', hd'⟩ := hd'.dictAt
    have X := R.upd (o' := .dict (ddel es i) ep') (tk := s.toks + 1) e hs' (by obtain ⟨_, _, ho, _⟩ := hd'; rw [ho]; rfl) fun l => ⟨_, by rw [← R.addr e]; exact hd', (rs.mono l NoTup.nob).without i⟩
    have q := q ep'
    rw [g] at q
    exact ⟨k, _, _, X.1, X.2, rv.le X.2, q⟩
theorem op_dpop2_none {r : Role} {es ep} {d : V} (ok : W.Ok) (hr : st r = some (.dict es ep)) (q' : Q d st) : OP W n VR (fun ws => call (.builtin "dict.pop") ws) [.ref r, .none, d] Q st := by
  intro A s k vs hA R rr
  obtain ⟨_, _, w, rfl, ra, rb, rc⟩ := rr.three
  cases rb.none_inv; obtain ⟨a, rfl, e⟩ := ra.ref_inv
  obtain ⟨kvs, hd, rs⟩ := R.dictAt e hr
  refine call_meetsIn PySem.F.slot_dict_pop hd.dictOf.typeIs PySem.F.entry_dict_pop (PySem.F.args_dict_pop_3 _ _ _) (meets_dict_pop_default (knd := knd W.prog W.w) a (k := none) isOI_nn (R.notSys ok e) rfl w) ⟨kvs, hd.dictOf, rs.valueAt_none, ?_⟩
  exact PG.valt (W := W) (k := k) R rc q'

/-! ### methods of lists -/
theorem op_append {r : Role} {xs : List V} {x : V} (hr : st r = some (.list xs)) (hz : xs.length ≤ 16777216) (q : Q .none (st.set r (.list (xs ++ [x])))) : OP W n VR (fun ws => call (.builtin "list.append") ws) [.ref r, x] Q st := by
  intro A s k vs hA R rr
  obtain ⟨_, v, rfl, ra, rv⟩ := rr.two
  obtain ⟨a, rfl, e⟩ := ra.ref_inv
  obtain ⟨ws, m, hl, rs⟩ := R.listAt e hr
  refine wpAny_list_append_plain ⟨m, hl⟩ (fun h' hl' hs' => ?_) (by rw [List.size_toArray, rs.length]; exact hz)
  obtain ⟨m', hl'⟩ := hl'
  have e1 : ws.toArray.push v = (ws ++ [v]).toArray := by simp
  rw [e1] at hl'
  have X := R.upd (o' := .list (xs ++ [x])) (tk := s.toks) e hs' (by rw [hl']; rfl) fun l => ⟨_, m', by rw [← R.addr e]; exact hl', (rs.le l).append (.cons (rv.le l) .nil)⟩
  exact ⟨k, _, _, X.1, X.2, .none, q⟩
theorem VRs.dropLast {k : Kp} {h : Heap} {vs : List Value} {xs : List V} (r : VRs k h vs xs) : VRs k h vs.dropLast xs.dropLast := by
  induction vs generalizing xs with
  | nil => cases r; exact .nil
  | cons v vs ih => cases r with
    | cons a r => cases r with
      | nil => exact .nil
      | cons b r => exact .cons a (ih (.cons b r))
theorem op_lpop {r : Role} {xs : List V} {x : V} (hr : st r = some (.list (xs ++ [x]))) (hz : xs.length ≤ 10000000) (q : Q x (st.set r (.list xs))) : OP W n VR (fun ws => call (.builtin "list.pop") ws) [.ref r] Q st := by
  intro A s k vs hA R rr
  obtain ⟨_, rfl, ra⟩ := rr.one
  obtain ⟨a, rfl, e⟩ := ra.ref_inv
  obtain ⟨ws, m, hl, rs⟩ := R.listAt e hr
  have hlen := rs.length
  rw [List.length_append, List.length_singleton] at hlen
  obtain ⟨v, hv, rv⟩ := rs.get (i := xs.length) (x := x) (by simp)
  refine call_meets PySem.F.slot_list_pop ⟨_, hl, rfl⟩ PySem.F.entry_list_pop (PySem.F.args_list_pop_1 _) (MeetsSeq.list_pop_last a ws.toArray m v (by rw [List.size_toArray, hlen]; simpa using hv) (by rw [List.size_toArray, sizeLine_eq]; omega)) ⟨hl, ?_⟩
  have e1 : ws.toArray.eraseIdxIfInBounds (ws.toArray.size - 1) = ws.dropLast.toArray := by
    apply Array.toList_inj.mp
    rw [List.size_toArray, hlen]
    unfold Array.eraseIdxIfInBounds
    rw [dif_pos (by rw [List.size_toArray, hlen]; simp)]
    simp only [Array.toList_eraseIdx, List.dropLast_eq_take, hlen, Nat.add_sub_cancel]
    rw [List.eraseIdx_eq_take_drop_succ, List.drop_eq_nil_of_le (by omega), List.append_nil]
  have hl' := IsL.update hl (fun xs => xs.eraseIdxIfInBounds (ws.toArray.size - 1))
  rw [e1] at hl'
  have X := R.upd (o' := .list xs) (tk := s.toks) e (Heap.SameBut.update ..) (by rw [hl']; rfl) fun l => ⟨_, _, by rw [← R.addr e]; exact hl', by have := (rs.le l).dropLast; simpa using this⟩
  exact ⟨k, _, _, X.1, X.2, rv.le X.2, q⟩
end
end
section
set_option linter.unusedVariables false

section
variable {W : Wd} {n : Nat} {env : Env} {ρ : Loc} {st : St} {Q : V → St → Prop}

noncomputable abbrev KBf (W : Wd) (n : Nat) (v : Value) (Q : V → St → Prop) : List V → St → Prop := fun vs => OP W n VR (fun ws => call v ws) vs Q
theorem te_bfun {f : Str} {v : Value} {p pos : Pos} {args : List Expr} (ok : W.Ok) (hm : W.mg f = none) (hk : env.kindOf f = some .globalImplicit) (hb : bootBuiltins f = some v) (h : TA W n args pos env ρ (KBf W n v Q) st)
    (hkeep : keeperOf v = pure .machine := by k_dflt rfl) (hn : f ≠ "__name__" := by decide)
    (hd : (f == ("__debug__" : Str)) = false := by decide) (he : PlainArgs env args := by first | exact trivial | rfl) (hp : (backTo pos (starEach args env)).any (·.1) = false := by k_dflt rfl) : TE W n (.Call (.Name f p) args [] pos) env ρ Q st := by
  intro A s k hA R L
  refine Call_ (Calls.Name_function_global L.ok.kind hk (Calls.loadGlobal_builtin (by rw [L.ok.gl]; exact ok.g.keeps R.keep) hm (by rw [L.ok.bi]; exact ok.b.keeps R.keep) ((ok.bb f hn).trans hb) ?_) hd)
  have X : wpAny (model W.prog W.w) A (spliced (backTo pos (starEach args env))) (fun vs s₁ => True ∧ wpAny (model W.prog W.w) A (call v ([] ++ vs)) (PG W k s.heap VR Q) noE s₁) noE s :=
    T.run h hA R L fun vs s₁ k₁ xs st₁ R₁ L₁ l₁ rs g => ⟨trivial, g.go (vs := vs) hA R₁ rs l₁⟩
  refine callWith_of (P := fun _ => True) (by rw [hp]; rfl) (fun h _ => ⟨.machine, .inr (.inl rfl), Looks.of_pure hkeep⟩) ?_
  cases args with
  | nil => exact PyProof.Rows.evalArgs_none (Q := fun a s₁ => True ∧ wpAny (model W.prog W.w) A (call v ([] ++ a.pos) a.kw) (PG W k s.heap VR Q) noE s₁) ⟨trivial, fun Γ p hΓ => (X Γ p hΓ).2 Γ p hΓ⟩
  | cons e r =>
    have he : starEach (e :: r) env = (false, eval e env) :: starEach r env := he
    rw [he] at X ⊢
    exact Calls.evalArgs_plain X

theorem VRs.ints {k : Kp} {h : Heap} {vs : List Value} {ns : List Int} (r : VRs k h vs (ns.map V.int)) : IntsAre vs ns := by
  induction ns generalizing vs with
  | nil => cases r; exact .nil
  | cons n ns ih => cases r with | cons a r => obtain ⟨t, rfl⟩ := a.int_inv; exact .cons n t (ih r)
theorem ints_VRs {k : Kp} {h : Heap} {vs : List Value} {ns : List Int} (r : IntsAre vs ns) : VRs k h vs (ns.map V.int) := by
  induction r with
  | nil => exact .nil
  | cons n t _ ih => exact .cons (.int n t) ih

theorem op_lenl {r : Role} {xs : List V} (hr : st r = some (.list xs)) (hz : xs.length ≤ 16777216) (q : Q (.int xs.length) st) : OP W n VR (fun ws => call (.builtin "len") ws) [.ref r] Q st := by
  intro A s k vs hA R rr
  obtain ⟨_, rfl, ra⟩ := rr.one
  obtain ⟨a, rfl, e⟩ := ra.ref_inv
  obtain ⟨ws, m, hl, rs⟩ := R.listAt e hr
  refine Calls.call_len_list hl.isList (by rw [List.size_toArray, rs.length]; omega) ?_
  rw [List.size_toArray, rs.length]
  exact .valt R (.int _ _) q
theorem op_lend {r : Role} {es ep} (ok : W.Ok) (hr : st r = some (.dict es ep)) (hz : es.length ≤ 16777216) (q : Q (.int es.length) st) : OP W n VR (fun ws => call (.builtin "len") ws) [.ref r] Q st := by
  intro A s k vs hA R rr
  obtain ⟨_, rfl, ra⟩ := rr.one
  obtain ⟨a, rfl, e⟩ := ra.ref_inv
  obtain ⟨kvs, hd, rs⟩ := R.dictAt e hr
  refine call_len_dict (knd := knd W.prog W.w) (R.notSys ok e) hd.dictOf (by rw [rs.length]; omega) ?_
  rw [rs.length]
  exact .valt R (.int _ _) q
theorem fresh_ge {h : Heap} {a : Addr} (hn : h.objs.size ≤ a) : h.get? a = none := by
  cases q : h.get? a with
  | none => rfl
  | some o => exact absurd (Heap.lt_size q) (Nat.not_lt.mpr hn)
/-- a list that an operation laid at a new place -/
theorem Rel.adoptList (ok : W.Ok) {k : Kp} {s : Shared} (R : Rel W k s st) {h' : Heap} {tk : Nat} {a : Addr} {vs : List Value} {m : Nat} {xs : List V} {r : Role} (hk : ∀ b o, s.heap.get? b = some o → h'.get? b = some o) (hl : IsL h' a vs.toArray m) (hg : s.heap.get? a = none) (h3 : 3 < a) (rs : VRs k h' vs xs) (hr : st r = none) :
    ∃ k', Rel W k' { s with heap := h', toks := tk } (st.set r (.list xs)) ∧ Le nob k s.heap k' h' ∧ VR k' h' (.ref a) (.ref r) := by
  obtain ⟨R', l⟩ := R.grow (h' := h') (tk := tk) hk
  have hlo : W.h0.get? a = none ∧ 3 < a := by
    refine ⟨?_, ?_⟩
    · cases q : W.h0.get? a with
      | none => rfl
      | some o => rw [R.keep _ _ q] at hg; cases hg
    · exact h3
  have hκ : k.κ a = none := by
    cases q : k.κ a with
    | none => rfl
    | some x =>
      obtain ⟨o, ho⟩ := Option.isSome_iff_exists.mp (R.new _ _ q).2.2
      rw [hg] at ho; cases ho
  exact ⟨_, R'.adopt (a := a) (r := r) (o' := .list xs) hr hκ hlo (by show (h'.get? a).isSome = true; rw [hl]; rfl) (h := s.heap) hg
    (fun b vs' n' p e => by subst p; have e : h'.get? _ = _ := e; rw [hl] at e; simp at e) (fun la => ⟨vs, m, by rw [Kp.add_ads]; exact hl, rs.mono la (fun b vs' n' p e => by subst p; have e : h'.get? _ = _ := e; rw [hl] at e; simp at e)⟩) l⟩
theorem ERs.keys {k : Kp} {h : Heap} {kvs : List (Option Int × Value)} {es : List (Int × V)} (rs : ERs k h kvs es) : kvs.map (·.1) = es.map fun e => some e.1 := by
  induction rs with
  | nil => rfl
  | cons r rs ih => simp [ih]
theorem keys_VRs {k : Kp} {h : Heap} : ∀ {kvs : List (Option Int × Value)} {es : List (Int × V)} {vs : List Value}, kvs.map (·.1) = es.map (fun e => some e.1) → vs.length = kvs.length → (∀ (j : Nat) (v : Value), vs[j]? = some v → ∃ q x, kvs[j]? = some (q, x) ∧ (knd W.prog W.w).is q v = true) → VRs k h vs (es.map fun e => .int e.1)
  | [], [], [], _, _, _ => .nil
  | [], _ :: _, _, e, _, _ => by simp at e
  | _ :: _, [], _, e, _, _ => by simp at e
  | [], _, _ :: _, _, e, _ => by simp at e
  | _ :: _, _, [], _, e, _ => by simp at e
  | p :: kvs, q :: es, v :: vs, e, hl, h => by
    simp only [List.map_cons, List.cons.injEq] at e
    obtain ⟨j, x, h1, h2⟩ := h 0 v rfl
    simp only [List.getElem?_cons_zero, Option.some.injEq] at h1
    rw [h1] at e
    have e1 := e.1
    dsimp only at e1
    subst e1
    obtain ⟨t, rfl⟩ := isOI_some h2
    refine .cons (.int _ t) (keys_VRs e.2 (by simpa using hl) fun j v hv => ?_)
    have := h (j + 1) v (by simpa using hv)
    simpa using this
theorem op_listd {r r' : Role} {es ep} (ok : W.Ok) (hr : st r = some (.dict es ep)) (hr' : st r' = none) (hz : es.length ≤ 16777216) (q : Q (.ref r') (st.set r' (.list (es.map fun e => .int e.1)))) : OP W n VR (fun ws => call (.type "list") ws) [.ref r] Q st := by
  intro A s k vs hA R rr
  obtain ⟨_, rfl, ra⟩ := rr.one
  obtain ⟨a, rfl, e⟩ := ra.ref_inv
  obtain ⟨kvs, hd, rs⟩ := R.dictAt e hr
  refine kdl_call (kdl_dict (knd := knd W.prog W.w) (kvs := kvs) (ep := ep) (R.notSys ok e)) hA.1 hd (by rw [rs.length]; exact hz) fun h' tk acc c' hk hl hacc => ?_
  have hacc1 := hacc.1
  have e1 : acc = acc.toList.toArray := by simp
  rw [e1] at hl
  obtain ⟨k', R', l', r'⟩ := R.adoptList (xs := es.map fun e => .int e.1) ok hk hl fresh_none (R.lo ok (Nat.le_refl _)).2 (keys_VRs (W := W) rs.keys (by rw [Array.length_toList]; exact hacc1) fun j v hv => by
    obtain ⟨q, x, h1, h2⟩ := hacc.2 j v (by rw [← Array.getElem?_toList]; exact hv)
    exact ⟨q, x, h1, h2⟩) hr'
  exact ⟨k', _, _, R', l', r', q⟩
theorem op_sortl {r r' : Role} {ns : List Int} (ok : W.Ok) (hr : st r = some (.list (ns.map V.int))) (hr' : st r' = none) (hz : ns.length < 64) (q : ∀ ns' : List Int, ns'.Perm ns → ns'.Pairwise (· ≤ ·) → Q (.ref r') (st.set r' (.list (ns'.map V.int)))) :
    OP W n VR (fun ws => call (.builtin "sorted") ws) [.ref r] Q st := by
  intro A s k vs hA R rr
  obtain ⟨_, rfl, ra⟩ := rr.one
  obtain ⟨a, rfl, e⟩ := ra.ref_inv
  obtain ⟨ws, m, hl, rs⟩ := R.listAt e hr
  have hlen := rs.length
  rw [List.length_map] at hlen
  refine sorted_ints hl.isList rs.ints (by rw [hlen]; exact hz) fun out ns' hI hp hs => ?_
  obtain ⟨em, hat⟩ := sortedAll_at s.heap ws out
  have hat : IsL (sortedAll s.heap ws out) (s.heap.objs.size + 1) out.toList.toArray em := by simpa [seqObj] using hat
  obtain ⟨k', R', l', r'⟩ := R.adoptList (tk := s.toks) ok (fun b o e => sortedAll_old e) hat (fresh_ge (Nat.le_succ _)) (R.lo ok (Nat.le_succ _)).2 (ints_VRs hI) hr'
  exact ⟨k', _, _, R', l', r', q ns' hp hs⟩
theorem op_sortd {r r' : Role} {es ep} (ok : W.Ok) (hr : st r = some (.dict es ep)) (hr' : st r' = none) (hz : es.length < 64) (q : ∀ ns' : List Int, ns'.Perm (es.map (·.1)) → ns'.Pairwise (· ≤ ·) → Q (.ref r') (st.set r' (.list (ns'.map V.int)))) :
    OP W n VR (fun ws => call (.builtin "sorted") ws) [.ref r] Q st := by
  intro A s k vs hA R rr
  obtain ⟨_, rfl, ra⟩ := rr.one
  obtain ⟨a, rfl, e⟩ := ra.ref_inv
  obtain ⟨kvs, hd, rs⟩ := R.dictAt e hr
  refine Calls.call_function_entry kind_sorted plain_sorted entry_sorted (args_sorted1 _) ?_
  unfold Builtin.«sorted»
  refine wpAny_bind (m := checkCount "sorted" 1 1 _) (wpAny_pure ?_)
  refine wpAny_bind (kdu_collect (A := A.in1) (kdl_dict (knd := knd W.prog W.w) (kvs := kvs) (ep := ep) (R.notSys ok e)) hA.1 hd (by rw [rs.length, sizeLine_eq]; omega) fun h' tk acc hk hacc => ?_)
  have hlen : acc.toList.length = es.length := by rw [Array.length_toList, hacc.1, rs.length]
  refine wpAny_bind (wpAny_newList ?_ (by rw [hlen, sizeLine_eq]; omega))
  have hr2 : VRs k h' acc.toList ((es.map (·.1)).map V.int) := by
    have := keys_VRs (W := W) (k := k) (h := h') (vs := acc.toList) rs.keys (by rw [Array.length_toList, hacc.1]) fun j v hv => by
      obtain ⟨q, x, h1, h2⟩ := hacc.2 j v (by rw [← Array.getElem?_toList]; exact hv)
      exact ⟨q, x, h1, h2⟩
    rw [List.map_map]; exact this
  have hat : (h'.push { cls := .type "list", data := .seq acc.toList.toArray }).get? h'.objs.size = some (seqObj "list" acc.toList.toArray 0) := Heap.get?_push_size _ rfl
  refine wpAny_bind (wpAny_holding (wpAny_call_entry slot_list_sort ⟨_, hat, rfl⟩ entry_list_sort (list_sort_tree hat hr2.ints (by rw [hlen]; exact hz) fun out ns' hI hp hs => ⟨_, rfl, ?_⟩) (args_list_sort _)))
  refine wpAny_pure ⟨_, rfl, ?_⟩
  have hlt : ∀ b o, s.heap.get? b = some o → b < h'.objs.size := fun b o e => Heap.lt_size (hk b o e)
  obtain ⟨em, hat2⟩ := sortedHeap_at (out := out) hat
  have hat2 : IsL (sortedHeap (h'.push { cls := .type "list", data := .seq acc.toList.toArray }) h'.objs.size acc.toList out) h'.objs.size out.toList.toArray em := by simpa [seqObj] using hat2
  have hsz : s.heap.get? h'.objs.size = none := by
    cases q : s.heap.get? h'.objs.size with
    | none => rfl
    | some o => exact absurd (Heap.lt_size (hk _ _ q)) (Nat.lt_irrefl _)
  have h3 : 3 < h'.objs.size := by
    obtain ⟨o, _, _, ho, _⟩ := ok.g
    exact Heap.lt_size (hk _ _ (R.keep _ _ ho))
  obtain ⟨k', R', l', r'⟩ := R.adoptList (tk := tk) ok (fun b o e => by
    rw [sortedHeap_old (Nat.ne_of_lt (hlt b o e)) (by rw [Heap.size_push]; exact Nat.lt_succ_of_lt (hlt b o e)), Heap.get?_push_of_some _ (hk b o e)]) hat2 hsz h3 (ints_VRs hI) hr'
  exact ⟨k', _, _, R', l', r', q ns' hp hs⟩
end
end
section
set_option linter.unusedVariables false

section
variable {W : Wd} {n : Nat} {env : Env} {ρ : Loc} {st : St} {Q : V → St → Prop}

theorem op_extend {r r' : Role} {xs ys : List V} (hr : st r = some (.list xs)) (hr' : st r' = some (.list ys)) (hz : xs.length + ys.length ≤ 16000000) (q : Q .none (st.set r (.list (xs ++ ys)))) : OP W n VR (fun ws => call (.builtin "list.extend") ws) [.ref r, .ref r'] Q st := by
  intro A s k vs hA R rr
  obtain ⟨_, _, rfl, ra, rb⟩ := rr.two
  obtain ⟨a, rfl, e⟩ := ra.ref_inv; obtain ⟨b, rfl, e'⟩ := rb.ref_inv
  obtain ⟨ws, m, hl, rs⟩ := R.listAt e hr
  obtain ⟨us, m', hl', rs'⟩ := R.listAt e' hr'
  have l1 := rs.length
  have l2 := rs'.length
  refine call_meets PySem.F.slot_list_extend ⟨_, hl, rfl⟩ PySem.F.entry_list_extend (PySem.F.args_list_extend_2 _ _) (AutoSeq1.list_extend_list_list_0 a ws.toArray m b us.toArray m' ?_ (by rw [List.size_toArray, sizeLine_eq]; omega) (by rw [List.size_toArray, List.size_toArray, sizeLine_eq]; omega)) ⟨hl, hl', ?_⟩
  · intro h
    have h2 := (Bool.and_eq_true_iff.mp h).2
    simp only [Builtin.List.listTooLong, List.size_toArray, decide_eq_true_eq] at h2
    have := sizeLine_eq
    omega
  have hl2 := IsL.update hl (fun x => x ++ us.toArray)
  have e1 : ws.toArray ++ us.toArray = (ws ++ us).toArray := by simp
  rw [e1] at hl2
  have X := R.upd (o' := .list (xs ++ ys)) (tk := s.toks) e (Heap.SameBut.update ..) (by rw [hl2]; rfl) fun l => ⟨_, _, by rw [← R.addr e]; exact hl2, (rs.le l).append (rs'.le l)⟩
  exact ⟨k, _, _, X.1, X.2, .none, q⟩

theorem VRs.eraseIdx {k : Kp} {h : Heap} : ∀ {vs : List Value} {xs : List V} (i : Nat), VRs k h vs xs → VRs k h (vs.eraseIdx i) (xs.eraseIdx i)
  | _, _, _, .nil => .nil
  | _, _, 0, .cons r rs => rs
  | _, _, i + 1, .cons r rs => .cons r (VRs.eraseIdx i rs)
theorem map_eraseIdx' {α β : Type} (f : α → β) : ∀ (l : List α) (i : Nat), (l.map f).eraseIdx i = (l.eraseIdx i).map f
  | [], _ => rfl
  | _ :: _, 0 => rfl
  | x :: l, i + 1 => by simp only [List.map_cons, List.eraseIdx_cons_succ, map_eraseIdx' f l i]
theorem op_remove {r : Role} {ns : List Int} {i : Nat} {x : Int} (hr : st r = some (.list (ns.map V.int))) (hz : ns.length ≤ 16777216) (hi : ns[i]? = some x) (hno : ∀ j, j < i → ns[j]? ≠ some x) (q : Q .none (st.set r (.list ((ns.eraseIdx i).map V.int)))) :
    OP W n VR (fun ws => call (.builtin "list.remove") ws) [.ref r, .int x] Q st := by
  intro A s k vs hA R rr
  obtain ⟨_, _, rfl, ra, rb⟩ := rr.two
  obtain ⟨t, rfl⟩ := rb.int_inv
  obtain ⟨a, rfl, e⟩ := ra.ref_inv
  obtain ⟨ws, m, hl, rs⟩ := R.listAt e hr
  have hlen := rs.length
  rw [List.length_map] at hlen
  have hget : ∀ j (hj : j < ws.toArray.size), ∃ y t, ns[j]? = some y ∧ ws.toArray[j] = .int y t := fun j hj => by
    have hj' : j < ns.length := by simpa [hlen] using hj
    obtain ⟨v, hv, rv⟩ := rs.get (i := j) (x := .int ns[j]) (by simp [hj'])
    obtain ⟨t, rfl⟩ := rv.int_inv
    refine ⟨_, t, List.getElem?_eq_getElem hj', ?_⟩
    have : ws.toArray[j]? = some (.int ns[j] t) := by simpa using hv
    rw [Array.getElem?_eq_getElem hj] at this
    exact Option.some.inj this
  have hilt : i < ns.length := (List.getElem?_eq_some_iff.mp hi).1
  refine call_meets PySem.F.slot_list_remove ⟨_, hl, rfl⟩ PySem.F.entry_list_remove (PySem.F.args_list_remove_2 _ _) (MeetsSeq.list_remove a ws.toArray m (.int x t) (fun v => Value.isInt x v) (fun y hy => ?_) i (by rw [List.size_toArray, hlen]; exact hilt) ?_ (fun j hj hji => ?_) (by rw [List.size_toArray, hlen]; exact hz)) ⟨hl, ?_⟩
  · obtain ⟨j, hj, rfl⟩ := Array.mem_iff_getElem.mp hy
    obtain ⟨y, t', h1, h2⟩ := hget j hj
    rw [h2]
    exact MeetsSeq.EqGives.int y x t' t
  · obtain ⟨y, t', h1, h2⟩ := hget i (by rw [List.size_toArray, hlen]; exact hilt)
    rw [hi] at h1; cases h1
    rw [h2]; simp [Value.isInt]
  · obtain ⟨y, t', h1, h2⟩ := hget j hj
    rw [h2]
    have : y ≠ x := fun z => hno j hji (z ▸ h1)
    simpa [Value.isInt] using this
  have hl2 := IsL.update hl (fun xs => xs.eraseIdxIfInBounds i)
  have e1 : ws.toArray.eraseIdxIfInBounds i = (ws.eraseIdx i).toArray := by
    apply Array.toList_inj.mp
    unfold Array.eraseIdxIfInBounds
    rw [dif_pos (by rw [List.size_toArray, hlen]; exact hilt)]
    simp
  rw [e1] at hl2
  have X := R.upd (o' := .list ((ns.eraseIdx i).map V.int)) (tk := s.toks) e (Heap.SameBut.update ..) (by rw [hl2]; rfl) fun l => ⟨_, _, by rw [← R.addr e]; exact hl2, by
    have := (rs.le l).eraseIdx i
    rwa [map_eraseIdx'] at this⟩
  exact ⟨k, _, _, X.1, X.2, .none, q⟩

/-! ### data in the store -/
inductive DV (st : St) : V → PyData → Prop
  | flat {x : V} {d : PyData} : x.toD = some d → DV st x d
  | list {r : Role} {xs : List V} {ds : List PyData} : st r = some (.list xs) → V.toD.go xs = some ds → DV st (.ref r) (.list ds)
theorem DV.reads {k : Kp} {s : Shared} (R : Rel W k s st) {a : Value} {x : V} {d : PyData} (h : DV st x d) (r : VR k s.heap a x) : ∃ as, Reads s.heap a d as := by
  cases h with
  | flat h => exact r.reads h
  | list hr h =>
    obtain ⟨b, rfl, e⟩ := r.ref_inv
    obtain ⟨ws, m, hl, rs⟩ := R.listAt e hr
    obtain ⟨as, ra⟩ := rs.reads h
    exact ⟨_, .list hl rfl rfl (by simpa using ra)⟩
theorem op_deq {x y : V} {d e : PyData} (hx : DV st x d) (hy : DV st y e) (cd : d.canLay0 = true) (ce : e.canLay0 = true) (dd : d.depth ≤ 64) (q : Q (.bool (PyData.eqv d e)) st) : OP W n VR (op2 (compareOp .Eq)) [x, y] Q st := by
  intro A s k vs hA R r
  obtain ⟨_, _, rfl, ra, rb⟩ := r.two
  obtain ⟨as, ra⟩ := hx.reads R ra
  obtain ⟨bs, rb⟩ := hy.reads R rb
  refine SeqAt.compareEq_reads ra rb cd ce ?_ (.val R (.bool _) q)
  have := hA.2.2
  have e : cLine = 9900 := rfl
  omega
theorem op_dne {x y : V} {d e : PyData} (hx : DV st x d) (hy : DV st y e) (cd : d.canLay0 = true) (ce : e.canLay0 = true) (dd : d.depth ≤ 64) (q : Q (.bool (!PyData.eqv d e)) st) : OP W n VR (op2 (compareOp .NotEq)) [x, y] Q st := by
  intro A s k vs hA R r
  obtain ⟨_, _, rfl, ra, rb⟩ := r.two
  obtain ⟨as, ra⟩ := hx.reads R ra
  obtain ⟨bs, rb⟩ := hy.reads R rb
  refine SeqAt.compareNe_reads ra rb cd ce ?_ (.val R (.bool _) q)
  have := hA.2.2
  have e : cLine = 9900 := rfl
  omega
theorem op_inlist {r : Role} {x : V} {ds : List PyData} {d : PyData} (hx : x.toD = some d) (hy : DV st (.ref r) (.list ds)) (cd : d.canLay0 = true) (ce : PyData.canLayAll0 ds = true) (dd : d.depth ≤ 64) (q : Q (.bool (ds.any fun y => PyData.eqv y d)) st) : OP W n VR (op2 (compareOp .In)) [x, .ref r] Q st := by
  intro A s k vs hA R r
  obtain ⟨_, _, rfl, ra, rb⟩ := r.two
  obtain ⟨as, ra⟩ := ra.reads hx
  obtain ⟨bs, rb⟩ := hy.reads R rb
  refine SeqAt.in_list_reads rb ra ce cd ?_ (.val R (.bool _) q)
  have := hA.2.2
  have e : cLine = 9900 := rfl
  omega
theorem op_notinlist {r : Role} {x : V} {ds : List PyData} {d : PyData} (hx : x.toD = some d) (hy : DV st (.ref r) (.list ds)) (cd : d.canLay0 = true) (ce : PyData.canLayAll0 ds = true) (dd : d.depth ≤ 64) (q : Q (.bool (!ds.any fun y => PyData.eqv y d)) st) : OP W n VR (op2 (compareOp .NotIn)) [x, .ref r] Q st := by
  intro A s k vs hA R r
  obtain ⟨_, _, rfl, ra, rb⟩ := r.two
  obtain ⟨as, ra⟩ := ra.reads hx
  obtain ⟨bs, rb⟩ := hy.reads R rb
  refine SeqAt.notIn_list_reads rb ra ce cd ?_ (.val R (.bool _) q)
  have := hA.2.2
  have e : cLine = 9900 := rfl
  omega
theorem op_intup {x : V} {l : List V} {ds : List PyData} {d : PyData} (hx : x.toD = some d) (hy : V.toD.go l = some ds) (cd : d.canLay0 = true) (ce : PyData.canLayAll0 ds = true) (dd : d.depth ≤ 64) (q : Q (.bool (ds.any fun y => PyData.eqv y d)) st) : OP W n VR (op2 (compareOp .In)) [x, .tup l] Q st := by
  intro A s k vs hA R r
  obtain ⟨_, _, rfl, ra, rb⟩ := r.two
  obtain ⟨as, ra⟩ := ra.reads hx
  obtain ⟨bs, rb⟩ := rb.reads (d := .tuple ds) (by simp [V.toD, hy])
  refine SeqAt.in_tuple_reads rb ra ce cd ?_ (.val R (.bool _) q)
  have := hA.2.2
  have e : cLine = 9900 := rfl
  omega

/-! ### dicts compared -/
/-- the same keys and values, whatever the sequence: each entry of the first stands in the second -/
inductive Hits (eb : List (Int × V)) : List (Int × V) → Bool → Prop
  | nil : Hits eb [] true
  | miss {i : Int} {x : V} {r} : dget eb i = none → Hits eb ((i, x) :: r) false
  | hit {i : Int} {x y : V} {r} {b : Bool} {d e : PyData} : dget eb i = some y → x.toD = some d → y.toD = some e → d.canLay0 = true → e.canLay0 = true → d.depth ≤ 64 → Hits eb r b → Hits eb ((i, x) :: r) (PyData.eqv d e && b)
theorem Hits.kept {k : Kp} {s : Shared} {A : Around} (hA : Room n A) {kb : List (Option Int × Value)} {eb : List (Int × V)} (rb : ERs k s.heap kb eb) {ka : List (Option Int × Value)} {ea : List (Int × V)} {b : Bool} (ra : ERs k s.heap ka ea) (hh : Hits eb ea b) : KeqHits A.in1 s kb ka b := by
  induction hh generalizing ka with
  | nil => cases ra; exact .nil
  | miss h => cases ra with | cons r rs => exact .miss ((rb.valueAt _).2 h)
  | @hit i x y r0 b0 d e h hx hy cd ce dd hr ih => cases ra with
    | cons r rs =>
      obtain ⟨v, hv, rv⟩ := (rb.valueAt _).1 _ h
      obtain ⟨as, ra⟩ := r.reads hx
      obtain ⟨bs, rb'⟩ := rv.reads hy
      refine .hit hv (SeqAt.eqAt_reads d e A.in1 s _ _ as bs ra rb' cd ce ?_) (ih rs)
      have := hA.2.2
      have e : cLine = 9900 := rfl
      show A.units + 1 + _ < _
      omega
theorem op_dicteq {r r' : Role} {ea eb : List (Int × V)} {p p' : Nat} {b : Bool} (ok : W.Ok) (hr : st r = some (.dict ea p)) (hr' : st r' = some (.dict eb p')) (hits : ea.length = eb.length → Hits eb ea b) (q : Q (.bool (ea.length == eb.length && b)) st) :
    OP W n VR (op2 (compareOp .Eq)) [.ref r, .ref r'] Q st := by
  intro A s k vs hA R rr
  obtain ⟨_, _, rfl, ra, rb⟩ := rr.two
  obtain ⟨x, rfl, ex⟩ := ra.ref_inv; obtain ⟨y, rfl, ey⟩ := rb.ref_inv
  obtain ⟨ka, hd, rs⟩ := R.dictAt ex hr
  obtain ⟨kb, hd', rs'⟩ := R.dictAt ey hr'
  refine keq_eq (knd := knd W.prog W.w) (R.notSys ok ex) (R.notSys ok ey) hd.dictOf hd'.dictOf hA.units (fun hl => Hits.kept hA rs' rs (hits (by rw [← rs.length, ← rs'.length]; exact hl))) ?_
  rw [rs.length, rs'.length]
  exact .val R (.bool _) q
theorem op_dictne {r r' : Role} {ea eb : List (Int × V)} {p p' : Nat} {b : Bool} (ok : W.Ok) (hr : st r = some (.dict ea p)) (hr' : st r' = some (.dict eb p')) (hits : ea.length = eb.length → Hits eb ea b) (q : Q (.bool (!(ea.length == eb.length && b))) st) :
    OP W n VR (op2 (compareOp .NotEq)) [.ref r, .ref r'] Q st := by
  intro A s k vs hA R rr
  obtain ⟨_, _, rfl, ra, rb⟩ := rr.two
  obtain ⟨x, rfl, ex⟩ := ra.ref_inv; obtain ⟨y, rfl, ey⟩ := rb.ref_inv
  obtain ⟨ka, hd, rs⟩ := R.dictAt ex hr
  obtain ⟨kb, hd', rs'⟩ := R.dictAt ey hr'
  refine keq_ne (knd := knd W.prog W.w) (R.notSys ok ex) (R.notSys ok ey) hd.dictOf hd'.dictOf hA.units (fun hl => Hits.kept hA rs' rs (hits (by rw [← rs.length, ← rs'.length]; exact hl))) ?_
  rw [rs.length, rs'.length]
  exact .val R (.bool _) q
end
end
section
set_option linter.unusedVariables false

/-! ## what a loop goes over -/
inductive Src where
  | list (r : Role) (xs : List V) | dict (r : Role) (es : List (Int × V)) (ep : Nat) | vals (r : Role) (es : List (Int × V)) (ep : Nat) | rev (r : Role) (xs : List V) | range (n : Nat)
noncomputable def Src.items : Src → List V
  | .list _ xs => xs
  | .dict _ es _ => es.map fun e => .int e.1
  | .vals _ es _ => es.map (·.2)
  | .rev _ xs => xs.reverse
  | .range n => (List.range n).map fun i => .int (i : Nat)
noncomputable def Src.ok (st : St) : Src → Prop
  | .list r xs => st r = some (.list xs)
  | .dict r es ep => st r = some (.dict es ep)
  | .vals r es ep => st r = some (.dict es ep)
  | .rev r xs => st r = some (.list xs)
  | .range _ => True
noncomputable def Src.at (k : Kp) (h : Heap) (it : Addr) (j : Nat) : Src → Prop
  | .list r _ => h.IsListIter it (k.ad r) j
  | .dict r es ep => h.IsKeyIter it (k.ad r) j es.length ep
  | .vals r es ep => h.IsValIter it (k.ad r) j es.length ep
  | .rev r xs => h.IsRevIter it (k.ad r) ((xs.length : Int) - 1 - j)
  | .range n => IsRangeIter h it j ((n : Int) - j) 1

section
variable {W : Wd} {n : Nat} {env : Env} {ρ : Loc} {st st' : St} {k k' : Kp} {s s' : Shared} {it : Addr} {j : Nat}

theorem ad_same (R : Rel W k s st) {r : Role} {o : O} (hr : st r = some o) (l : ∀ a x, k.κ a = some x → k'.κ a = some x) (R' : Rel W k' s' st') : k'.ad r = k.ad r :=
  (R'.addr (l _ _ (R.obj r o hr).1)).symm
theorem Src.le {src : Src} (R : Rel W k s st) (ok : src.ok st) (l : ∀ a x, k.κ a = some x → k'.κ a = some x) (R' : Rel W k' s' st') (ha : src.at k s.heap it j) (e : ∀ o, s.heap.get? it = some o → s'.heap.get? it = some o) : src.at k' s'.heap it j := by
  cases src with
  | list r xs => simp only [Src.at]; rw [ad_same R ok l R']; exact Heap.IsListIter.at ha e
  | dict r es ep => simp only [Src.at]; rw [ad_same R ok l R']; exact Heap.IsKeyIter.at ha e
  | vals r es ep => simp only [Src.at]; rw [ad_same R ok l R']; exact Heap.IsValIter.at ha e
  | rev r xs => simp only [Src.at]; rw [ad_same R ok l R']; exact Heap.IsRevIter.at ha e
  | range m => exact e _ ha
theorem Src.live {src : Src} {h : Heap} (ha : src.at k h it j) : ∃ o, h.get? it = some o ∧ ∀ vs m, o ≠ { cls := .type "tuple", data := .seq vs m } := by
  have key : ∀ o : Obj, (∃ T, o.cls = .type T ∧ T ≠ "tuple") → ∀ vs m, o ≠ { cls := .type "tuple", data := .seq vs m } := fun o ⟨T, hT, hne⟩ vs m e => by
    subst e; exact hne (by cases hT; rfl)
  cases src with
  | list r xs => obtain ⟨o, ho, hc, _⟩ := ha; exact ⟨o, ho, key o ⟨_, hc, by decide⟩⟩
  | dict r es ep => obtain ⟨o, ho, hc, _⟩ := ha; exact ⟨o, ho, key o ⟨_, hc, by decide⟩⟩
  | vals r es ep => obtain ⟨o, ho, hc, _⟩ := ha; exact ⟨o, ho, key o ⟨_, hc, by decide⟩⟩
  | rev r xs => obtain ⟨o, ho, hc, _⟩ := ha; exact ⟨o, ho, key o ⟨_, hc, by decide⟩⟩
  | range m => exact ⟨_, ha, key _ ⟨_, rfl, by decide⟩⟩

/-- an object without a role is changed, new ones come -/
theorem Rel.but (R : Rel W k s st) (hκ : k.κ it = none) (hw : W.h0.get? it = none) (nt : NoTup (· = it) s.heap) {h' : Heap} {tk : Nat} (e : ∀ b o, b ≠ it → s.heap.get? b = some o → h'.get? b = some o) :
    Rel W k { s with heap := h', toks := tk } st ∧ Le (· = it) k s.heap k h' :=
  have l : Le (· = it) k s.heap k h' := ⟨fun _ _ x => x, fun a o x nn => by
    by_cases q : a = it
    · exact .inl q
    · exact .inr ⟨nn, e a o q x⟩⟩
  ⟨R.le (s' := { s with heap := h', toks := tk }) l nt (fun a q => by rw [q]; exact hw) (fun a x hx o ho => e a o (fun q => by rw [q, hκ] at hx; cases hx) ho) rfl rfl, l⟩
theorem Src.noTup {src : Src} {h : Heap} (ha : src.at k h it j) : NoTup (· = it) h := fun a vs m p e => by
  obtain ⟨o, ho, hn⟩ := Src.live ha
  rw [p, ho] at e; cases e; exact hn _ _ rfl

theorem Src.next (ok : W.Ok) {src : Src} {A : Around} (hA : Room n A) (R : Rel W k s st) (hs : src.ok st) (ha : src.at k s.heap it j) (hκ : k.κ it = none) (hw : W.h0.get? it = none) {x : V} (hx : src.items[j]? = some x)
    {P : Option Value → Shared → Prop} (c : ∀ v s', Rel W k s' st → Le (· = it) k s.heap k s'.heap → VR k s'.heap v x → src.at k s'.heap it (j + 1) → P (some v) s') : wpAny (model W.prog W.w) A (pyNext (.ref it)) P noE s := by
  have nt := Src.noTup ha
  have fin : ∀ (v : Value) (h' : Heap) (tk : Nat), Heap.ExtBut it s.heap h' → VR k s.heap v x → src.at k h' it (j + 1) → P (some v) { s with heap := h', toks := tk } := fun v h' tk he rv ha' => by
    obtain ⟨R', l⟩ := R.but hκ hw nt (h' := h') (tk := tk) fun b o q e => he b o q e
    exact c v _ R' l (rv.mono l nt) ha'
  cases src with
  | list r xs =>
    obtain ⟨vs, m, hl, rs⟩ := R.listAt (R.obj r _ hs).1 hs
    obtain ⟨v, hv, rv⟩ := rs.get hx
    refine wpAny_pyNext_list_item ha hl.isList (by simpa using hv) fun h' hit hsb => ?_
    exact fin v h' s.toks hsb.extBut rv hit
  | dict r es ep =>
    obtain ⟨kvs, hd, rs⟩ := R.dictAt (R.obj r _ hs).1 hs
    have hlen := rs.length
    simp only [Src.at] at ha
    rw [← hlen] at ha
    simp only [Src.items, List.getElem?_map, Option.map_eq_some_iff] at hx
    obtain ⟨⟨i, y⟩, hx, rfl⟩ := hx
    have hj : j < kvs.length := by rw [hlen]; exact (List.getElem?_eq_some_iff.mp hx).1
    have hk : (kvs[j]'hj).1 = some i := by
      have e1 : (kvs.map (·.1))[j]? = some (kvs[j]'hj).1 := by simp [hj]
      rw [rs.keys] at e1
      simp only [List.getElem?_map, hx, Option.map_some, Option.some.injEq] at e1
      exact e1.symm
    refine wpAny_pyNext_dict_item (k := (kvs[j]'hj).1) (v := (kvs[j]'hj).2) ha hd (by simp [hj]) fun key h' hkey hit hsb => ?_
    rw [hk] at hkey
    obtain ⟨t, rfl⟩ := isOI_some hkey
    rw [hlen] at hit
    exact fin _ h' s.toks hsb.extBut (.int _ _) hit
  | vals r es ep =>
    obtain ⟨kvs, hd, rs⟩ := R.dictAt (R.obj r _ hs).1 hs
    have hlen := rs.length
    simp only [Src.at] at ha
    rw [← hlen] at ha
    have hv : ∃ q v, kvs[j]? = some (q, v) ∧ VR k s.heap v x := by
      clear hlen ha hs hd fin nt c
      simp only [Src.items] at hx
      induction rs generalizing j with
      | nil => simp at hx
      | cons r rs ih =>
        cases j with
        | zero => simp at hx; subst hx; exact ⟨_, _, rfl, r⟩
        | succ j => simp at hx; simpa using ih (by simpa using hx)
    obtain ⟨q, v, hv, rv⟩ := hv
    refine wpAny_pyNext_values_item ha hd hv fun h' hit hsb => ?_
    rw [hlen] at hit
    exact fin _ h' s.toks hsb.extBut rv hit
  | rev r xs =>
    obtain ⟨vs, m, hl, rs⟩ := R.listAt (R.obj r _ hs).1 hs
    have hlen := rs.length
    simp only [Src.items] at hx
    have hj : j < xs.length := by have := (List.getElem?_eq_some_iff.mp hx).1; simpa using this
    have hx' : xs[xs.length - 1 - j]? = some x := by rw [List.getElem?_reverse hj] at hx; exact hx
    obtain ⟨v, hv, rv⟩ := rs.get hx'
    simp only [Src.at] at ha
    have e : ((xs.length : Int) - 1 - j) = ((xs.length - 1 - j : Nat) : Int) := by omega
    rw [e] at ha
    refine wpAny_pyNext_rev_item ha hl.isList (by simpa using hv) fun h' hit hsb => ?_
    refine fin v h' s.toks hsb.extBut rv ?_
    simp only [Src.at]
    have e2 : ((xs.length : Int) - 1 - (j + 1 : Nat)) = ((xs.length - 1 - j : Nat) : Int) - 1 := by omega
    rw [e2]; exact hit
  | range m =>
    have hj : j < m := by have := (List.getElem?_eq_some_iff.mp hx).1; simpa [Src.items] using this
    simp [Src.items, hj] at hx
    subst hx
    refine wpAny_pyNext_range_item ha (by omega) fun h' hit hsb => ?_
    refine fin _ h' _ hsb.extBut (.int _ _) ?_
    simp only [Src.at]
    have e1 : ((j + 1 : Nat) : Int) = (j : Int) + 1 := by omega
    have e2 : ((m : Int) - (j + 1 : Nat)) = (m : Int) - j - 1 := by omega
    rw [e2, e1]; exact hit
theorem Src.done (ok : W.Ok) {src : Src} {A : Around} (hA : Room n A) (R : Rel W k s st) (hs : src.ok st) (ha : src.at k s.heap it src.items.length) (hκ : k.κ it = none) (hw : W.h0.get? it = none)
    {P : Option Value → Shared → Prop} (c : ∀ s', Rel W k s' st → Le (· = it) k s.heap k s'.heap → P none s') : wpAny (model W.prog W.w) A (pyNext (.ref it)) P noE s := by
  have nt := Src.noTup ha
  have fin : ∀ (h' : Heap) (tk : Nat), Heap.ExtBut it s.heap h' → P none { s with heap := h', toks := tk } := fun h' tk he => by
    obtain ⟨R', l⟩ := R.but hκ hw nt (h' := h') (tk := tk) fun b o q e => he b o q e
    exact c _ R' l
  cases src with
  | list r xs =>
    obtain ⟨vs, m, hl, rs⟩ := R.listAt (R.obj r _ hs).1 hs
    refine wpAny_pyNext_list_end hA.1 ha hl.isList ?_ fun h' he => fin h' s.toks he
    simp only [Src.items]
    rw [← rs.length]; simp
  | dict r es ep =>
    obtain ⟨kvs, hd, rs⟩ := R.dictAt (R.obj r _ hs).1 hs
    have hlen := rs.length
    simp only [Src.at] at ha
    simp only [Src.items, List.length_map, ← hlen] at ha
    exact wpAny_pyNext_dict_end hA.1 ha hd (by simp) fun h' he => fin h' s.toks he
  | vals r es ep =>
    obtain ⟨kvs, hd, rs⟩ := R.dictAt (R.obj r _ hs).1 hs
    have hlen := rs.length
    simp only [Src.at] at ha
    simp only [Src.items, List.length_map, ← hlen] at ha
    exact wpAny_pyNext_values_end hA.1 ha hd (by simp) fun h' he => fin h' s.toks he
  | rev r xs =>
    simp only [Src.at] at ha
    simp only [Src.items, List.length_reverse] at ha
    rw [show ((xs.length : Int) - 1 - xs.length) = -1 by omega] at ha
    exact wpAny_pyNext_rev_end hA.1 ha fun h' he => fin h' s.toks he
  | range m =>
    simp only [Src.at] at ha
    simp only [Src.items, List.length_map, List.length_range] at ha
    exact wpAny_pyNext_range_end hA.1 ha (by omega) fun h' he => fin h' s.toks he

/-! ## frames over a changed iterator -/
theorem LocR.live {h : Heap} (L : LocR W k env h ρ) {a : Addr} (p : own env a) : ∃ o, h.get? a = some o := by
  rcases p with rfl | ⟨x, hx, hc⟩
  · obtain ⟨m, ⟨o, es, ep, ho, hd, _⟩, _⟩ := L.ns; exact ⟨o, ho⟩
  · obtain ⟨c, o, hc', ⟨ob, ho, hd⟩, _⟩ := L.cel x hx
    rw [hc] at hc'; cases hc'
    exact ⟨ob, ho⟩
theorem LocR.leP {P : Addr → Prop} {h h' : Heap} (L : LocR W k env h ρ) (hl : Le P k h k' h') (nt : NoTup P h) (hP : ∀ a, own env a → ¬ P a) : LocR W k' env h' ρ where
  ok := L.ok
  new := fun a p => ⟨(L.new a p).1, by
    obtain ⟨o, ho⟩ := L.live p
    exact ((hl.rest _ _ ho (L.new _ p).2).resolve_left (hP a p)).1⟩
  ns := by
    obtain ⟨m, ⟨o, es, ep, ho, r⟩, hm⟩ := L.ns
    exact ⟨m, ⟨o, es, ep, ((hl.rest _ _ ho (L.new _ (.inl rfl)).2).resolve_left (hP _ (.inl rfl))).2, r⟩, fun x v hx hv => let ⟨v', e, r⟩ := hm x v hx hv; ⟨v', e, r.mono hl nt⟩⟩
  cel := fun x hx => by
    obtain ⟨c, o, hc, ⟨ob, ho, hd⟩, hv⟩ := L.cel x hx
    exact ⟨c, o, hc, ⟨ob, ((hl.rest _ _ ho (L.new _ (.inr ⟨x, hx, hc⟩)).2).resolve_left (hP _ (.inr ⟨x, hx, hc⟩))).2, hd⟩, fun v e => let ⟨v', e, r⟩ := hv v e; ⟨v', e, r.mono hl nt⟩⟩
  apart := L.apart

/-! ## the head of a loop -/
inductive PI (W : Wd) (k : Kp) (h : Heap) (QI : Src → St → Prop) (i : Value) (s₂ : Shared) : Prop
  | mk (a : Addr) (k' : Kp) (src : Src) (st' : St) (hi : i = .ref a) (R : Rel W k' s₂ st') (l : Le nob k h k' s₂.heap) (hf : h.get? a = none) (hκ : k'.κ a = none) (hok : src.ok st') (hat : src.at k' s₂.heap a 0) (q : QI src st')
inductive PFor (W : Wd) (k : Kp) (h : Heap) (env : Env) (src : Src) (a : Addr) (I : Nat → Loc → St → Prop) (m : Nat) (s' : Shared) : Prop
  | mk (j : Nat) (k' : Kp) (ρ' : Loc) (st' : St) (hm : m = src.items.length + 1 - j) (hj : j ≤ src.items.length) (R : Rel W k' s' st') (l : Le (own env) k h k' s'.heap) (L : LocR W k' env s'.heap ρ') (hκ : k'.κ a = none) (hat : src.at k' s'.heap a j) (hI : I j ρ' st')
noncomputable def TI (W : Wd) (n : Nat) (e : Expr) (env : Env) (ρ : Loc) (QI : Src → St → Prop) (st : St) : Prop :=
  ∀ A s k, Room n A → Rel W k s st → LocR W k env s.heap ρ → wpAny (model W.prog W.w) A (eval e env) (fun v s₁ => wpAny (model W.prog W.w) A (pyIter v) (PI W k s.heap QI) noE s₁) noE s
variable {QI : Src → St → Prop}
theorem fresh_of_le {h h' : Heap} {P : Addr → Prop} {a : Addr} (l : Le P k h k' h') (hn : h'.get? a = none) (hP : ¬ P a) (hκ : k'.κ a = none) : h.get? a = none := by
  cases q : h.get? a with
  | none => rfl
  | some o =>
    cases q' : k.κ a with
    | some x => rw [l.map _ _ q'] at hκ; cases hκ
    | none => rw [((l.rest a o q q').resolve_left hP).2] at hn; cases hn
theorem TI.push (ok : W.Ok) {A : Around} {s₁ : Shared} {k₁ : Kp} {st₁ : St} (R₁ : Rel W k₁ s₁ st₁) (l₁ : Le nob k s.heap k₁ s₁.heap) {o : Obj} {tk : Nat} {src : Src} (hs : src.ok st₁) (ha : src.at k₁ (s₁.heap.push o) s₁.heap.objs.size 0) (q : QI src st₁) :
    PI W k s.heap QI (.ref s₁.heap.objs.size) { s₁ with heap := s₁.heap.push o, toks := tk } := by
  obtain ⟨R', l⟩ := R₁.push o (tk := tk)
  exact ⟨_, k₁, src, st₁, rfl, R', l₁.trans l, fresh_of_le l₁ fresh_none id R₁.freshκ, R₁.freshκ, hs, ha, q⟩
theorem ti_list (ok : W.Ok) {e : Expr} (h : TE W n e env ρ (fun v st' => ∃ r xs, v = .ref r ∧ st' r = some (.list xs) ∧ QI (.list r xs) st') st) : TI W n e env ρ QI st := by
  intro A s k hA R L
  refine h.run hA R L fun v s₁ k₁ x st₁ R₁ L₁ l₁ rv g => ?_
  obtain ⟨r, xs, rfl, hr, q⟩ := g
  obtain ⟨a, rfl, e⟩ := rv.ref_inv
  obtain ⟨vs, m, hl, rs⟩ := R₁.listAt e hr
  refine wpAny_pyIter_list hl.isList ?_
  exact TI.push ok (A := A) (tk := s₁.toks) R₁ l₁ (src := .list r xs) hr ⟨_, Heap.get?_push_size _ rfl, rfl, by rw [R₁.addr e]; rfl⟩ q
theorem ti_dict (ok : W.Ok) {e : Expr} (h : TE W n e env ρ (fun v st' => ∃ r es ep, v = .ref r ∧ st' r = some (.dict es ep) ∧ QI (.dict r es ep) st') st) : TI W n e env ρ QI st := by
  intro A s k hA R L
  refine h.run hA R L fun v s₁ k₁ x st₁ R₁ L₁ l₁ rv g => ?_
  obtain ⟨r, es, ep, rfl, hr, q⟩ := g
  obtain ⟨a, rfl, e⟩ := rv.ref_inv
  obtain ⟨kvs, hd, rs⟩ := R₁.dictAt e hr
  refine wpAny_pyIter_dict (knd := knd W.prog W.w) (R₁.notSys ok e) hd ?_
  exact TI.push ok (A := A) (tk := s₁.toks) R₁ l₁ (src := .dict r es ep) hr ⟨_, Heap.get?_push_size _ rfl, rfl, by rw [R₁.addr e, rs.length]; rfl⟩ q

/-! ## for -/
variable {Q : Fl → Loc → St → Prop}
theorem tx_for (ok : W.Ok) {x : Str} {px pos : Pos} {iter : Expr} {body : List Stmt} (hk : env.kindOf x = some .local ∨ env.kindOf x = some .cell)
    (h : TI W n iter env ρ (fun src st₁ => ∃ I : Nat → Loc → St → Prop, I 0 ρ st₁ ∧
      (∀ j ρ' st' v, I j ρ' st' → src.items[j]? = some v → src.ok st' ∧ TXs W n body env (ρ'.upd x v) (KLp (I (j + 1)) Q) st') ∧
      (∀ ρ' st', I src.items.length ρ' st' → src.ok st' ∧ Q .next ρ' st')) st)
    (hs : ∀ x, foldedSetIterable iter env x = pure x := by intro _; rfl) : TX W n (.For (.Name x px) iter body [] pos) env ρ Q st := by
  intro A s k hA R L
  refine wpAny_For (wpAny_mono (h A s k hA R L) (fun v s₁ h₁ => wpAny_mono h₁ (fun i s₂ h₂ => ?_) fun _ _ f => f.elim) fun _ _ f => f.elim) hs
  obtain ⟨a, k₂, src, st₂, rfl, R₂, l₂, hfr, hκ, hok, hat, I, h0, turn, fin⟩ := h₂
  have hw : W.h0.get? a = none := by
    cases q : W.h0.get? a with
    | none => rfl
    | some o => rw [R.keep _ _ q] at hfr; cases hfr
  have hown : ∀ b, own env b → ¬ b = a := fun b hb q => by
    obtain ⟨o, ho⟩ := L.live hb
    rw [q, hfr] at ho; cases ho
  refine codeAny_forLoop (PFor W k s.heap env src a I) ?_ (src.items.length + 1)
    ⟨0, k₂, ρ, st₂, rfl, Nat.zero_le _, R₂, l₂.weak, L.le l₂, hκ, hat, h0⟩
  rintro m s' ⟨j, k', ρ', st', rfl, hj, R', l', L', hκ', hat', hI⟩
  have toS : ∀ {k'' : Kp} {h'' : Heap}, Le (· = a) k' s'.heap k'' h'' → Le (own env) k s.heap k'' h'' := fun {k'' h''} l => ⟨fun b x e => l.map b x (l'.map b x e), fun b o e nn => by
    rcases l'.rest b o e nn with p | p
    · exact .inl p
    · rcases l.rest b o p.2 p.1 with q | q
      · rw [q, hfr] at e; cases e
      · exact .inr q⟩
  by_cases hlt : j < src.items.length
  · have hx : src.items[j]? = some src.items[j] := List.getElem?_eq_getElem hlt
    obtain ⟨hok', body'⟩ := turn j ρ' st' _ hI hx
    refine wpAny_mono (Src.next ok hA R' hok' hat' hκ' hw hx fun v s₃ R₃ l₃ rv hat₃ => ?_) (fun r s₃ p => p) fun _ _ f => f.elim
    have L₃ : LocR W k' env s₃.heap ρ' := L'.leP l₃ (Src.noTup hat') hown
    refine wpAny_assign_Name (wpAny_mono (store hk R₃ L₃ rv fun s₄ R₄ L₄ l₄ => ?_) (fun _ _ p => p) fun _ _ f => f.elim)
    refine wpAny_mono (body' A s₄ k' hA R₄ L₄) (fun f s₅ ⟨k₅, fl, ρ₅, st₅, R₅, l₅, L₅, r, q⟩ => ?_) fun _ _ f => f.elim
    have l45 : Le (own env) k' s₃.heap k₅ s₅.heap := l₄.trans l₅
    have lall : Le (own env) k s.heap k₅ s₅.heap := (toS l₃).trans l45
    cases r with
    | ret r => exact ⟨k₅, _, ρ₅, st₅, R₅, lall, L₅, .ret r, q⟩
    | next =>
      obtain ⟨ob, hob, _⟩ := Src.live hat₃
      have hkeep := (l45.rest a ob hob hκ').resolve_left fun p => hown a p rfl
      refine ⟨src.items.length + 1 - (j + 1), by omega, j + 1, k₅, ρ₅, st₅, rfl, hlt, R₅, lall, L₅, hkeep.1, ?_, q⟩
      exact Src.le R₃ hok' l45.map R₅ hat₃ fun o e => by rw [hob] at e; cases e; exact hkeep.2
  · have hj' : j = src.items.length := by omega
    subst hj'
    obtain ⟨hok', q⟩ := fin ρ' st' hI
    refine wpAny_mono (Src.done ok hA R' hok' hat' hκ' hw fun s₃ R₃ l₃ => ?_) (fun r s₃ p => p) fun _ _ f => f.elim
    exact wpAny_execs_nil ⟨k', _, ρ', st', R₃, toS l₃, L'.leP l₃ (Src.noTup hat') hown, .next, q⟩
end
end
section
set_option linter.unusedVariables false

/-! ## comprehensions -/
noncomputable def relabel2 (scope o : Scope) : Scope :=
  { scope with names := scope.names.map fun (n, k) => if (k == .free && o.kind == .function && o.names.lookup n == some .cell) then (n, .cell) else (n, k) }
theorem relabel_eq {scope : Scope} {env : Env} : relabel scope env = relabel2 scope env.scope := rfl
theorem lookup_relabel2 {o : Scope} : ∀ {names : List (Str × NameKind)} {x : Str},
    (names.map fun (n, k) => if (k == NameKind.free && o.kind == .function && o.names.lookup n == some .cell) then (n, NameKind.cell) else (n, k)).lookup x =
      (names.lookup x).map fun k => if (k == NameKind.free && o.kind == .function && o.names.lookup x == some .cell) then NameKind.cell else k
  | [], _ => rfl
  | (n, k) :: r, x => by
    have ih := @lookup_relabel2 o r x
    by_cases h : x = n
    · subst h
      simp only [List.map_cons]
      split <;> simp_all
    · have hx : (x == n) = false := by simpa using h
      simp only [List.map_cons, List.lookup_cons, hx]
      rw [← ih]
      split <;> simp [List.lookup_cons, hx]

theorem closure_ok {env : Env} : ∀ {names : List (Str × NameKind)} (acc : List (Str × Addr)), (∀ y, (y, NameKind.free) ∈ names → ∃ c, env.cells.lookup y = some c) → (∀ y c, acc.lookup y = some c → env.cells.lookup y = some c) →
    ∃ cl, (forIn names acc fun (p : Str × NameKind) (cs : List (Str × Addr)) => (if (p.2 == NameKind.free) = true then (do let a ← cellOf env p.1; pure (ForInStep.yield ((p.1, a) :: cs))) else pure (ForInStep.yield cs) : Sem _)) = (pure cl : Sem _) ∧
      (∀ y c, cl.lookup y = some c → env.cells.lookup y = some c) ∧ (∀ y, (y, NameKind.free) ∈ names ∨ (acc.lookup y).isSome = true → (cl.lookup y).isSome = true)
  | [], acc, _, h2 => ⟨acc, rfl, h2, fun y h => h.elim (fun h => by cases h) id⟩
  | (n, k) :: r, acc, h1, h2 => by
    by_cases hk : k = .free
    · subst hk
      obtain ⟨c, hc⟩ := h1 n List.mem_cons_self
      obtain ⟨cl, e, a, b⟩ := closure_ok (names := r) ((n, c) :: acc) (fun y hy => h1 y (List.mem_cons_of_mem _ hy)) fun y c' hy => by
        by_cases q : y = n
        · subst q; simp at hy; subst hy; exact hc
        · have q' : (y == n) = false := by simpa using q
          simp only [List.lookup_cons, q'] at hy
          exact h2 y c' hy
      refine ⟨cl, ?_, a, fun y hy => b y ?_⟩
      · rw [List.forIn_cons]
        simp only [beq_self_eq_true, if_true, cellOf, hc, pure_bind]
        exact e
      · rcases hy with hy | hy
        · rcases List.mem_cons.mp hy with hy | hy
          · cases hy; right; simp
          · exact .inl hy
        · right
          by_cases q : y = n
          · subst q; simp
          · have q' : (y == n) = false := by simpa using q
            simp only [List.lookup_cons, q']; exact hy
    · have hb : (k == NameKind.free) = false := by simpa using hk
      obtain ⟨cl, e, a, b⟩ := closure_ok (names := r) acc (fun y hy => h1 y (List.mem_cons_of_mem _ hy)) h2
      refine ⟨cl, ?_, a, fun y hy => b y (hy.imp_left fun hy => ?_)⟩
      · rw [List.forIn_cons]
        simp only [hb, Bool.false_eq_true, if_false, pure_bind]
        exact e
      · rcases List.mem_cons.mp hy with hy | hy
        · cases hy; exact absurd rfl hk
        · exact hy

/-- the names of a comprehension's own frame -/
noncomputable def compρ (scope : Scope) (ρ : Loc) : Loc := fun y => if scope.names.lookup y = some .free then ρ y else none
theorem compρ_free {scope : Scope} {ρ : Loc} {x y : Str} {v : V} {w : Option V} (h : scope.names.lookup y = some .free) (hx : y ≠ x) (e : ρ y = w) : (compρ scope ρ).upd x v y = w := by
  rw [Loc.upd_ne hx]; unfold compρ; rw [if_pos h]; exact e

section
variable {W : Wd} {n : Nat} {env : Env} {ρ : Loc} {st : St} {Q : V → St → Prop}

/-- the tests of a comprehension -/
noncomputable abbrev TF (W : Wd) (n : Nat) (ifs : List Expr) (env : Env) (ρ : Loc) (Q : Bool → St → Prop) (st : St) : Prop :=
  T W n REq (forIn ifs true fun c r => if r = true then do let ok ← isTrue c env (eval c env); pure (ForInStep.yield ok) else pure (ForInStep.yield r)) env ρ Q st
variable {QB : Bool → St → Prop}
theorem tf_nil (q : QB true st) : TF W n [] env ρ QB st := fun A s k hA R L => wpAny_tests_nil ⟨k, _, st, R, .refl, rfl, q⟩
theorem tf_one {c : Expr} (h : TB W n c env ρ QB st) : TF W n [c] env ρ QB st := fun A s k hA R L => wpAny_tests_one (h A s k hA R L)

structure CompOk (scope : Scope) (x : Str) (env : Env) : Prop where
  cell : ∀ y ∈ scope.names, y.2 ≠ .cell
  kind : scope.kind = .function
  names : ∀ y ∈ scope.names, y.2 = .local → scope.names.lookup y.1 = some .local
  var : scope.names.lookup x = some .local
  free : ∀ y, (y, NameKind.free) ∈ scope.names → env.kindOf y = some .cell
noncomputable def compOkB (scope : Scope) (x : Str) (o : Scope) : Bool :=
  (scope.names.all fun y => y.2 != .cell && (y.2 != .local || scope.names.lookup y.1 == some .local) && (y.2 != .free || o.names.lookup y.1 == some .cell)) && scope.kind == .function && scope.names.lookup x == some .local
theorem CompOk.of {scope o : Scope} {x : Str} {env : Env} (henv : env.scope = o) (h : compOkB scope x o = true) : CompOk scope x env := by
  unfold compOkB at h
  simp only [Bool.and_eq_true, List.all_eq_true, bne_iff_ne, beq_iff_eq, Bool.or_eq_true] at h
  obtain ⟨⟨h1, h2⟩, h3⟩ := h
  refine ⟨fun y hy => (h1 y hy).1.1, h2, fun y hy hl => ((h1 y hy).1.2).resolve_left fun q => q hl, h3, fun y hy => ?_⟩
  show env.scope.names.lookup y = _
  rw [henv]
  exact ((h1 _ hy).2).resolve_left fun q => q rfl

theorem LocR.comp {k : Kp} {s : Shared} {scope : Scope} {x : Str} {cl : List (Str × Addr)} {C : Addr} (L : LocR W k env s.heap ρ) (ok : CompOk scope x env)
    (c1 : ∀ y c, cl.lookup y = some c → env.cells.lookup y = some c) (c2 : ∀ y, (y, NameKind.free) ∈ scope.names → (cl.lookup y).isSome = true) {m : Str → Option Value} (hn : s.heap.Ns C m) (hC : W.h0.get? C = none ∧ k.κ C = none)
    {ρ' : Loc} (hl : ∀ y v, scope.names.lookup y = some .local → ρ' y = some v → ∃ v', m y = some v' ∧ VR k s.heap v' v) (hf : ∀ y v, scope.names.lookup y = some .free → ρ' y = some v → ρ y = some v) :
    LocR W k (compEnvC scope cl C env) s.heap ρ' := by
  have hkind : ∀ y, (compEnvC scope cl C env).kindOf y = (scope.names.lookup y).map fun k => if (k == NameKind.free && env.scope.kind == .function && env.scope.names.lookup y == some .cell) then NameKind.cell else k := fun y => by
    show (relabel scope env).names.lookup y = _
    rw [relabel_eq]; exact lookup_relabel2
  have hcell : ∀ y, (compEnvC scope cl C env).kindOf y = some .cell → scope.names.lookup y = some .free ∧ env.kindOf y = some .cell := fun y hy => by
    rw [hkind] at hy
    cases q : scope.names.lookup y with
    | none => rw [q] at hy; cases hy
    | some kd =>
      have hm := mem_of_lookup q
      have hnc := ok.cell _ hm
      by_cases hk : kd = .free
      · subst hk; exact ⟨rfl, ok.free _ hm⟩
      · have hb : (kd == NameKind.free) = false := by simpa using hk
        rw [q] at hy
        simp only [Option.map_some, hb, Bool.false_and, Bool.false_eq_true, if_false, Option.some.injEq] at hy
        exact absurd hy hnc
  exact {
    ok := ⟨ok.kind, L.ok.gl, L.ok.bi⟩
    new := fun a p => by
      rcases p with rfl | ⟨y, hy, hc⟩
      · exact hC
      · exact L.new a (.inr ⟨y, (hcell y hy).2, c1 y a hc⟩)
    ns := ⟨m, hn, fun y v hy hv => by
      rw [hkind] at hy
      cases q : scope.names.lookup y with
      | none => rw [q] at hy; cases hy
      | some kd =>
        rw [q] at hy
        simp only [Option.map_some, Option.some.injEq] at hy
        split at hy
        · cases hy
        · subst hy; exact hl y v q hv⟩
    cel := fun y hy => by
      obtain ⟨q1, q2⟩ := hcell y hy
      obtain ⟨c, o, hc, hi, hv⟩ := L.cel y q2
      obtain ⟨c', hc'⟩ := Option.isSome_iff_exists.mp (c2 y (mem_of_lookup q1))
      have := c1 _ _ hc'
      rw [hc] at this; cases this
      exact ⟨c, o, hc', hi, fun v e => hv v (hf y v q1 e)⟩
    apart := fun y z c hy hz => L.apart y z c (c1 _ _ hy) (c1 _ _ hz) }

theorem Le.or {P P' : Addr → Prop} {k k' k'' : Kp} {h h' h'' : Heap} (x : Le P k h k' h') (y : Le P' k' h' k'' h'') (hP : ∀ a o, h.get? a = some o → P' a → P a) : Le P k h k'' h'' :=
  ⟨fun a z e => y.map a z (x.map a z e), fun a o e n => (x.rest a o e n).elim .inl fun p => (y.rest a o p.2 p.1).imp_left (hP a o e)⟩
theorem Le.to {P P' : Addr → Prop} {k k' : Kp} {h h' : Heap} (x : Le P k h k' h') (hP : ∀ a o, h.get? a = some o → P a → P' a) : Le P' k h k' h' := ⟨x.map, fun a o e n => (x.rest a o e n).imp_left (hP a o e)⟩

theorem Src.self {src : Src} {A : Around} {s : Shared} {k : Kp} {it : Addr} {j : Nat} (ha : src.at k s.heap it j) {P E : Value → Shared → Prop} (h : P (.ref it) s) : wpAny (model W.prog W.w) A (pyIter (.ref it)) P E s := by
  cases src with
  | list r xs => exact wpAny_pyIter_listiter ha h
  | dict r es ep => exact wpAny_pyIter_keyiter ha h
  | vals r es ep => exact wpAny_pyIter_valiter ha h
  | rev r xs => exact wpAny_pyIter_revIter ha h
  | range m => exact wpAny_pyIter_rangeiter ha h

inductive PComp (W : Wd) (k₂ : Kp) (h : Heap) (st₁ : St) (it C D : Addr) (src : Src) (zs : List (V × Option V)) (m : Nat) (s' : Shared) : Prop
  | mk (j : Nat) (k' : Kp) (mm : Str → Option Value) (vs : List Value) (num : Nat) (hm : m = zs.length + 1 - j) (hj : j ≤ zs.length) (R : Rel W k' s' st₁) (l : Le (· = it) k₂ h k' s'.heap) (hn : s'.heap.Ns C mm) (hl : IsL s'.heap D vs.toArray num)
      (rs : VRs k' s'.heap vs ((zs.take j).filterMap (·.2))) (hC : k'.κ C = none) (hD : k'.κ D = none) (hi : k'.κ it = none) (hat : src.at k' s'.heap it j)
theorem comp_core (ok : W.Ok) {elt iter : Expr} {x : Str} {px : Pos} {ifs : List Expr} {scope : Scope} {pos : Pos} {A : Around} {s₂ : Shared} {k₂ : Kp} {st₁ : St} {it : Addr} {src : Src} {cl : List (Str × Addr)} (hA : Room n A)
    (cok : CompOk scope x env) (c1 : ∀ y c, cl.lookup y = some c → env.cells.lookup y = some c) (c2 : ∀ y, (y, NameKind.free) ∈ scope.names → (cl.lookup y).isSome = true)
    (R₂ : Rel W k₂ s₂ st₁) (L₂ : LocR W k₂ env s₂.heap ρ) (hκ : k₂.κ it = none) (hown : ∀ b, own env b → ¬ b = it) (hw : W.h0.get? it = none) (hok : src.ok st₁) (hat : src.at k₂ s₂.heap it 0)
    (hz : src.items.length ≤ 16777216) {zs : List (V × Option V)} (hzs : src.items = zs.map (·.1))
    (turn : ∀ z ∈ zs, ∀ cenv : Env, cenv.scope = relabel2 scope env.scope → TF W n ifs cenv ((compρ scope ρ).upd x z.1) (fun b st' => st' = st₁ ∧ b = z.2.isSome ∧ ∀ y, z.2 = some y → TE W n elt cenv ((compρ scope ρ).upd x z.1) (fun y' st'' => st'' = st₁ ∧ y' = y) st₁) st₁)
    {RR : Value → Addr → Result → Shared → Prop}
    (fin : ∀ s' k' C D m vs num, Rel W k' s' st₁ → Le (· = it) k₂ s₂.heap k' s'.heap → s'.heap.Ns C m → IsL s'.heap D vs.toArray num → VRs k' s'.heap vs (zs.filterMap (·.2)) → k'.κ C = none → k'.κ D = none → C ≠ D →
      s₂.heap.get? C = none → s₂.heap.get? D = none → W.h0.get? C = none ∧ 3 < C → W.h0.get? D = none ∧ 3 < D → RR (.ref D) C (.ok .next) s') :
    wpAny (model W.prog W.w) A (newList []) (fun acc s₃ => wpAny (model W.prog W.w) A (newFunctionEnv scope env.globals cl [] env.qual none .none (some env)) (fun cenv s₄ =>
      codeAny (model W.prog W.w) A (.compStart (.ListComp elt [⟨.Name x px, iter, ifs, 0⟩] scope pos) 0 (.ref it) acc { cenv with scope := relabel scope env }) (RR acc cenv.locals) s₄) noE s₃) noE s₂ := by
  refine wpAny_newObj_type (wpAny_newFunctionEnv cok.cell (by intro y hy; simp at hy) (fun h₁ hns₁ hsb₁ => ?_) cok.kind)
  dsimp only at hns₁ hsb₁ ⊢
  generalize hH2 : s₂.heap.push { cls := .type "list", dict := none, data := .seq ([] : List Value).toArray } = H2 at hns₁ hsb₁ ⊢
  have hCs : H2.objs.size = s₂.heap.objs.size + 1 := by rw [← hH2, Heap.size_push]
  generalize hC : H2.objs.size = C at hns₁ hsb₁ hCs ⊢
  generalize hD : s₂.heap.objs.size = D at hCs ⊢
  have hDC : C ≠ D := by omega
  have hDn : s₂.heap.get? D = none := fresh_ge (by omega)
  have hCn : s₂.heap.get? C = none := fresh_ge (by omega)
  have hDlo := R₂.lo ok (a := D) (by omega)
  have hClo := R₂.lo ok (a := C) (by omega)
  have old : ∀ b o, s₂.heap.get? b = some o → h₁.get? b = some o := fun b o e => by
    have hlt := Heap.lt_size e
    exact hsb₁.extBut b o (Nat.ne_of_lt (hCs ▸ Nat.lt_succ_of_lt (hD ▸ hlt))) (Heap.get?_push_of_some _ (hH2 ▸ Heap.get?_push_of_some _ e))
  have hacc : h₁.PlainList D #[] := ⟨0, hsb₁.extBut _ _ hDC.symm (Heap.get?_push_of_some _ (by rw [← hH2, ← hD]; exact Heap.get?_push_size _ rfl))⟩
  have hnoκ : ∀ a, s₂.heap.get? a = none → k₂.κ a = none := fun a ha => by
    cases q : k₂.κ a with
    | none => rfl
    | some y => obtain ⟨o, ho⟩ := Option.isSome_iff_exists.mp (R₂.new _ _ q).2.2; rw [ha] at ho; cases ho
  obtain ⟨R₁', l₁⟩ := R₂.grow (h' := h₁) (tk := s₂.toks) old
  have hat₁ : src.at k₂ h₁ it 0 := Src.le R₂ hok (fun _ _ e => e) R₁' hat fun o e => old _ _ e
  have e1 : ({ s₂ with heap := h₁, toks := s₂.toks + ([] : List (Str × Value)).length } : Shared) = { s₂ with heap := h₁, toks := s₂.toks } := rfl
  rw [e1]
  generalize hs₄ : ({ s₂ with heap := h₁, toks := s₂.toks } : Shared) = s₄ at R₁' ⊢
  have hh₄ : s₄.heap = h₁ := by rw [← hs₄]
  have loop : codeAny (model W.prog W.w) A (.compLoop (.ListComp elt [⟨.Name x px, iter, ifs, 0⟩] scope pos) 0 (.ref it) (.ref D) (compEnvC scope cl C env)) (RR (.ref D) C) s₄ := by
    refine codeAny_compLoop_tests (PComp W k₂ s₂.heap st₁ it C D src zs) ?_ (zs.length + 1)
      ⟨0, k₂, _, [], 0, rfl, Nat.zero_le _, R₁', ⟨fun _ _ e => e, fun b o e nn => .inr ⟨nn, by rw [hh₄]; exact old b o e⟩⟩, by rw [hh₄]; exact hns₁, by
        obtain ⟨num, hacc⟩ := hacc
        have : IsL h₁ D #[] 0 := hsb₁.extBut _ _ hDC.symm (Heap.get?_push_of_some _ (by rw [← hH2, ← hD]; exact Heap.get?_push_size _ rfl))
        rw [hh₄]; exact this, .nil, hnoκ C hCn, hnoκ D hDn, hκ, by rw [hh₄]; exact hat₁⟩
    rintro m s' ⟨j, k', mm, vs, num, rfl, hj, R', l', hn', hl', rs', hκC, hκD, hκi, hat'⟩
    have hlen : src.items.length = zs.length := by rw [hzs, List.length_map]
    by_cases hlt : j < zs.length
    · have hx : src.items[j]? = some (zs[j]'hlt).1 := by rw [hzs]; simp [hlt]
      generalize hzj : zs[j]'hlt = z at hx
      have hmem : z ∈ zs := hzj ▸ List.getElem_mem hlt
      refine wpAny_mono (Src.next ok hA R' hok hat' hκi hw hx fun v s₃ R₃ l₃ rv hat₃ => ?_) (fun r s₃ p => p) fun _ _ f => f.elim
      have hitC : C ≠ it := fun q => by obtain ⟨o, ho, _⟩ := Src.live hat; rw [← q, hCn] at ho; cases ho
      have hitD : D ≠ it := fun q => by obtain ⟨o, ho, _⟩ := Src.live hat; rw [← q, hDn] at ho; cases ho
      have nt₃ := Src.noTup hat'
      have hn₃ : s₃.heap.Ns C mm := hn'.at' fun o e => ((l₃.rest C o e hκC).resolve_left hitC).2
      have hl₃ : IsL s₃.heap D vs.toArray num := ((l₃.rest D _ hl' hκD).resolve_left hitD).2
      have lo₃ : Le (· = it) k₂ s₂.heap k' s₃.heap := l'.or l₃ fun _ _ _ q => q
      have hxl : (compEnvC scope cl C env).kindOf x = some .local := by
        show (relabel scope env).names.lookup x = _
        rw [relabel_eq]; unfold relabel2; dsimp only; rw [lookup_relabel2, cok.var]; rfl
      refine wpAny_assign_Name (wpAny_storeName_local (E := fun e s' => notedBy (model W.prog W.w) A (compEnvC scope cl C env) (fun e s' => RR (.ref D) C (.error e) s') e s') hxl hn₃ (fun h₄ hn₄ hs₄ => ?_) (by simp [compEnvC, relabel, cok.kind]))
      obtain ⟨R₄, l₄⟩ := R₃.but (it := C) (h' := h₄) (tk := s₃.toks + 1) hκC hClo.1 (fun a vs' n' p e => by
        obtain ⟨o, _, _, ho, hd, _⟩ := hn₃; subst p; rw [ho] at e; cases e; cases hd) fun b o q e => hs₄.extBut b o q e
      have lo₄ : Le (· = it) k₂ s₂.heap k' h₄ := lo₃.or l₄ fun a o e q => by subst q; rw [hCn] at e; cases e
      have rv₄ : VR k' h₄ v z.1 := rv.mono l₄ (fun a vs' n' p e => by obtain ⟨o, _, _, ho, hd, _⟩ := hn₃; subst p; rw [ho] at e; cases e; cases hd)
      have Lout : LocR W k' env h₄ ρ := L₂.leP lo₄ (Src.noTup hat) hown
      have L₄ : LocR W k' (compEnvC scope cl C env) h₄ ((compρ scope ρ).upd x z.1) := LocR.comp (s := { s₃ with heap := h₄, toks := s₃.toks + 1 }) Lout cok c1 c2 hn₄ ⟨hClo.1, hκC⟩ (fun y u hy hu => by
        by_cases q : y = x
        · subst q; rw [Loc.upd_same] at hu; cases hu; exact ⟨v, if_pos rfl, rv₄⟩
        · rw [Loc.upd_ne q] at hu; unfold compρ at hu; rw [if_neg (by rw [hy]; decide)] at hu; cases hu) (fun y u hy hu => by
        by_cases q : y = x
        · subst q; rw [cok.var] at hy; cases hy
        · rw [Loc.upd_ne q] at hu; unfold compρ at hu; rw [if_pos hy] at hu; exact hu)
      have hl₄ : IsL h₄ D vs.toArray num := hs₄.extBut _ _ hDC.symm hl₃
      have rs₄ : VRs k' h₄ vs ((zs.take j).filterMap (·.2)) := (rs'.mono l₃ nt₃).mono l₄ (fun a vs' n' p e => by obtain ⟨o, _, _, ho, hd, _⟩ := hn₃; subst p; rw [ho] at e; cases e; cases hd)
      have hat₄ : src.at k' h₄ it (j + 1) := Src.le R₃ hok (fun _ _ e => e) R₄ hat₃ fun o e => hs₄.extBut _ _ hitC.symm e
      refine wpAny_mono (turn z hmem (compEnvC scope cl C env) rfl A _ k' hA R₄ L₄) (fun b s₅ ⟨k₅, b', st₅, R₅, l₅, eb, est, ebz, hel⟩ => ?_) fun _ _ f => f.elim
      subst est
      have eb : b = b' := eb
      subst eb
      have keep₅ : ∀ a o, h₄.get? a = some o → k'.κ a = none → k₅.κ a = none ∧ s₅.heap.get? a = some o := fun a o e nn => (l₅.rest a o e nn).resolve_left id
      have lo₅ : Le (· = it) k₂ s₂.heap k₅ s₅.heap := lo₄.or l₅ fun _ _ _ q => q.elim
      obtain ⟨oi, hoi, _⟩ := Src.live hat₄
      obtain ⟨oC, _, _, hoC, _⟩ := id hn₄
      have hat₅ : src.at k₅ s₅.heap it (j + 1) := Src.le (s := { s₃ with heap := h₄, toks := s₃.toks + 1 }) R₄ hok l₅.map R₅ hat₄ fun o e => (keep₅ _ _ e hκi).2
      have hn₅ : s₅.heap.Ns C _ := hn₄.at' fun o e => (keep₅ _ _ e hκC).2
      have hl₅ : IsL s₅.heap D vs.toArray num := (keep₅ _ _ hl₄ hκD).2
      have rs₅ := rs₄.le l₅
      have htake : zs.take (j + 1) = zs.take j ++ [z] := by rw [List.take_add_one, List.getElem?_eq_getElem hlt, hzj]; rfl
      cases hz2 : z.2 with
      | none =>
        rw [hz2] at ebz
        rw [ebz, if_neg (show ¬ ((none : Option V).isSome = true) from Bool.false_ne_true)]
        refine ⟨zs.length + 1 - (j + 1), by omega, j + 1, k₅, _, vs, num, rfl, hlt, R₅, lo₅, hn₅, hl₅, ?_, (keep₅ _ _ hoC hκC).1, (keep₅ _ _ hl₄ hκD).1, (keep₅ _ _ hoi hκi).1, hat₅⟩
        rw [htake, List.filterMap_append]
        simpa [hz2] using rs₅
      | some y =>
        rw [hz2] at ebz
        rw [ebz, if_pos (show (some y).isSome = true from rfl)]
        have L₅ : LocR W k₅ (compEnvC scope cl C env) s₅.heap ((compρ scope ρ).upd x z.1) := L₄.le l₅
        refine wpAny_mono (hel y hz2 A s₅ k₅ hA R₅ L₅) (fun yv s₆ ⟨k₆, y', st₆, R₆, l₆, ry, est, ey⟩ => ?_) fun _ _ f => f.elim
        subst est ey
        have keep₆ : ∀ a o, s₅.heap.get? a = some o → k₅.κ a = none → k₆.κ a = none ∧ s₆.heap.get? a = some o := fun a o e nn => (l₆.rest a o e nn).resolve_left id
        have hκD₅ := (keep₅ _ _ hl₄ hκD).1
        have hκC₅ := (keep₅ _ _ hoC hκC).1
        have hκi₅ := (keep₅ _ _ hoi hκi).1
        have hl₆ : IsL s₆.heap D vs.toArray num := (keep₆ _ _ hl₅ hκD₅).2
        have hvl : vs.length ≤ zs.length := by
          rw [rs'.length]
          refine Nat.le_trans (List.length_filterMap_le _ _) ?_
          rw [List.length_take]; omega
        refine wpAny_list_append_plain ⟨num, hl₆⟩ (fun h₇ hl₇ hs₇ => ?_) (by rw [List.size_toArray, sizeLine_eq]; omega)
        obtain ⟨num', hl₇⟩ := hl₇
        have ntD : NoTup (· = D) s₆.heap := fun a vs' n' p e => by subst p; have e : s₆.heap.get? _ = _ := e; rw [hl₆] at e; simp at e
        obtain ⟨R₇, l₇⟩ := R₆.but (it := D) (h' := h₇) (tk := s₆.toks) (keep₆ _ _ hl₅ hκD₅).1 hDlo.1 ntD fun b o q e => hs₇.extBut b o q e
        have lo₆ : Le (· = it) k₂ s₂.heap k₆ s₆.heap := lo₅.or l₆ fun _ _ _ q => q.elim
        have e2 : vs.toArray.push yv = (vs ++ [yv]).toArray := by simp
        rw [e2] at hl₇
        refine ⟨zs.length + 1 - (j + 1), by omega, j + 1, k₆, _, vs ++ [yv], num', rfl, hlt, R₇, lo₆.or l₇ (fun a o e q => by subst q; rw [hDn] at e; cases e), (hn₅.at' fun o e => (keep₆ _ _ e hκC₅).2).sameBut hs₇ hDC, hl₇, ?_,
          (keep₆ _ _ ((keep₅ _ _ hoC hκC).2) hκC₅).1, (keep₆ _ _ hl₅ hκD₅).1, (keep₆ _ _ ((keep₅ _ _ hoi hκi).2) hκi₅).1, ?_⟩
        · rw [htake, List.filterMap_append]
          have : VRs k₆ h₇ (vs ++ [yv]) ((zs.take j).filterMap (·.2) ++ [y']) := VRs.append ((rs₅.le l₆).mono l₇ ntD) (.cons (ry.mono l₇ ntD) .nil)
          simpa [hz2] using this
        · exact Src.le (s := s₅) R₅ hok l₆.map R₇ hat₅ fun o e => hs₇.extBut _ _ hitD.symm (keep₆ _ _ e hκi₅).2
    · have hj' : j = zs.length := by omega
      subst hj'
      rw [← hlen] at hat'
      refine wpAny_mono (Src.done ok hA R' hok hat' hκi hw fun s₃ R₃ l₃ => ?_) (fun r s₃ p => p) fun _ _ f => f.elim
      have hitC : C ≠ it := fun q => by obtain ⟨o, ho, _⟩ := Src.live hat; rw [← q, hCn] at ho; cases ho
      have hitD : D ≠ it := fun q => by obtain ⟨o, ho, _⟩ := Src.live hat; rw [← q, hDn] at ho; cases ho
      rw [List.take_length] at rs'
      exact fin s₃ k' C D mm vs num R₃ (l'.or l₃ fun _ _ _ q => q) (hn'.at' fun o e => ((l₃.rest C o e hκC).resolve_left hitC).2) ((l₃.rest D _ hl' hκD).resolve_left hitD).2 (rs'.mono l₃ (Src.noTup hat')) hκC hκD hDC hCn hDn hClo hDlo
  refine codeAny_compStart_list ?_ ?_
  · exact loop
  · exact Src.self (src := src) (k := k₂) (j := 0) (by rw [hh₄]; exact hat₁) loop

theorem Rel.adoptAny {k k₀ : Kp} {s : Shared} {h₀ : Heap} {st : St} (R : Rel W k s st) (l : Le nob k₀ h₀ k s.heap) {a : Addr} {r : Role} {vs : List Value} {num : Nat} {xs : List V} (hr : st r = none) (hκ : k.κ a = none) (hlo : W.h0.get? a = none ∧ 3 < a)
    (hl : IsL s.heap a vs.toArray num) (rs : VRs k s.heap vs xs) (hn : h₀.get? a = none) :
    Rel W (k.add r a) s (st.set r (.list xs)) ∧ Le nob k₀ h₀ (k.add r a) s.heap ∧ VR (k.add r a) s.heap (.ref a) (.ref r) ∧ Le (· = a) k s.heap (k.add r a) s.heap := by
  have nt : NoTup (· = a) s.heap := fun b vs' n' p e => by subst p; have e : s.heap.get? _ = _ := e; rw [hl] at e; simp at e
  have X := R.adopt (a := a) (r := r) (o' := .list xs) hr hκ hlo (by show (s.heap.get? a).isSome = true; rw [hl]; rfl) (h := { objs := #[] }) (by simp [Heap.get?]) nt (fun la => ⟨vs, num, by rw [Kp.add_ads]; exact hl, rs.mono la nt⟩) ⟨fun _ _ e => e, fun b o e => by simp [Heap.get?] at e⟩
  refine ⟨X.1, ⟨fun b x e => Kp.add_map hκ b x (l.map b x e), fun b o e nn => ?_⟩, X.2.2, Kp.add_le hκ⟩
  obtain ⟨n', e'⟩ := (l.rest b o e nn).resolve_left id
  exact .inr ⟨by rw [Kp.add_ne (fun q => by rw [q, hn] at e; cases e)]; exact n', e'⟩

noncomputable def CompTurn (W : Wd) (n : Nat) (env : Env) (ρ : Loc) (x : Str) (ifs : List Expr) (elt : Expr) (scope : Scope) (st₁ : St) (z : V × Option V) : Prop :=
  ∀ cenv : Env, cenv.scope = relabel2 scope env.scope → TF W n ifs cenv ((compρ scope ρ).upd x z.1) (fun b st' => st' = st₁ ∧ b = z.2.isSome ∧ ∀ y, z.2 = some y → TE W n elt cenv ((compρ scope ρ).upd x z.1) (fun y' st'' => st'' = st₁ ∧ y' = y) st₁) st₁

theorem closure_of {scope : Scope} {x : Str} {k : Kp} {h : Heap} (cok : CompOk scope x env) (L : LocR W k env h ρ) : ∃ cl, closureFor scope env = pure cl ∧ (∀ y c, cl.lookup y = some c → env.cells.lookup y = some c) ∧ (∀ y, (y, NameKind.free) ∈ scope.names → (cl.lookup y).isSome = true) := by
  obtain ⟨cl, e, a, b⟩ := closure_ok (env := env) (names := scope.names) [] (fun y hy => by obtain ⟨c, _, hc, _⟩ := L.cel y (cok.free y hy); exact ⟨c, hc⟩) (fun y c h => by cases h)
  refine ⟨cl, ?_, a, fun y hy => b y (.inl hy)⟩
  unfold closureFor
  refine Eq.trans ?_ e
  exact (bind_pure _)

theorem te_comp (ok : W.Ok) {elt iter : Expr} {x : Str} {px : Pos} {ifs : List Expr} {scope : Scope} {pos : Pos} (r : Role) (cok : CompOk scope x env)
    (h : TI W n iter env ρ (fun src st₁ => src.items.length ≤ 16777216 ∧ ∃ zs : List (V × Option V), src.items = zs.map (·.1) ∧ (∀ z ∈ zs, CompTurn W n env ρ x ifs elt scope st₁ z) ∧ st₁ r = none ∧ Q (.ref r) (st₁.set r (.list (zs.filterMap (·.2))))) st)
    (hs : ∀ x, foldedSetIterable iter env x = pure x := by intro _; rfl) : TE W n (.ListComp elt [⟨.Name x px, iter, ifs, 0⟩] scope pos) env ρ Q st := by
  intro A s k hA R L
  obtain ⟨cl, hcl, c1, c2⟩ := closure_of cok L
  rw [eval_ListComp]
  refine wpAny_comprehension_free (use := none) rfl hs hcl cok.kind cok.names (wpAny_mono (h A s k hA R L) (fun v s₁ h₁ => wpAny_mono h₁ (fun i s₂ h₂ => ?_) fun _ _ f => f.elim) fun _ _ f => f.elim)
  obtain ⟨a, k₂, src, st₂, rfl, R₂, l₂, hfr, hκ, hok, hat, hz, zs, hzs, turn, hr, q⟩ := h₂
  have hw : W.h0.get? a = none := by
    cases q : W.h0.get? a with
    | none => rfl
    | some o => rw [R.keep _ _ q] at hfr; cases hfr
  have hown : ∀ b, own env b → ¬ b = a := fun b hb q => by
    obtain ⟨o, ho⟩ := L.live hb
    rw [q, hfr] at ho; cases ho
  refine comp_core ok hA cok c1 c2 R₂ (L.le l₂) hκ hown hw hok hat hz hzs turn (RR := fun acc C => compPost (model W.prog W.w) A noE none _ acc C) ?_
  intro s' k' C D m vs num R' l' hn hl rs hκC hκD hCD hC hD hClo hDlo
  refine ⟨m, hn, fun h'' hs'' => ?_⟩
  have ntC : NoTup (· = C) s'.heap := fun b vs' n' p e => by
    obtain ⟨o, _, _, ho, hd, _⟩ := hn; subst p; rw [ho] at e; cases e; cases hd
  obtain ⟨R₃, l₃⟩ := R'.but (it := C) (h' := h'') (tk := s'.toks) hκC hClo.1 ntC fun b o q e => hs''.extBut b o q e
  have l₂' : Le (· = a) k₂ s₂.heap k' h'' := l'.or l₃ fun b o e q => by subst q; rw [hC] at e; cases e
  have lall : Le nob k s.heap k' h'' := ((l₂.weak (P := (· = a))).trans l₂').to fun b o e q => by rw [q, hfr] at e; cases e
  have hDs : s.heap.get? D = none := by
    cases q : s.heap.get? D with
    | none => rfl
    | some o =>
      cases q' : k.κ D with
      | some y =>
        have := (R₂.new _ _ (l₂.map _ _ q')).2.2; rw [hD] at this; cases this
      | none =>
        rw [((l₂.rest D o q q').resolve_left id).2] at hD; cases hD
  obtain ⟨R₄, l₄, rv, _⟩ := R₃.adoptAny lall hr hκD hDlo (hs''.extBut _ _ hCD.symm hl) (rs.mono l₃ ntC) hDs
  exact ⟨_, _, _, R₄, l₄, rv, q⟩

variable {QS : Fl → Loc → St → Prop}
theorem tx_name_comp (ok : W.Ok) {elt iter : Expr} {x y : Str} {px py : Pos} {ifs : List Expr} {scope : Scope} {pos spos : Pos} (r : Role) (cok : CompOk scope x env) (hk : env.kindOf y = some .local ∨ env.kindOf y = some .cell)
    (hsw : swapsWith (.ListComp elt [⟨.Name x px, iter, ifs, 0⟩] scope pos) (some (.Name y py)) spos.line env = pure true)
    (h : TI W n iter env ρ (fun src st₁ => src.items.length ≤ 16777216 ∧ ∃ zs : List (V × Option V), src.items = zs.map (·.1) ∧ (∀ z ∈ zs, CompTurn W n env ρ x ifs elt scope st₁ z) ∧ st₁ r = none ∧ QS .next (ρ.upd y (.ref r)) (st₁.set r (.list (zs.filterMap (·.2))))) st)
    (hs : ∀ x, foldedSetIterable iter env x = pure x := by intro _; rfl) : TX W n (.Assign [.Name y py] (.ListComp elt [⟨.Name x px, iter, ifs, 0⟩] scope pos) spos) env ρ QS st := by
  intro A s k hA R L
  obtain ⟨cl, hcl, c1, c2⟩ := closure_of cok L
  rw [exec_Assign_Name_used _ _ _ _ hsw]
  refine wpAny_bind (wpAny_standAt (wpAny_bind ?_))
  show wpAny _ A (do let _ ← comprehension (.ListComp elt [⟨.Name x px, iter, ifs, 0⟩] scope pos) scope env _ (newList []) false (eval iter env) (some (assign (.Name y py) env))) _ _ s
  refine wpAny_bind (wpAny_mono (wpAny_comprehension_free (use := some (assign (.Name y py) env)) (Q := fun _ s' => PS W k s.heap env QS .next s') rfl hs hcl cok.kind cok.names
    (wpAny_mono (h A s k hA R L) (fun v s₁ h₁ => wpAny_mono h₁ (fun i s₂ h₂ => ?_) fun _ _ f => f.elim) fun _ _ f => f.elim)) (fun _ s' hq => wpAny_pure (wpAny_pure hq)) fun _ _ f => f)
  obtain ⟨a, k₂, src, st₂, rfl, R₂, l₂, hfr, hκ, hok, hat, hz, zs, hzs, turn, hr, q⟩ := h₂
  have hw : W.h0.get? a = none := by
    cases q : W.h0.get? a with
    | none => rfl
    | some o => rw [R.keep _ _ q] at hfr; cases hfr
  have hown : ∀ b, own env b → ¬ b = a := fun b hb q => by
    obtain ⟨o, ho⟩ := L.live hb
    rw [q, hfr] at ho; cases ho
  refine comp_core ok hA cok c1 c2 R₂ (L.le l₂) hκ hown hw hok hat hz hzs turn (RR := fun acc C => compPost (model W.prog W.w) A noE (some (assign (.Name y py) env)) _ acc C) ?_
  intro s' k' C D m vs num R' l' hn hl rs hκC hκD hCD hC hD hClo hDlo
  have lall : Le nob k s.heap k' s'.heap := ((l₂.weak (P := (· = a))).trans l').to fun b o e q => by rw [q, hfr] at e; cases e
  have none_s : ∀ b, s₂.heap.get? b = none → s.heap.get? b = none := fun b hb => by
    cases q : s.heap.get? b with
    | none => rfl
    | some o =>
      cases q' : k.κ b with
      | some y =>
        have := (R₂.new _ _ (l₂.map _ _ q')).2.2; rw [hb] at this; cases this
      | none =>
        rw [((l₂.rest b o q q').resolve_left id).2] at hb; cases hb
  obtain ⟨R₄, l₄, rv, la⟩ := R'.adoptAny lall hr hκD hDlo hl rs (none_s D hD)
  have L₄ := L.le l₄
  have hCκ : (k'.add r D).κ C = none := by rw [Kp.add_ne hCD]; exact hκC
  have hCown : ¬ own env C := fun p => by obtain ⟨o, ho⟩ := L.live p; rw [none_s C hC] at ho; cases ho
  refine wpAny_assign_Name (store hk R₄ L₄ rv fun s₅ R₅ L₅ l₅ => ?_)
  have hn₅ : s₅.heap.Ns C m := hn.at' fun o e => ((l₅.rest C o e hCκ).resolve_left hCown).2
  refine ⟨m, hn₅, fun h'' hs'' => ?_⟩
  have ntC : NoTup (· = C) s₅.heap := fun b vs' n' p e => by
    obtain ⟨o, _, _, ho, hd, _⟩ := hn₅; subst p; rw [ho] at e; cases e; cases hd
  obtain ⟨R₆, l₆⟩ := R₅.but (it := C) (h' := h'') (tk := s₅.toks) hCκ hClo.1 ntC fun b o q e => hs''.extBut b o q e
  refine ⟨_, .next, _, _, R₆, ((l₄.weak.trans l₅).or l₆ fun b o e p => by subst p; rw [none_s _ hC] at e; cases e), L₅.leP l₆ ntC fun b hb p => hCown (p ▸ hb), .next, q⟩

/-! ### views, reversed lists, ranges -/
variable {QI : Src → St → Prop}
theorem slot_dict_values' : Slot "dict" "values" "dict.values" := PySem.F.slot_dict_values
theorem ti_vals (ok : W.Ok) {o : Expr} {ap pos : Pos} (h : TE W n o env ρ (fun ov st' => ∃ r es ep, ov = .ref r ∧ st' r = some (.dict es ep) ∧ QI (.vals r es ep) st') st) {pl : Sem Bool}
    (hcall : eval (.Call (.Attribute o "values" ap) [] [] pos) env = (do
      let ov ← eval o env
      standAt ap.atName
      let (f, first) ← holding [ov] (getMethod ov "values" pl)
      callWith pos f first (backTo pos (starEach [] env)) (backToKw pos (keywordEach [] env))) := by k_dflt rfl) : TI W n (.Call (.Attribute o "values" ap) [] [] pos) env ρ QI st := by
  intro A s k hA R L
  refine methodCall_KW (h.run hA R L fun a s₁ k₁ x st₁ R₁ L₁ l₁ ra g => ?_) hcall
  obtain ⟨r, es, ep, rfl, hr, q⟩ := g
  refine isMeth_dict hr PySem.F.slot_dict_values (by show builtinType _ = _; rw [builtinType_eq_fast]; kernel_rfl) A s₁ k₁ a R₁ ra _ _ _ ?_
  refine with_builtin (QL := fun vs st' => vs = [] ∧ st' = st₁) hA R₁ L₁ (ta_nil ⟨rfl, rfl⟩) (fun vs s₂ k₂ xs st₂ R₂ L₂ l₂ rs g => ?_) trivial rfl
  obtain ⟨rfl, rfl⟩ := g
  cases rs
  obtain ⟨b, rfl, e⟩ := (ra.le l₂).ref_inv
  obtain ⟨kvs, hd, rs⟩ := R₂.dictAt e hr
  refine call_meetsIn PySem.F.slot_dict_values hd.dictOf.typeIs PySem.F.entry_dict_values (PySem.F.args_dict_values_1 _) (meets_dict_values (knd W.prog W.w) b (R₂.notSys ok e)) ⟨⟨kvs, hd.dictOf⟩, ?_⟩
  have hne : b ≠ s₂.heap.objs.size := Nat.ne_of_lt hd.lt_size
  refine wpAny_pyIter_values (knd := knd W.prog W.w) (d := b) (kvs := kvs) (ep := ep) ⟨_, Heap.get?_push_size _ rfl, rfl, rfl⟩ (hd.push _) ?_
  obtain ⟨R₃, l₃⟩ := R₂.push { cls := .type "dict_values", data := .fields #[.ref b] } (tk := s₂.toks)
  exact TI.push ok (A := A) (tk := s₂.toks) R₃ ((l₁.trans l₂).trans l₃) (src := .vals r es ep) hr ⟨_, Heap.get?_push_size _ rfl, rfl, by rw [R₂.addr e, rs.length]; rfl⟩ q

theorem run_bfun {f : Str} {v : Value} {p pos : Pos} {args : List Expr} (ok : W.Ok) (hm : W.mg f = none) (hk : env.kindOf f = some .globalImplicit) (hb : bootBuiltins f = some v) {QL : List V → St → Prop} {A : Around} {s : Shared} {k : Kp} {P : Value → Shared → Prop}
    (hA : Room n A) (R : Rel W k s st) (L : LocR W k env s.heap ρ) (h : TA W n args pos env ρ QL st)
    (c : ∀ vs s₁ k₁ xs st₁, Rel W k₁ s₁ st₁ → LocR W k₁ env s₁.heap ρ → Le nob k s.heap k₁ s₁.heap → VRs k₁ s₁.heap vs xs → QL xs st₁ → wpAny (model W.prog W.w) A (call v vs) P noE s₁)
    (hkeep : keeperOf v = pure .machine := by k_dflt rfl) (hn : f ≠ "__name__" := by decide)
    (hd : (f == ("__debug__" : Str)) = false := by decide) (he : PlainArgs env args := by first | exact trivial | rfl) (hp : (backTo pos (starEach args env)).any (·.1) = false := by k_dflt rfl) :
    wpAny (model W.prog W.w) A (eval (.Call (.Name f p) args [] pos) env) P noE s := by
  refine Call_ (Calls.Name_function_global L.ok.kind hk (Calls.loadGlobal_builtin (by rw [L.ok.gl]; exact ok.g.keeps R.keep) hm (by rw [L.ok.bi]; exact ok.b.keeps R.keep) ((ok.bb f hn).trans hb) ?_) hd)
  have X : wpAny (model W.prog W.w) A (spliced (backTo pos (starEach args env))) (fun vs s₁ => True ∧ wpAny (model W.prog W.w) A (call v ([] ++ vs)) P noE s₁) noE s :=
    T.run h hA R L fun vs s₁ k₁ xs st₁ R₁ L₁ l₁ rs g => ⟨trivial, c vs s₁ k₁ xs st₁ R₁ L₁ l₁ rs g⟩
  refine callWith_of (P := fun _ => True) (by rw [hp]; rfl) (fun h _ => ⟨.machine, .inr (.inl rfl), Looks.of_pure hkeep⟩) ?_
  cases args with
  | nil => exact PyProof.Rows.evalArgs_none (Q := fun a s₁ => True ∧ wpAny (model W.prog W.w) A (call v ([] ++ a.pos) a.kw) P noE s₁) ⟨trivial, fun Γ p hΓ => (X Γ p hΓ).2 Γ p hΓ⟩
  | cons e r =>
    have he : starEach (e :: r) env = (false, eval e env) :: starEach r env := he
    rw [he] at X ⊢
    exact Calls.evalArgs_plain X
theorem ti_rev (ok : W.Ok) {p pos : Pos} {e : Expr} (hm : W.mg "reversed" = none) (hk : env.kindOf "reversed" = some .globalImplicit) (hb : bootBuiltins "reversed" = some (.type "reversed"))
    (h : TA W n [e] pos env ρ (fun vs st' => ∃ r xs, vs = [.ref r] ∧ st' r = some (.list xs) ∧ QI (.rev r xs) st') st) (he : starEach [e] env = (false, eval e env) :: starEach [] env := by k_dflt rfl)
    (hp : (backTo pos (starEach [e] env)).any (·.1) = false := by k_dflt rfl) : TI W n (.Call (.Name "reversed" p) [e] [] pos) env ρ QI st := by
  intro A s k hA R L
  refine run_bfun ok hm hk hb hA R L h (fun vs s₁ k₁ xs st₁ R₁ L₁ l₁ rs g => ?_) (he := he) (hp := hp)
  obtain ⟨r, ys, rfl, hr, q⟩ := g
  obtain ⟨a, rfl, ra⟩ := rs.one
  obtain ⟨b, rfl, e⟩ := ra.ref_inv
  obtain ⟨ws, m, hl, rs'⟩ := R₁.listAt e hr
  refine call_reversed_list hl.isList ?_
  have hgot : (s₁.heap.push (revObj b ((ws.toArray.size : Int) - 1))).IsRevIter s₁.heap.objs.size (k₁.ad r) ((ys.length : Int) - 1 - (0 : Nat)) :=
    ⟨_, Heap.get?_push_size _ rfl, rfl, by rw [R₁.addr e]; simp [revObj, rs'.length]⟩
  refine wpAny_pyIter_revIter hgot ?_
  exact TI.push ok (A := A) (tk := s₁.toks) R₁ l₁ (src := .rev r ys) hr hgot q
theorem ti_range (ok : W.Ok) {p pos : Pos} {e : Expr} {m : Nat} (hz : m < 1000) (hm : W.mg "range" = none) (hk : env.kindOf "range" = some .globalImplicit) (hb : bootBuiltins "range" = some (.type "range"))
    (h : TA W n [e] pos env ρ (fun vs st' => vs = [.int m] ∧ QI (.range m) st') st) (he : starEach [e] env = (false, eval e env) :: starEach [] env := by k_dflt rfl)
    (hp : (backTo pos (starEach [e] env)).any (·.1) = false := by k_dflt rfl) : TI W n (.Call (.Name "range" p) [e] [] pos) env ρ QI st := by
  intro A s k hA R L
  refine run_bfun ok hm hk hb hA R L h (fun vs s₁ k₁ xs st₁ R₁ L₁ l₁ rs g => ?_) (he := he) (hp := hp)
  obtain ⟨rfl, q⟩ := g
  obtain ⟨a, rfl, ra⟩ := rs.one
  obtain ⟨t, rfl⟩ := ra.int_inv
  refine call_range_1 ?_
  have hsz : Builtin.Range.rangeSize 0 (m : Int) 1 = m := by rw [rangeSize_one]; split <;> omega
  refine wpAny_pyIter_range (IsRange.new _ 0 (m : Int) 1 _ _ _) (small_one (by omega) (by omega) (by omega) (by omega)) ?_
  rw [hsz]
  obtain ⟨R₂, l₂⟩ := R₁.push { cls := .type "range", data := .fields #[.int 0 s₁.toks, .int (m : Int) t, .int 1 (s₁.toks + 1)] } (tk := s₁.toks + 1 + 1)
  refine TI.push ok (A := A) (tk := s₁.toks + 1 + 1) R₂ (l₁.trans l₂) (src := .range m) trivial ?_ q
  show IsRangeIter _ _ ((0 : Nat) : Int) ((m : Int) - (0 : Nat)) 1
  rw [show ((m : Int) - (0 : Nat)) = m by omega]
  exact Heap.get?_push_size _ rfl
end
end
section
set_option linter.unusedVariables false

section
variable {W : Wd} {n : Nat} {env : Env} {ρ : Loc} {st : St} {Q : V → St → Prop}

/-! ## new instances -/
/-- a class whose instances are made by object.__new__ and a function __init__ -/
structure ClsNew (W : Wd) (c qual : Str) (params : Arguments) (body : List Stmt) (scope : Scope) : Prop where
  ex : ∃ C fI, W.mg c = some (.ref C) ∧ makesIn W.K C = true ∧ keepIn W.K (.ref C) = true ∧ findIn W.K (.ref C) "__init__" = some (some (.ref fI)) ∧ typeIn W.K (.ref fI) = some (.type "function") ∧
    ∃ oc od osl name doc pm an cdv ct, W.K.lookup fI = some ⟨oc, od, .func (fnOf name qual params body scope .none .none doc pm an cdv ct), osl⟩ ∧ codeIn W.K cdv qual = true

theorem ite_le_one (b : Bool) : (if b = true then 1 else 0) ≤ 1 := by cases b <;> decide
theorem Room.tcall {n : Nat} {A : Around} {args : Args} (h : Room (n + 1) A) : Room n (A.under (.builtin "type.__call__" args)) := by
  have e : (Code.builtin "type.__call__" args).weight = 0 + (if (Code.builtin "type.__call__" args).isCreation then 1 else 0) := rfl
  have hw : (Code.builtin "type.__call__" args).weight ≤ 1 := by rw [e, Nat.zero_add]; exact ite_le_one _
  have e' : (Code.builtin "type.__call__" args).cUnits = 1 := rfl
  have hu : (Code.builtin "type.__call__" args).cUnits ≤ 20 := by rw [e']; exact Nat.le_of_ble_eq_true rfl
  refine ⟨h.1, ?_, ?_⟩
  · show A.depth + (Code.builtin "type.__call__" args).weight + n < 900
    have := h.2.1; omega
  · show A.units + (Code.builtin "type.__call__" args).cUnits + 20 * n + 200 < 9900
    have := h.2.2; omega

theorem te_new (ok : W.Ok) {c qual : Str} {params : Arguments} {body : List Stmt} {scope : Scope} {p pos : Pos} {args : List Expr} (r : Role) {ps : List Str} (hc : ClsNew W c qual params body scope) (hk : env.kindOf c = some .globalImplicit)
    (hps : ps.Nodup) (hkind : (ps.all fun x => scope.names.lookup x == some .local || scope.names.lookup x == some .cell) = true)
    (hsk : scope.kind = .function) (hco : scope.isCoroutine = false) (hgen : scope.isGenerator = false)
    (hbind : ∀ name doc pm an cdv ct ws, ws.length = ps.length → bindArgs (fnOf name qual params body scope .none .none doc pm an cdv ct) ⟨ws, []⟩ = pure (ps.zip ws))
    (h : TA W (n + 2) args pos env ρ (fun vs st' => st' r = none ∧ vs.length + 1 = ps.length ∧ ∀ env' : Env, env'.scope = scope → TXs W n body env' (Loc.ofL (ps.zip (.ref r :: vs))) (fun fl _ st'' => match fl with | .ret v => v = .none ∧ Q (.ref r) st'' | .next => Q (.ref r) st'') (st'.set r (.inst c []))) st)
    (hd : (c == ("__debug__" : Str)) = false := by decide) (he : PlainArgs env args := by first | exact trivial | rfl) (hp : (backTo pos (starEach args env)).any (·.1) = false := by k_dflt rfl) :
    TE W (n + 2) (.Call (.Name c p) args [] pos) env ρ Q st := by
  intro A s k hA R L
  obtain ⟨C, fI, hm, hmk, hkp, hi, hty, oc, od, osl, name, doc, pm, an, cdv, ct, hlk, hcode⟩ := hc.ex
  refine Call_ (Calls.Name_function_global L.ok.kind hk (Calls.loadGlobal_global (by rw [L.ok.gl]; exact ok.g.keeps R.keep) hm ?_) hd)
  have main : ∀ vs s₁ k₁ xs st₁, Rel W k₁ s₁ st₁ → Le nob k s.heap k₁ s₁.heap → VRs k₁ s₁.heap vs xs → (st₁ r = none ∧ xs.length + 1 = ps.length ∧ ∀ env' : Env, env'.scope = scope → TXs W n body env' (Loc.ofL (ps.zip (.ref r :: xs))) (fun fl _ st'' => match fl with | .ret v => v = .none ∧ Q (.ref r) st'' | .next => Q (.ref r) st'') (st₁.set r (.inst c []))) →
      wpAny (model W.prog W.w) A (call (.ref C) ([] ++ vs)) (PG W k s.heap VR Q) noE s₁ := fun vs s₁ k₁ xs st₁ R₁ l₁ rs g => by
    obtain ⟨hr, hlen, g⟩ := g
    have X : W.K.In s₁.heap := ok.frag.keeps R₁.keep
    have hCg := R₁.keep
    obtain ⟨hh, gg, dd, t, os⟩ := s₁
    refine wpAny_call (make_core (makes_of X hmk) (looks_findIn X hi) (fun self => bind_fn X self hty) (.inl rfl) ?_)
    -- the new object and its dict
    have hD : hh.get? hh.objs.size = none := fresh_none
    have hI : hh.get? (hh.objs.size + 1) = none := fresh_ge (Nat.le_succ _)
    have hd1 : ((hh.push emptyDict).push (instObj C hh.objs.size)).get? hh.objs.size = some emptyDict := Heap.get?_push_of_some _ (Heap.get?_push_size _ rfl)
    have hi1 : ((hh.push emptyDict).push (instObj C hh.objs.size)).get? (hh.objs.size + 1) = some (instObj C hh.objs.size) := by
      have := Heap.get?_push_size (hh.push emptyDict) (o := instObj C hh.objs.size) rfl
      rwa [Heap.size_push] at this
    have old : ∀ b o, hh.get? b = some o → ((hh.push emptyDict).push (instObj C hh.objs.size)).get? b = some o := fun b o e => Heap.get?_push_of_some _ (Heap.get?_push_of_some _ e)
    obtain ⟨R₂, l₂⟩ := R₁.grow (h' := (hh.push emptyDict).push (instObj C hh.objs.size)) (tk := t) old
    have nκ : ∀ b, hh.get? b = none → k₁.κ b = none := fun b hb => by
      cases q : k₁.κ b with
      | none => rfl
      | some y => obtain ⟨o, ho⟩ := Option.isSome_iff_exists.mp (R₁.new _ _ q).2.2; rw [show hh.get? b = some o from ho] at hb; cases hb
    have hne : hh.objs.size ≠ hh.objs.size + 1 := Nat.ne_of_lt (Nat.lt_succ_self _)
    have nt : NoTup (fun x => x = hh.objs.size + 1 ∨ x = hh.objs.size) ((hh.push emptyDict).push (instObj C hh.objs.size)) := fun b vs' n' p e => by
      rcases p with rfl | rfl
      · rw [hi1] at e; simp at e
      · rw [hd1] at e; simp [emptyDict] at e
    have AX := R₂.adoptx (a := hh.objs.size + 1) (d := hh.objs.size) (r := r) (o' := .inst c []) hr (nκ _ hI) (nκ _ hD) hne (R₁.lo ok (Nat.le_succ _)) (by show (Heap.get? _ _).isSome = true; rw [hi1]; rfl) (R₁.lo ok (Nat.le_refl _)) (by show (Heap.get? _ _).isSome = true; rw [hd1]; rfl)
      (h := hh) hI hD nt (fun la => ⟨C, fun _ => none, hh.objs.size, #[], 0, hm, by rw [Kp.addx_ads]; exact hi1, Kp.addx_axs.symm, Kp.addx_dict hne, hd1, fun e he => by simp at he, fun _ => rfl, Nat.le_refl _, fun f x e => by simp at e⟩) l₂
    obtain ⟨R₃, l₃, rv⟩ := AX
    have hlen2 : (.ref (hh.objs.size + 1) :: vs : List Value).length = ps.length := by rw [List.length_cons, rs.length]; exact hlen
    have body := at_intro (W := W) (n := n) (Q := fun v st'' => v = .none ∧ Q (.ref r) st'') ok (a := fI) (vs := .ref r :: xs) (ps := ps) (body := body) (fd := fnOf name qual params body scope .none .none doc pm an cdv ct) (ok.frag _ _ hlk) rfl (codeRec_of ok.frag hcode) rfl rfl rfl rfl
      (fun ws hws => hbind _ _ _ _ _ _ ws (by rw [hws, List.length_cons]; exact hlen)) hps hkind hsk hco hgen (st := st₁.set r (.inst c []))
      (fun env' he' => by
        intro A' s' k' hA' R' L'
        refine wpAny_mono (g env' he' A' s' k' hA' R' L') (fun fl s'' ⟨k'', fl', ρ', st', R'', l'', L'', rr, q⟩ => ⟨k'', fl', ρ', st', R'', l'', L'', rr, ?_⟩) fun _ _ f => f
        cases fl' with
        | next => exact ⟨rfl, q⟩
        | ret v => exact q)
    refine codeAny_mono (body (A.under _) _ _ _ (Room.tcall hA) R₃ (.cons rv ((rs.le l₂).mono (Kp.addx_le (nκ _ hI) (nκ _ hD)) nt))) fun res s' p => ?_
    rcases res with e | (_ | _ | _ | v)
    · exact p.elim
    · exact p.elim
    · exact p.elim
    · exact p.elim
    · obtain ⟨k', v', st', R', l', rv', ev, q⟩ := p
      subst ev
      cases rv'.none_inv
      exact ⟨rfl, k', _, st', R', (l₁.trans l₃).trans l', (rv.le l'), q⟩
  have X : wpAny (model W.prog W.w) A (spliced (backTo pos (starEach args env))) (fun vs s₁ => W.K.In s₁.heap ∧ wpAny (model W.prog W.w) A (call (.ref C) ([] ++ vs)) (PG W k s.heap VR Q) noE s₁) noE s :=
    T.run h hA R L fun vs s₁ k₁ xs st₁ R₁ L₁ l₁ rs g => ⟨ok.frag.keeps R₁.keep, main vs s₁ k₁ xs st₁ R₁ l₁ rs g⟩
  refine callWith_of (P := fun h => W.K.In h) (by rw [hp]; rfl) (keeps_K hkp) ?_
  cases args with
  | nil =>
    refine PyProof.Rows.evalArgs_none (Q := fun a s₁ => W.K.In s₁.heap ∧ wpAny (model W.prog W.w) A (call (.ref C) ([] ++ a.pos) a.kw) (PG W k s.heap VR Q) noE s₁) ⟨ok.frag.keeps R.keep, fun Γ p hΓ => (X Γ p hΓ).2 Γ p hΓ⟩
  | cons e r =>
    have he : starEach (e :: r) env = (false, eval e env) :: starEach r env := he
    rw [he] at X ⊢
    exact Calls.evalArgs_plain X
end
end
section
set_option linter.unusedVariables false

/-! ## the pure state -/
inductive Srt where | obj | arr | rf deriving DecidableEq
noncomputable def Srt.str : Srt → Str | .obj => "object" | .arr => "array" | .rf => "ref"
inductive Col where | black | purple | grey | white deriving DecidableEq
noncomputable def Col.str : Col → Str | .black => "black" | .purple => "purple" | .grey => "grey" | .white => "white"
set_option genInjectivity true in
inductive Val where | int (i : Int) | cell (n : Nat) deriving DecidableEq
noncomputable def Val.v : Val → V | .int i => .tup [.str "int", .int i] | .cell n => .tup [.str "cell", .int n]
structure Cel where
  sort : Srt
  count : Int
  slots : List (Int × Val)
  col : Col
  buf : Bool
  weak : Bool
structure S where
  ids : List Nat
  cell : Nat → Cel
  vars : List (Int × Val)
  tab : Nat → List (Int × Val)
  last : Nat
  buffer : List Nat
  bk : Nat
  freed : Nat
  logn : Nat

noncomputable def dmap (es : List (Int × Val)) : List (Int × V) := es.map fun e => (e.1, e.2.v)
theorem dget_dmap (es : List (Int × Val)) (i : Int) : dget (dmap es) i = (dget es i).map Val.v := by
  unfold dget dmap
  induction es with
  | nil => rfl
  | cons e r ih =>
    simp only [List.map_cons, List.find?_cons]
    cases h : decide (e.1 = i)
    · simpa using ih
    · simp
theorem dput_dmap (es : List (Int × Val)) (i : Int) (x : Val) : dput (dmap es) i x.v = dmap (dput es i x) := by
  unfold dput dmap
  have e1 : (es.map fun e => (e.1, e.2.v)).any (fun e => decide (e.1 = i)) = es.any fun e => decide (e.1 = i) := by
    simp [List.any_map, Function.comp_def]
  rw [e1]
  split
  · simp only [List.map_map]
    apply List.map_congr_left
    intro e he
    simp only [Function.comp]
    split <;> rfl
  · simp
theorem ddel_dmap (es : List (Int × Val)) (i : Int) : ddel (dmap es) i = dmap (ddel es i) := by
  unfold ddel dmap
  rw [List.filter_map]; rfl
theorem dmap_length (es : List (Int × Val)) : (dmap es).length = es.length := by simp [dmap]
theorem dmap_keys (es : List (Int × Val)) : (dmap es).map (fun e => V.int e.1) = es.map fun e => .int e.1 := by simp [dmap, Function.comp_def]
theorem dmap_vals (es : List (Int × Val)) : (dmap es).map (·.2) = es.map fun e => e.2.v := by simp [dmap, Function.comp_def]
theorem dput_length {α : Type} (es : List (Int × α)) (i : Int) (x : α) : (dput es i x).length ≤ es.length + 1 := by unfold dput; split <;> simp
theorem ddel_length {α : Type} (es : List (Int × α)) (i : Int) : (ddel es i).length ≤ es.length := List.length_filter_le _ _

/-- the places that hold values by keys -/
inductive Pl where | vars | slots (n : Nat) | ent (i : Nat)
noncomputable def Pl.role : Pl → Role | .vars => .vars | .slots n => .slots n | .ent i => .ent i
noncomputable def Pl.ok (s : S) : Pl → Prop | .vars => True | .slots n => n ∈ s.ids | .ent i => i < 2
noncomputable def S.setCell (s : S) (n : Nat) (c : Cel) : S := { s with cell := fun m => if m = n then c else s.cell m }
noncomputable def S.at (s : S) : Pl → List (Int × Val) | .vars => s.vars | .slots n => (s.cell n).slots | .ent i => s.tab i
noncomputable def S.put (s : S) (p : Pl) (es : List (Int × Val)) : S := match p with
  | .vars => { s with vars := es }
  | .slots n => s.setCell n { s.cell n with slots := es }
  | .ent i => { s with tab := fun j => if j = i then es else s.tab j }

noncomputable abbrev lk (fs : List (Str × V)) (f : Str) : Option V := fs.lookup f
/-- a cell's attributes -/
structure CellF (c : Cel) (n : Nat) (fs : List (Str × V)) : Prop where
  len : fs.length ≤ 20
  sort : lk fs "sort" = some (.str c.sort.str)
  number : lk fs "number" = some (.int n)
  count : lk fs "count" = some (.int c.count)
  slots : lk fs "slots" = some (.ref (.slots n))
  colour : lk fs "colour" = some (.str c.col.str)
  buf : lk fs "is_buffered" = some (.bool c.buf)
  hasD : lk fs "has_destructor" = some (.bool false)
  isD : lk fs "is_destructed" = some (.bool false)
  weak : lk fs "weak" = some (if c.weak then .int n else .none)
  freed : (lk fs "is_freed").isSome = true

structure HeapF (last bk freed : Nat) (fs : List (Str × V)) : Prop where
  len : fs.length ≤ 20
  cells : lk fs "cells" = some (.ref .cells)
  vars : lk fs "vars" = some (.ref .vars)
  log : lk fs "log" = some (.ref .log)
  last : lk fs "last" = some (.int last)
  buffer : lk fs "buffer" = some (.ref (.buf bk))
  freed : lk fs "freed" = some (.int freed)
  tables : lk fs "tables" = some (.ref .tabs)

noncomputable def cellMap (ids : List Nat) : List (Int × V) := ids.map fun (n : Nat) => ((n : Int), V.ref (.cell n))
noncomputable def bufMap (ns : List Nat) : List V := ns.map fun (n : Nat) => V.int n
/-- what the store must hold at a role; the cell x is left out -/
noncomputable def Want (x : Nat) (s : S) (N : Nat) : Role → Option O → Prop
  | .heap, o => ∃ fs, o = some (.inst "Counted" fs) ∧ HeapF s.last s.bk s.freed fs
  | .cells, o => ∃ ep, o = some (.dict (cellMap s.ids) ep)
  | .vars, o => ∃ ep, o = some (.dict (dmap s.vars) ep)
  | .log, o => ∃ xs, o = some (.list xs) ∧ xs.length = s.logn
  | .tabs, o => o = some (.list [.ref (.tab 0), .ref (.tab 1)])
  | .tab i, o => i < 2 → ∃ fs, o = some (.inst "WeakTable" fs) ∧ lk fs "entries" = some (.ref (.ent i))
  | .ent i, o => i < 2 → ∃ ep, o = some (.dict (dmap (s.tab i)) ep)
  | .buf j, o => (j = s.bk → o = some (.list (bufMap s.buffer))) ∧ (s.bk < j → o = none)
  | .cell n, o => (n ∈ s.ids → n ≠ x → ∃ fs, o = some (.inst "Cell" fs) ∧ CellF (s.cell n) n fs) ∧ (s.last < n → o = none)
  | .slots n, o => (n ∈ s.ids → n ≠ x → ∃ ep, o = some (.dict (dmap (s.cell n).slots) ep)) ∧ (s.last < n → o = none)
  | .tmp k, o => N ≤ k → o = none
  | _, _ => True

/-- the store bears the pure state, but for the cell x; from N on the temporaries are new -/
structure RepX (x : Nat) (s : S) (N : Nat) (st : St) : Prop where
  all : ∀ r, Want x s N r (st r)
  range : ∀ n ∈ s.ids, n ≠ 0 ∧ n ≤ s.last
  nodup : s.ids.Nodup
noncomputable abbrev Rep (s : S) (N : Nat) (st : St) : Prop := RepX 0 s N st

/-- what stays: the temporaries below N, the law's own -/
noncomputable def extra (N : Nat) : Role → Bool
  | .tmp k => decide (k < N)
  | .ltabs => true | .lbooks => true | .book _ => true | .given => true
  | _ => false
noncomputable def Keep (N : Nat) (st st' : St) : Prop := ∀ r, extra N r = true → st' r = st r
theorem Keep.refl {N : Nat} {st : St} : Keep N st st := fun _ _ => rfl
theorem extra_le {N M : Nat} {r : Role} (h : N ≤ M) (hr : extra N r = true) : extra M r = true := by
  cases r <;> first | exact hr | exact decide_eq_true (Nat.lt_of_lt_of_le (of_decide_eq_true hr) h)
theorem Keep.trans {N M : Nat} {a b c : St} (x : Keep N a b) (y : Keep M b c) (h : N ≤ M := by first | walk_at "om" | omega) : Keep N a c := fun r hr => (y r (extra_le h hr)).trans (x r hr)
theorem Keep.le {N M : Nat} {a b : St} (x : Keep N a b) (h : M ≤ N := by first | walk_at "om" | omega) : Keep M a b := fun r hr => x r (extra_le h hr)
theorem Keep.tmp {N : Nat} {a b : St} (x : Keep N a b) {k : Nat} (h : k < N := by first | walk_at "om" | omega) : b (.tmp k) = a (.tmp k) := x _ (decide_eq_true h)
theorem Keep.set {N : Nat} {st : St} {r : Role} {o : O} (h : extra N r = false) : Keep N st (st.set r o) := fun r' hr' => St.set_ne fun q => by rw [q, h] at hr'; cases hr'
theorem Keep.set_tmp {N k : Nat} {st : St} {o : O} (h : N ≤ k := by first | walk_at "om" | omega) : Keep N st (st.set (.tmp k) o) := Keep.set (decide_eq_false (Nat.not_lt.mpr h))

section
variable {x : Nat} {s : S} {N : Nat} {st : St}
theorem RepX.ne (R : RepX x s N st) {n : Nat} (h : n ∈ s.ids) : n ≠ 0 := (R.range n h).1
theorem RepX.heap (R : RepX x s N st) : ∃ fs, st .heap = some (.inst "Counted" fs) ∧ HeapF s.last s.bk s.freed fs := R.all .heap
theorem RepX.cells (R : RepX x s N st) : ∃ ep, st .cells = some (.dict (cellMap s.ids) ep) := R.all .cells
theorem RepX.vars (R : RepX x s N st) : ∃ ep, st .vars = some (.dict (dmap s.vars) ep) := R.all .vars
theorem RepX.log (R : RepX x s N st) : ∃ xs, st .log = some (.list xs) ∧ xs.length = s.logn := R.all .log
theorem RepX.tabs (R : RepX x s N st) : st .tabs = some (.list [.ref (.tab 0), .ref (.tab 1)]) := R.all .tabs
theorem RepX.tab (R : RepX x s N st) {i : Nat} (h : i < 2) : ∃ fs, st (.tab i) = some (.inst "WeakTable" fs) ∧ lk fs "entries" = some (.ref (.ent i)) := R.all (.tab i) h
theorem RepX.ent (R : RepX x s N st) {i : Nat} (h : i < 2) : ∃ ep, st (.ent i) = some (.dict (dmap (s.tab i)) ep) := R.all (.ent i) h
theorem RepX.buffer (R : RepX x s N st) : st (.buf s.bk) = some (.list (bufMap s.buffer)) := (R.all (.buf s.bk)).1 rfl
theorem RepX.bufnew (R : RepX x s N st) {j : Nat} (h : s.bk < j) : st (.buf j) = none := (R.all (.buf j)).2 h
theorem RepX.cellX (R : RepX x s N st) {n : Nat} (h : n ∈ s.ids) (hx : n ≠ x) : ∃ fs, st (.cell n) = some (.inst "Cell" fs) ∧ CellF (s.cell n) n fs := (R.all (.cell n)).1 h hx
theorem RepX.slotsX (R : RepX x s N st) {n : Nat} (h : n ∈ s.ids) (hx : n ≠ x) : ∃ ep, st (.slots n) = some (.dict (dmap (s.cell n).slots) ep) := (R.all (.slots n)).1 h hx
theorem RepX.tmp (R : RepX x s N st) {k : Nat} (h : N ≤ k) : st (.tmp k) = none := R.all (.tmp k) h
theorem RepX.newCell (R : RepX x s N st) {n : Nat} (h : s.last < n) : st (.cell n) = none ∧ st (.slots n) = none := ⟨(R.all (.cell n)).2 h, (R.all (.slots n)).2 h⟩
theorem RepX.place (R : RepX x s N st) {p : Pl} (h : p.ok s) (hx : ∀ n, p = .slots n → n ≠ x) : ∃ ep, st p.role = some (.dict (dmap (s.at p)) ep) := by
  cases p with
  | vars => exact R.vars
  | slots n => exact R.slotsX h (hx n rfl)
  | ent i => exact R.ent h

theorem RepX.step (R : RepX x s N st) {r : Role} {o : O} {y M : Nat} {s' : S} (h1 : Want y s' M r (some o)) (h2 : ∀ r', r' ≠ r → Want x s N r' (st r') → Want y s' M r' (st r')) (hr : ∀ n ∈ s'.ids, n ≠ 0 ∧ n ≤ s'.last) (hn : s'.ids.Nodup) : RepX y s' M (st.set r o) :=
  ⟨fun r' => by
    by_cases q : r' = r
    · rw [q, St.set_same]; exact h1
    · rw [St.set_ne q]; exact h2 r' q (R.all r'), hr, hn⟩

/-- a role that the state does not use -/
theorem RepX.other (R : RepX x s N st) {r : Role} {o : O} {M : Nat} (hM : N ≤ M) (h1 : Want x s M r (some o)) : RepX x s M (st.set r o) :=
  R.step h1 (fun r' q h => by cases r' <;> first | exact h | exact fun z => h (Nat.le_trans hM z)) R.range R.nodup
theorem RepX.tmpset (R : RepX x s N st) {o : O} : RepX x s (N + 1) (st.set (.tmp N) o) := R.other (Nat.le_succ N) fun h => absurd h (Nat.not_succ_le_self N)
theorem RepX.tmpupd (R : RepX x s N st) {k : Nat} (hk : k < N) {o : O} : RepX x s N (st.set (.tmp k) o) := R.other (Nat.le_refl N) fun h => absurd hk (Nat.not_lt.mpr h)
theorem RepX.up (R : RepX x s N st) {M : Nat} (h : N ≤ M) : RepX x s M st := ⟨fun r => by
  have := R.all r
  cases r <;> first | exact this | exact fun z => this (Nat.le_trans h z), R.range, R.nodup⟩

theorem RepX.putPlace (R : RepX x s N st) {p : Pl} (h : p.ok s) {es : List (Int × Val)} {ep : Nat} : RepX x (s.put p es) N (st.set p.role (.dict (dmap es) ep)) := by
  cases p with
  | vars => exact R.step ⟨ep, rfl⟩ (fun r' q h => by cases r' <;> first | exact h | exact absurd rfl q) R.range R.nodup
  | slots n =>
    refine R.step ⟨fun _ _ => ⟨ep, ?_⟩, fun z => absurd (R.range n h).2 (Nat.not_le.mpr z)⟩ (fun r' q h => ?_) R.range R.nodup
    · show _ = some (O.dict (dmap (if n = n then { s.cell n with slots := es } else s.cell n).slots) ep); rw [if_pos rfl]
    · cases r' with
      | cell m =>
        refine ⟨fun hm hx => ?_, h.2⟩
        obtain ⟨fs, a, b⟩ := h.1 hm hx
        refine ⟨fs, a, ?_⟩
        show CellF (if m = n then { s.cell n with slots := es } else s.cell m) m fs
        split
        · rename_i q; subst q; exact { b with }
        · exact b
      | slots m =>
        refine ⟨fun hm hx => ?_, h.2⟩
        obtain ⟨ep', a⟩ := h.1 hm hx
        refine ⟨ep', ?_⟩
        show _ = some (O.dict (dmap (if m = n then { s.cell n with slots := es } else s.cell m).slots) ep')
        rw [if_neg (fun z => q (by rw [z]; rfl))]; exact a
      | _ => exact h
  | ent i =>
    refine R.step (fun _ => ⟨ep, ?_⟩) (fun r' q h => ?_) R.range R.nodup
    · show _ = some (O.dict (dmap (if i = i then es else s.tab i)) ep); rw [if_pos rfl]
    · cases r' with
      | ent j =>
        intro hj
        obtain ⟨ep', a⟩ := h hj
        refine ⟨ep', ?_⟩
        show _ = some (O.dict (dmap (if j = i then es else s.tab j)) ep')
        rw [if_neg (fun z => q (by rw [z]; rfl))]; exact a
      | _ => exact h

/-- a cell's attribute is set -/
theorem RepX.setCellF (R : RepX x s N st) {n : Nat} (h : n ∈ s.ids) {c : Cel} {fs : List (Str × V)} (hs : c.slots = (s.cell n).slots) (hF : CellF c n fs) : RepX x (s.setCell n c) N (st.set (.cell n) (.inst "Cell" fs)) := by
  refine R.step ⟨fun _ _ => ⟨fs, rfl, ?_⟩, fun z => absurd (R.range n h).2 (Nat.not_le.mpr z)⟩ (fun r' q h => ?_) R.range R.nodup
  · show CellF (if n = n then c else s.cell n) n fs; rw [if_pos rfl]; exact hF
  · cases r' with
    | cell m =>
      refine ⟨fun hm hx => ?_, h.2⟩
      obtain ⟨fs, a, b⟩ := h.1 hm hx
      refine ⟨fs, a, ?_⟩
      show CellF (if m = n then c else s.cell m) m fs
      rw [if_neg (fun z => q (by rw [z]))]; exact b
    | slots m =>
      refine ⟨fun hm hx => ?_, h.2⟩
      obtain ⟨ep', a⟩ := h.1 hm hx
      refine ⟨ep', ?_⟩
      show _ = some (O.dict (dmap (if m = n then c else s.cell m).slots) ep')
      split
      · rename_i z; subst z; rw [hs]; exact a
      · exact a
    | _ => exact h

/-- the heap's attributes -/
theorem RepX.setLast (R : RepX x s N st) {m : Nat} (hm : s.last ≤ m) {fs : List (Str × V)} (hF : HeapF m s.bk s.freed fs) : RepX x { s with last := m } N (st.set .heap (.inst "Counted" fs)) :=
  R.step ⟨fs, rfl, hF⟩ (fun r' q h => by
    cases r' <;> first | exact h | exact absurd rfl q | exact ⟨h.1, fun z => h.2 (Nat.lt_of_le_of_lt hm z)⟩) (fun n hn => ⟨(R.range n hn).1, Nat.le_trans (R.range n hn).2 hm⟩) R.nodup
theorem RepX.setFreed (R : RepX x s N st) {m : Nat} {fs : List (Str × V)} (hF : HeapF s.last s.bk m fs) : RepX x { s with freed := m } N (st.set .heap (.inst "Counted" fs)) :=
  R.step ⟨fs, rfl, hF⟩ (fun r' q h => by cases r' <;> first | exact h | exact absurd rfl q) R.range R.nodup
theorem RepX.setLog (R : RepX x s N st) {xs : List V} {m : Nat} (hm : xs.length = m) : RepX x { s with logn := m } N (st.set .log (.list xs)) :=
  R.step ⟨xs, rfl, hm⟩ (fun r' q h => by cases r' <;> first | exact h | exact absurd rfl q) R.range R.nodup
theorem RepX.setBuf (R : RepX x s N st) {ns : List Nat} : RepX x { s with buffer := ns } N (st.set (.buf s.bk) (.list (bufMap ns))) :=
  R.step ⟨fun _ => rfl, fun z => absurd z (Nat.lt_irrefl _)⟩ (fun r' q h => by
    cases r' with
    | buf j => exact ⟨fun z => absurd (z ▸ rfl) q, h.2⟩
    | _ => exact h) R.range R.nodup
/-- a new buffer: first the list, then the attribute -/
theorem RepX.newBuf (R : RepX x s N st) {fs : List (Str × V)} (hF : HeapF s.last (s.bk + 1) s.freed fs) : RepX x { s with buffer := [], bk := s.bk + 1 } N ((st.set (.buf (s.bk + 1)) (.list [])).set .heap (.inst "Counted" fs)) :=
  ⟨fun r => by
    by_cases q : r = .heap
    · rw [q, St.set_same]; exact ⟨fs, rfl, hF⟩
    · rw [St.set_ne q]
      by_cases q' : r = .buf (s.bk + 1)
      · rw [q', St.set_same]; exact ⟨fun _ => rfl, fun z => absurd z (Nat.lt_irrefl _)⟩
      · rw [St.set_ne q']
        have h := R.all r
        cases r with
        | buf j => exact ⟨fun z => absurd (by rw [z]) q', fun z => h.2 (Nat.lt_trans (Nat.lt_succ_self _) z)⟩
        | heap => exact absurd rfl q
        | _ => exact h, R.range, R.nodup⟩
/-- the cells' dict is set -/
theorem RepX.setCells (R : RepX x s N st) {y : Nat} {ids : List Nat} {ep : Nat} (hr : ∀ n ∈ ids, n ≠ 0 ∧ n ≤ s.last) (hnd : ids.Nodup)
    (hc : ∀ n ∈ ids, n ≠ y → (∃ fs, st (.cell n) = some (.inst "Cell" fs) ∧ CellF (s.cell n) n fs) ∧ ∃ ep, st (.slots n) = some (.dict (dmap (s.cell n).slots) ep)) :
    RepX y { s with ids := ids } N (st.set .cells (.dict (cellMap ids) ep)) :=
  R.step ⟨ep, rfl⟩ (fun r' q h => by
    cases r' with
    | cell n => exact ⟨fun hn hx => (hc n hn hx).1, h.2⟩
    | slots n => exact ⟨fun hn hx => (hc n hn hx).2, h.2⟩
    | cells => exact absurd rfl q
    | _ => exact h) hr hnd
/-- the cell y is left out -/
theorem RepX.hide (R : Rep s N st) (y : Nat) : RepX y s N st := ⟨fun r => by
  have h := R.all r
  cases r with
  | cell n => exact ⟨fun hn _ => h.1 hn (R.ne hn), h.2⟩
  | slots n => exact ⟨fun hn _ => h.1 hn (R.ne hn), h.2⟩
  | _ => exact h, R.range, R.nodup⟩
/-- where the cell is gone it may be left in -/
theorem RepX.show (R : RepX x s N st) (hx : x ∉ s.ids) : Rep s N st := ⟨fun r => by
  have h := R.all r
  cases r with
  | cell n => exact ⟨fun hn _ => h.1 hn (fun z => hx (z ▸ hn)), h.2⟩
  | slots n => exact ⟨fun hn _ => h.1 hn (fun z => hx (z ▸ hn)), h.2⟩
  | _ => exact h, R.range, R.nodup⟩
end
end
section
set_option linter.unusedVariables false

theorem if_t {b : Bool} {A B : St → Prop} {st : St} (h : b = true) (k : A st) : (if b = true then A else B) st := by rw [if_pos h]; exact k
theorem if_f {b : Bool} {A B : St → Prop} {st : St} (h : b = false) (k : B st) : (if b = true then A else B) st := by rw [if_neg (by rw [h]; exact Bool.false_ne_true)]; exact k
theorem ifp_t {b : Bool} {A B : Prop} (h : b = true) (k : A) : (if b = true then A else B) := by rw [if_pos h]; exact k
theorem ifp_f {b : Bool} {A B : Prop} (h : b = false) (k : B) : (if b = true then A else B) := by rw [if_neg (by rw [h]; exact Bool.false_ne_true)]; exact k
theorem kof {env : Env} {sc : Scope} {x : Str} {k : NameKind} (h : env.scope = sc) (e : sc.names.lookup x = some k) : env.kindOf x = some k := by
  show env.scope.names.lookup x = _; rw [h]; exact e

noncomputable def fnames : List Str := (["new_cell", "cell_of", "is_ref", "inner", "value_of", "gain", "held_by", "replaced", "taken_out", "written", "ref_in", "in_copy", "copied", "has_elements", "container", "set_int", "new_array", "new_object", "assign", "put", "make_ref", "put_ref",
  "unset", "unset_at", "change", "suspect", "cleared", "free_cell", "wants_destructor", "losing", "lose", "settle", "release", "do_deed", "all_held", "counts_right", "object_in", "weak_of", "weak_get", "new_table", "weak_put", "weak_read", "weak_drop", "weak_keys", "children",
  "mark_grey", "scan_black", "scan", "gather", "find_rings", "free_all", "turn", "collect", "_law_told", "_law_deed", "_law_object", "_law_weak_right", "_law_reached", "_law_are_same", "_law_collected"] : List String).map Str.ofString

noncomputable abbrev pw := PySem.Challenge.pw_pf0213_01
theorem mem_rec {i : Nat} {name : Str} {a : Arguments} {b : List Stmt} {c d e f g} {pos : Pos} {sc : Scope} (h : pw.main.body[i]? = some (.FunctionDef name a b c d e sc f g pos))
   (h2 : (fun st => match st with
  | .FunctionDef name _ _ _ _ _ _ _ _ pos => (match pw.theDef name with
    | some (a, b, sc) => (match a.defaults, kwLiteralsOf? a.kwonlyargs a.kw_defaults with
      | [], some [] => some (DefRec.mk name a b sc pos)
      | _, _ => none)
    | none => none)
  | _ => none) (Stmt.FunctionDef name a b c d e sc f g pos) = some (DefRec.mk name a b sc pos)) : DefRec.mk name a b sc pos ∈ recsOf pw :=
  List.mem_filterMap.mpr ⟨_, List.mem_of_getElem? h, h2⟩
theorem len1 {ws : List Value} (h : ws.length = 1) : ∃ a, ws = [a] := by
  rcases ws with _ | ⟨a, _ | ⟨b, ws⟩⟩ <;> simp at h; exact ⟨a, rfl⟩
theorem len2 {ws : List Value} (h : ws.length = 2) : ∃ a b, ws = [a, b] := by
  rcases ws with _ | ⟨a, ws⟩
  · simp at h
  · obtain ⟨b, rfl⟩ := len1 (ws := ws) (by simpa using h); exact ⟨a, b, rfl⟩
theorem len3 {ws : List Value} (h : ws.length = 3) : ∃ a b c, ws = [a, b, c] := by
  rcases ws with _ | ⟨a, ws⟩
  · simp at h
  · obtain ⟨b, c, rfl⟩ := len2 (ws := ws) (by simpa using h); exact ⟨a, b, c, rfl⟩
theorem len4 {ws : List Value} (h : ws.length = 4) : ∃ a b c d, ws = [a, b, c, d] := by
  rcases ws with _ | ⟨a, ws⟩
  · simp at h
  · obtain ⟨b, c, d, rfl⟩ := len3 (ws := ws) (by simpa using h); exact ⟨a, b, c, d, rfl⟩

noncomputable def clsInit (i : Nat) : Option (Str × Arguments × List Stmt × Scope) := match pw.main.body[i]? with
  | some (.ClassDef c _ _ (.FunctionDef _ a b _ _ _ sc _ _ _ :: _) _ _ _ _ _ _ _) => some (c, a, b, sc)
  | _ => none
noncomputable def clsQual : Nat → Str | 4 => "Cell.__init__" | 5 => "Counted.__init__" | _ => "WeakTable.__init__"

/-- the world as the text's top left it -/
structure Gd (W : Wd) : Prop where
  ok : W.Ok
  fns : W.Fns
  fn : ∀ f, fnames.contains f = true → FnAt W f
  counted : ClsAt W "Counted"
  cell : ClsAt W "Cell"
  table : ClsAt W "WeakTable"
  newc : ∀ i c a b sc, [4, 5, 45].contains i = true → clsInit i = some (c, a, b, sc) → ClsNew W c (clsQual i) a b sc
  bi : ∀ f : Str, [("len" : Str), "sorted", "list", "reversed", "enumerate", "zip", "range"].contains f = true → W.mg f = none

section
variable {W : Wd} {n : Nat} {env : Env} {ρ : Loc} {st : St} {Q : V → St → Prop}

theorem te_fn (G : Gd W) {f : Str} {p pos : Pos} {args : List Expr} {sc : Scope} {QV : V → St → Prop} (hsc : env.scope = sc) (hk : sc.names.lookup f = some .globalImplicit) (hf : fnames.contains f = true) (h : TA W n args pos env ρ (KF W n f QV) st)
    (hd : (f == ("__debug__" : Str)) = false := by decide) (he : PlainArgs env args := by first | exact trivial | rfl) : TE W n (.Call (.Name f p) args [] pos) env ρ QV st := by
  cases args with
  | nil => exact te_call G.ok (G.fn f hf) (kof hsc hk) h hd trivial
  | cons e r => exact te_call G.ok (G.fn f hf) (kof hsc hk) h hd he

/-! ### plain arguments at once -/
noncomputable def pureN (b : Bool) (k : Option NameKind) (o : Option V) : Option V := bif b then none else bif (k == some .local || k == some .cell) then o else none
theorem pureN_spec {b : Bool} {k : Option NameKind} {o : Option V} {v : V} (h : pureN b k o = some v) : b = false ∧ (k = some .local ∨ k = some .cell) ∧ o = some v := by
  cases b
  · have h : (bif (k == some .local || k == some .cell) then o else none) = some v := h
    cases q : (k == some .local || k == some .cell) with
    | false => rw [q] at h; cases h
    | true => rw [q] at h; exact ⟨rfl, (Bool.or_eq_true_iff.mp q).imp (fun z => beq_iff_eq.mp z) (fun z => beq_iff_eq.mp z), h⟩
  · cases h
noncomputable def pureC : Const → Option V
  | .int i => some (.int i)
  | .str s => some (.str s)
  | .bool b => some (.bool b)
  | .none => some .none
  | _ => none
noncomputable def pureE (sc : Scope) (ρ : Loc) : Expr → Option V
  | .Name x _ => pureN (x == ("__debug__" : Str)) (sc.names.lookup x) (ρ x)
  | .Constant c _ _ => pureC c
  | _ => none
theorem te_pure {sc : Scope} {e : Expr} {v : V} (hs : env.scope = sc) (h : pureE sc ρ e = some v) (q : Q v st) : TE W n e env ρ Q st := by
  cases e with
  | Name x p =>
    obtain ⟨hd, hk | hk, hv⟩ := pureN_spec h
    · exact te_local (kof hs hk) hv q hd
    · exact te_cell (kof hs hk) hv q hd
  | Constant c k p => cases c <;> (cases h; try first | exact te_int q | exact te_str q | exact te_bool q | exact te_none q)
  | _ => cases h
theorem pure_star {sc : Scope} {e : Expr} {v : V} (h : pureE sc ρ e = some v) (r : List Expr) : starEach (e :: r) env = (false, eval e env) :: starEach r env := by
  cases e <;> first | rfl | cases h
noncomputable def pureB (a : Option V) (b : Option (List V)) : Option (List V) := a.bind fun v => b.map fun vs => v :: vs
noncomputable def pureL (sc : Scope) (ρ : Loc) : List Expr → Option (List V)
  | [] => some []
  | e :: r => pureB (pureE sc ρ e) (pureL sc ρ r)
theorem ta_pure {sc : Scope} : ∀ {es : List Expr} {vs : List V} {pos : Pos} {QL : List V → St → Prop}, env.scope = sc → pureL sc ρ es = some vs → QL vs st → TA W n es pos env ρ QL st
  | [], _, _, _, _, h, q => by cases h; exact ta_nil q
  | e :: r, _, _, _, hs, h, q => by
    obtain ⟨v, h1, h⟩ := Option.bind_eq_some_iff.mp h
    obtain ⟨vs, h2, rfl⟩ := Option.map_eq_some_iff.mp h
    exact ta_cons (te_pure hs h1 (ta_pure (es := r) hs h2 q)) (pure_star h1 r)

/-! ### the values: pairs of a kind and a number -/
noncomputable def Val.kind : Val → Str | .int _ => "int" | .cell _ => "cell"
noncomputable def Val.num : Val → Int | .int i => i | .cell n => n
noncomputable def Val.isCell : Val → Bool | .int _ => false | .cell _ => true
theorem d_val0 {v : Val} {value slice : Expr} (q : Q (.str v.kind) st) (hs : ∀ a t, subscripted slice false (.ref a) (.int 0 t) = operate [.ref a, .int 0 t] (getItem (.ref a) (.int 0 t)) := by intro _ _; with_unfolding_all rfl) : OP W n VR (op2 (subscriptTail value slice)) [v.v, .int 0] Q st := by
  cases v <;> exact op_tupitem (by decide) (by decide) rfl q hs
theorem d_val1 {v : Val} {value slice : Expr} (q : Q (.int v.num) st) (hs : ∀ a t, subscripted slice false (.ref a) (.int 1 t) = operate [.ref a, .int 1 t] (getItem (.ref a) (.int 1 t)) := by intro _ _; with_unfolding_all rfl) : OP W n VR (op2 (subscriptTail value slice)) [v.v, .int 1] Q st := by
  cases v <;> exact op_tupitem (by decide) (by decide) rfl q hs
theorem str_eqv (a b : Str) : PyData.eqv (.str a) (.str b) = (a == b) := by simp [PyData.eqv]
theorem str_depth (a : Str) : (PyData.str a).depth ≤ 64 := by simp [PyData.depth]
theorem op_streq {a b : Str} (ha : (PyData.str a).canLay0 = true) (hb : (PyData.str b).canLay0 = true) (q : Q (.bool (a == b)) st) : OP W n VR (op2 (compareOp .Eq)) [.str a, .str b] Q st :=
  op_eq rfl rfl ha hb (str_depth a) (by rw [str_eqv]; exact q)
theorem op_strne {a b : Str} (ha : (PyData.str a).canLay0 = true) (hb : (PyData.str b).canLay0 = true) (q : Q (.bool (!(a == b))) st) : OP W n VR (op2 (compareOp .NotEq)) [.str a, .str b] Q st :=
  op_ne rfl rfl ha hb (str_depth a) (by rw [str_eqv]; exact q)
theorem kind_lay (v : Val) : (PyData.str v.kind).canLay0 = true := by cases v <;> (simp only [Val.kind]; decide +kernel)
theorem srt_lay (v : Srt) : (PyData.str v.str).canLay0 = true := by cases v <;> decide +kernel
theorem col_lay (v : Col) : (PyData.str v.str).canLay0 = true := by cases v <;> decide +kernel
theorem kind_cell {v : Val} : (v.kind == ("cell" : Str)) = v.isCell := by cases v <;> (simp only [Val.kind, Val.isCell]; decide)
theorem d_iscell {v : Val} (q : Q (.bool v.isCell) st) : OP W n VR (op2 (compareOp .Eq)) [.str v.kind, .str "cell"] Q st := op_streq (kind_lay v) (by decide +kernel) (by rw [kind_cell]; exact q)
theorem srt_ref {a : Srt} : (a.str == ("ref" : Str)) = decide (a = .rf) := by cases a <;> decide
theorem srt_obj {a : Srt} : (a.str == ("object" : Str)) = decide (a = .obj) := by cases a <;> decide
theorem d_isref {a : Srt} (q : Q (.bool (decide (a = .rf))) st) : OP W n VR (op2 (compareOp .Eq)) [.str a.str, .str "ref"] Q st := op_streq (srt_lay a) (by decide +kernel) (by rw [srt_ref]; exact q)
theorem d_isntref {a : Srt} (q : Q (.bool (!decide (a = .rf))) st) : OP W n VR (op2 (compareOp .NotEq)) [.str a.str, .str "ref"] Q st := op_strne (srt_lay a) (by decide +kernel) (by rw [srt_ref]; exact q)
theorem d_isobj {a : Srt} (q : Q (.bool (decide (a = .obj))) st) : OP W n VR (op2 (compareOp .Eq)) [.str a.str, .str "object"] Q st := op_streq (srt_lay a) (by decide +kernel) (by rw [srt_obj]; exact q)
theorem col_grey {a : Col} : (a.str == ("grey" : Str)) = decide (a = .grey) := by cases a <;> decide
theorem col_white {a : Col} : (a.str == ("white" : Str)) = decide (a = .white) := by cases a <;> decide
theorem col_black {a : Col} : (a.str == ("black" : Str)) = decide (a = .black) := by cases a <;> decide
theorem d_isgrey {a : Col} (q : Q (.bool (decide (a = .grey))) st) : OP W n VR (op2 (compareOp .Eq)) [.str a.str, .str "grey"] Q st := op_streq (col_lay a) (by decide +kernel) (by rw [col_grey]; exact q)
theorem d_isntgrey {a : Col} (q : Q (.bool (!decide (a = .grey))) st) : OP W n VR (op2 (compareOp .NotEq)) [.str a.str, .str "grey"] Q st := op_strne (col_lay a) (by decide +kernel) (by rw [col_grey]; exact q)
theorem d_iswhite {a : Col} (q : Q (.bool (decide (a = .white))) st) : OP W n VR (op2 (compareOp .Eq)) [.str a.str, .str "white"] Q st := op_streq (col_lay a) (by decide +kernel) (by rw [col_white]; exact q)
theorem d_isntblack {a : Col} (q : Q (.bool (!decide (a = .black))) st) : OP W n VR (op2 (compareOp .NotEq)) [.str a.str, .str "black"] Q st := op_strne (col_lay a) (by decide +kernel) (by rw [col_black]; exact q)
noncomputable def Val.d (v : Val) : PyData := .tuple [.str v.kind, .int v.num]
theorem Val.toD (v : Val) : v.v.toD = some v.d := by cases v <;> rfl
theorem Val.lay (v : Val) : v.d.canLay0 = true := by
  have := kind_lay v
  simp only [PyData.canLay0] at this
  simp [Val.d, PyData.canLay0, PyData.canLayAll0, this]
theorem Val.depth (v : Val) : v.d.depth ≤ 64 := by simp [Val.d, PyData.depth, PyData.depthAll]
theorem kind_ne : (("int" : Str) == ("cell" : Str)) = false := by decide
theorem kind_ne' : (("cell" : Str) == ("int" : Str)) = false := by decide
theorem Val.data_eqv (v w : Val) : PyData.eqv v.d w.d = decide (v = w) := by
  cases v <;> cases w <;> simp [Val.d, PyData.eqv, PyData.eqvAll, Val.kind, Val.num, kind_ne, kind_ne', Int.ofNat_inj]
  · exact Bool.eq_iff_iff.mpr (by simp)
  · exact Bool.eq_iff_iff.mpr (by simp; omega)
theorem d_valeq {v w : Val} (q : Q (.bool (decide (v = w))) st) : OP W n VR (op2 (compareOp .Eq)) [v.v, w.v] Q st :=
  op_eq v.toD w.toD v.lay w.lay v.depth (by rw [Val.data_eqv]; exact q)

/-! ### attributes read -/
variable {x : Nat} {s : S} {N : Nat}
theorem d_cells (G : Gd W) (R : RepX x s N st) (q : Q (.ref .cells) st) : OP W n VR (op1 fun v => getAttr v "cells" true) [.ref .heap] Q st := by
  obtain ⟨fs, a, F⟩ := R.heap; exact op_attr G.ok G.counted a F.cells (by decide) q
theorem d_vars (G : Gd W) (R : RepX x s N st) (q : Q (.ref .vars) st) : OP W n VR (op1 fun v => getAttr v "vars" true) [.ref .heap] Q st := by
  obtain ⟨fs, a, F⟩ := R.heap; exact op_attr G.ok G.counted a F.vars (by decide) q
theorem d_log (G : Gd W) (R : RepX x s N st) (q : Q (.ref .log) st) : OP W n VR (op1 fun v => getAttr v "log" true) [.ref .heap] Q st := by
  obtain ⟨fs, a, F⟩ := R.heap; exact op_attr G.ok G.counted a F.log (by decide) q
theorem d_last (G : Gd W) (R : RepX x s N st) (q : Q (.int s.last) st) : OP W n VR (op1 fun v => getAttr v "last" true) [.ref .heap] Q st := by
  obtain ⟨fs, a, F⟩ := R.heap; exact op_attr G.ok G.counted a F.last (by decide) q
theorem d_buffer (G : Gd W) (R : RepX x s N st) (q : Q (.ref (.buf s.bk)) st) : OP W n VR (op1 fun v => getAttr v "buffer" true) [.ref .heap] Q st := by
  obtain ⟨fs, a, F⟩ := R.heap; exact op_attr G.ok G.counted a F.buffer (by decide) q
theorem d_freed (G : Gd W) (R : RepX x s N st) (q : Q (.int s.freed) st) : OP W n VR (op1 fun v => getAttr v "freed" true) [.ref .heap] Q st := by
  obtain ⟨fs, a, F⟩ := R.heap; exact op_attr G.ok G.counted a F.freed (by decide) q
theorem d_tables (G : Gd W) (R : RepX x s N st) (q : Q (.ref .tabs) st) : OP W n VR (op1 fun v => getAttr v "tables" true) [.ref .heap] Q st := by
  obtain ⟨fs, a, F⟩ := R.heap; exact op_attr G.ok G.counted a F.tables (by decide) q
theorem d_entries (G : Gd W) (R : RepX x s N st) {i : Nat} (hi : i < 2) (q : Q (.ref (.ent i)) st) : OP W n VR (op1 fun v => getAttr v "entries" true) [.ref (.tab i)] Q st := by
  obtain ⟨fs, a, F⟩ := R.tab hi; exact op_attr G.ok G.table a F (by decide) q
variable {m : Nat}
theorem d_sort (G : Gd W) (R : Rep s N st) (h : m ∈ s.ids) (q : Q (.str (s.cell m).sort.str) st) : OP W n VR (op1 fun v => getAttr v "sort" true) [.ref (.cell m)] Q st := by
  obtain ⟨fs, a, F⟩ := R.cellX h (R.ne h); exact op_attr G.ok G.cell a F.sort (by decide) q
theorem d_number (G : Gd W) (R : Rep s N st) (h : m ∈ s.ids) (q : Q (.int m) st) : OP W n VR (op1 fun v => getAttr v "number" true) [.ref (.cell m)] Q st := by
  obtain ⟨fs, a, F⟩ := R.cellX h (R.ne h); exact op_attr G.ok G.cell a F.number (by decide) q
theorem d_count (G : Gd W) (R : Rep s N st) (h : m ∈ s.ids) (q : Q (.int (s.cell m).count) st) : OP W n VR (op1 fun v => getAttr v "count" true) [.ref (.cell m)] Q st := by
  obtain ⟨fs, a, F⟩ := R.cellX h (R.ne h); exact op_attr G.ok G.cell a F.count (by decide) q
theorem d_slots (G : Gd W) (R : Rep s N st) (h : m ∈ s.ids) (q : Q (.ref (.slots m)) st) : OP W n VR (op1 fun v => getAttr v "slots" true) [.ref (.cell m)] Q st := by
  obtain ⟨fs, a, F⟩ := R.cellX h (R.ne h); exact op_attr G.ok G.cell a F.slots (by decide) q
theorem d_colour (G : Gd W) (R : Rep s N st) (h : m ∈ s.ids) (q : Q (.str (s.cell m).col.str) st) : OP W n VR (op1 fun v => getAttr v "colour" true) [.ref (.cell m)] Q st := by
  obtain ⟨fs, a, F⟩ := R.cellX h (R.ne h); exact op_attr G.ok G.cell a F.colour (by decide) q
theorem d_isbuf (G : Gd W) (R : Rep s N st) (h : m ∈ s.ids) (q : Q (.bool (s.cell m).buf) st) : OP W n VR (op1 fun v => getAttr v "is_buffered" true) [.ref (.cell m)] Q st := by
  obtain ⟨fs, a, F⟩ := R.cellX h (R.ne h); exact op_attr G.ok G.cell a F.buf (by decide) q
theorem d_hasD (G : Gd W) (R : Rep s N st) (h : m ∈ s.ids) (q : Q (.bool false) st) : OP W n VR (op1 fun v => getAttr v "has_destructor" true) [.ref (.cell m)] Q st := by
  obtain ⟨fs, a, F⟩ := R.cellX h (R.ne h); exact op_attr G.ok G.cell a F.hasD (by decide) q
theorem d_weak (G : Gd W) (R : Rep s N st) (h : m ∈ s.ids) (q : Q (if (s.cell m).weak then .int m else .none) st) : OP W n VR (op1 fun v => getAttr v "weak" true) [.ref (.cell m)] Q st := by
  obtain ⟨fs, a, F⟩ := R.cellX h (R.ne h); exact op_attr G.ok G.cell a F.weak (by decide) q

/-! ### attributes stored -/
theorem setF_len {fs : List (Str × V)} {f : Str} {y : V} (h : (fs.lookup f).isSome = true) : (setF fs f y).length = fs.length := by rw [setF_length, if_pos h]
theorem lk_set {fs : List (Str × V)} {f g : Str} {y : V} {o : Option V} (h : (g == f) = false) (e : lk fs g = o) : lk (setF fs f y) g = o := by
  unfold lk; rw [setF_other (by simpa using h)]; exact e
theorem lk_same {fs : List (Str × V)} {f : Str} {y : V} : lk (setF fs f y) f = some y := setF_same
theorem HeapF.setLast {a b c d : Nat} {fs : List (Str × V)} (F : HeapF a b c fs) : HeapF d b c (setF fs "last" (.int d)) where
  len := by rw [setF_len (Option.isSome_iff_exists.mpr ⟨_, F.last⟩)]; exact F.len
  cells := lk_set (by decide) F.cells
  vars := lk_set (by decide) F.vars
  log := lk_set (by decide) F.log
  last := lk_same
  buffer := lk_set (by decide) F.buffer
  freed := lk_set (by decide) F.freed
  tables := lk_set (by decide) F.tables
theorem HeapF.setFreed {a b c d : Nat} {fs : List (Str × V)} (F : HeapF a b c fs) : HeapF a b d (setF fs "freed" (.int d)) where
  len := by rw [setF_len (Option.isSome_iff_exists.mpr ⟨_, F.freed⟩)]; exact F.len
  cells := lk_set (by decide) F.cells
  vars := lk_set (by decide) F.vars
  log := lk_set (by decide) F.log
  last := lk_set (by decide) F.last
  buffer := lk_set (by decide) F.buffer
  freed := lk_same
  tables := lk_set (by decide) F.tables
theorem HeapF.setBuffer {a b c d : Nat} {fs : List (Str × V)} (F : HeapF a b c fs) : HeapF a d c (setF fs "buffer" (.ref (.buf d))) where
  len := by rw [setF_len (Option.isSome_iff_exists.mpr ⟨_, F.buffer⟩)]; exact F.len
  cells := lk_set (by decide) F.cells
  vars := lk_set (by decide) F.vars
  log := lk_set (by decide) F.log
  last := lk_set (by decide) F.last
  buffer := lk_same
  freed := lk_set (by decide) F.freed
  tables := lk_set (by decide) F.tables
theorem CellF.setCount {c : Cel} {m : Nat} {fs : List (Str × V)} (F : CellF c m fs) {i : Int} : CellF { c with count := i } m (setF fs "count" (.int i)) where
  len := by rw [setF_len (Option.isSome_iff_exists.mpr ⟨_, F.count⟩)]; exact F.len
  sort := lk_set (by decide) F.sort
  number := lk_set (by decide) F.number
  count := lk_same
  slots := lk_set (by decide) F.slots
  colour := lk_set (by decide) F.colour
  buf := lk_set (by decide) F.buf
  hasD := lk_set (by decide) F.hasD
  isD := lk_set (by decide) F.isD
  weak := lk_set (by decide) F.weak
  freed := by rw [lk_set (by decide) rfl]; exact F.freed
theorem CellF.setCol {c : Cel} {m : Nat} {fs : List (Str × V)} (F : CellF c m fs) {i : Col} : CellF { c with col := i } m (setF fs "colour" (.str i.str)) where
  len := by rw [setF_len (Option.isSome_iff_exists.mpr ⟨_, F.colour⟩)]; exact F.len
  sort := lk_set (by decide) F.sort
  number := lk_set (by decide) F.number
  count := lk_set (by decide) F.count
  slots := lk_set (by decide) F.slots
  colour := lk_same
  buf := lk_set (by decide) F.buf
  hasD := lk_set (by decide) F.hasD
  isD := lk_set (by decide) F.isD
  weak := lk_set (by decide) F.weak
  freed := by rw [lk_set (by decide) rfl]; exact F.freed
theorem CellF.setBuf {c : Cel} {m : Nat} {fs : List (Str × V)} (F : CellF c m fs) {i : Bool} : CellF { c with buf := i } m (setF fs "is_buffered" (.bool i)) where
  len := by rw [setF_len (Option.isSome_iff_exists.mpr ⟨_, F.buf⟩)]; exact F.len
  sort := lk_set (by decide) F.sort
  number := lk_set (by decide) F.number
  count := lk_set (by decide) F.count
  slots := lk_set (by decide) F.slots
  colour := lk_set (by decide) F.colour
  buf := lk_same
  hasD := lk_set (by decide) F.hasD
  isD := lk_set (by decide) F.isD
  weak := lk_set (by decide) F.weak
  freed := by rw [lk_set (by decide) rfl]; exact F.freed
theorem CellF.setHasD {c : Cel} {m : Nat} {fs : List (Str × V)} (F : CellF c m fs) : CellF c m (setF fs "has_destructor" (.bool false)) where
  len := by rw [setF_len (Option.isSome_iff_exists.mpr ⟨_, F.hasD⟩)]; exact F.len
  sort := lk_set (by decide) F.sort
  number := lk_set (by decide) F.number
  count := lk_set (by decide) F.count
  slots := lk_set (by decide) F.slots
  colour := lk_set (by decide) F.colour
  buf := lk_set (by decide) F.buf
  hasD := lk_same
  isD := lk_set (by decide) F.isD
  weak := lk_set (by decide) F.weak
  freed := by rw [lk_set (by decide) rfl]; exact F.freed
theorem CellF.setWeak {c : Cel} {m : Nat} {fs : List (Str × V)} (F : CellF c m fs) {b : Bool} : CellF { c with weak := b } m (setF fs "weak" (if b then .int m else .none)) where
  len := by rw [setF_len (Option.isSome_iff_exists.mpr ⟨_, F.weak⟩)]; exact F.len
  sort := lk_set (by decide) F.sort
  number := lk_set (by decide) F.number
  count := lk_set (by decide) F.count
  slots := lk_set (by decide) F.slots
  colour := lk_set (by decide) F.colour
  buf := lk_set (by decide) F.buf
  hasD := lk_set (by decide) F.hasD
  isD := lk_set (by decide) F.isD
  weak := lk_same
  freed := by rw [lk_set (by decide) rfl]; exact F.freed

variable {QU : Unit → St → Prop}
noncomputable def S.upd (s : S) (m : Nat) (f : Cel → Cel) : S := s.setCell m (f (s.cell m))
theorem d_setlast (G : Gd W) (R : RepX x s N st) {d : Nat} (hd : s.last ≤ d) (q : ∀ st', RepX x { s with last := d } N st' → Keep N st st' → QU () st') : OP W n RU (op2 fun o v => setAttr o "last" v) [.ref .heap, .int d] QU st := by
  obtain ⟨fs, a, F⟩ := R.heap
  exact op_setattr G.ok G.counted a (by decide) (Nat.le_trans F.len (by decide)) (q _ (R.setLast hd F.setLast) (Keep.set rfl))
theorem d_setfreed (G : Gd W) (R : RepX x s N st) {d : Nat} (q : ∀ st', RepX x { s with freed := d } N st' → Keep N st st' → QU () st') : OP W n RU (op2 fun o v => setAttr o "freed" v) [.ref .heap, .int d] QU st := by
  obtain ⟨fs, a, F⟩ := R.heap
  exact op_setattr G.ok G.counted a (by decide) (Nat.le_trans F.len (by decide)) (q _ (R.setFreed F.setFreed) (Keep.set rfl))
theorem d_setcount (G : Gd W) (R : Rep s N st) (h : m ∈ s.ids) {i : Int} (q : ∀ st', Rep (s.upd m fun c => { c with count := i }) N st' → Keep N st st' → QU () st') : OP W n RU (op2 fun o v => setAttr o "count" v) [.ref (.cell m), .int i] QU st := by
  obtain ⟨fs, a, F⟩ := R.cellX h (R.ne h)
  exact op_setattr G.ok G.cell a (by decide) (Nat.le_trans F.len (by decide)) (q _ (R.setCellF h rfl F.setCount) (Keep.set rfl))
theorem d_setcol (G : Gd W) (R : Rep s N st) (h : m ∈ s.ids) {i : Col} {y : Str} (hy : i.str = y) (q : ∀ st', Rep (s.upd m fun c => { c with col := i }) N st' → Keep N st st' → QU () st') : OP W n RU (op2 fun o v => setAttr o "colour" v) [.ref (.cell m), .str y] QU st := by
  subst hy
  obtain ⟨fs, a, F⟩ := R.cellX h (R.ne h)
  exact op_setattr G.ok G.cell a (by decide) (Nat.le_trans F.len (by decide)) (q _ (R.setCellF h rfl F.setCol) (Keep.set rfl))
theorem d_setbuf (G : Gd W) (R : Rep s N st) (h : m ∈ s.ids) {i : Bool} (q : ∀ st', Rep (s.upd m fun c => { c with buf := i }) N st' → Keep N st st' → QU () st') : OP W n RU (op2 fun o v => setAttr o "is_buffered" v) [.ref (.cell m), .bool i] QU st := by
  obtain ⟨fs, a, F⟩ := R.cellX h (R.ne h)
  exact op_setattr G.ok G.cell a (by decide) (Nat.le_trans F.len (by decide)) (q _ (R.setCellF h rfl F.setBuf) (Keep.set rfl))
theorem d_sethasD (G : Gd W) (R : Rep s N st) (h : m ∈ s.ids) (q : ∀ st', Rep (s.upd m fun c => c) N st' → Keep N st st' → QU () st') : OP W n RU (op2 fun o v => setAttr o "has_destructor" v) [.ref (.cell m), .bool false] QU st := by
  obtain ⟨fs, a, F⟩ := R.cellX h (R.ne h)
  exact op_setattr G.ok G.cell a (by decide) (Nat.le_trans F.len (by decide)) (q _ (R.setCellF h rfl F.setHasD) (Keep.set rfl))
theorem d_setweak (G : Gd W) (R : Rep s N st) (h : m ∈ s.ids) (q : ∀ st', Rep (s.upd m fun c => { c with weak := true }) N st' → Keep N st st' → QU () st') : OP W n RU (op2 fun o v => setAttr o "weak" v) [.ref (.cell m), .int m] QU st := by
  obtain ⟨fs, a, F⟩ := R.cellX h (R.ne h)
  exact op_setattr G.ok G.cell a (by decide) (Nat.le_trans F.len (by decide)) (q _ (R.setCellF h rfl (F.setWeak (b := true))) (Keep.set rfl))

/-- an attribute of a cell that the state does not know -/
theorem d_raw (G : Gd W) (R : RepX x s N st) {k : Nat} (hk : k ∉ s.ids ∨ k = x) (hk' : k ≤ s.last) {f : Str} {fs : List (Str × V)} {v : V} (hr : st (.cell k) = some (.inst "Cell" fs)) (hf : f ∈ fields) (hz : fs.length ≤ 1000)
    (q : ∀ st', RepX x s N st' → Keep N st st' → st' (.cell k) = some (.inst "Cell" (setF fs f v)) → st' (.slots k) = st (.slots k) → QU () st') : OP W n RU (op2 fun o v => setAttr o f v) [.ref (.cell k), v] QU st :=
  op_setattr G.ok G.cell hr hf hz (q _ (R.other (Nat.le_refl N) ⟨fun h1 h2 => (hk.elim (fun q => q h1) h2).elim, fun h => absurd hk' (Nat.not_le.mpr h)⟩) (Keep.set rfl) St.set_same (St.set_ne (by simp)))

/-! ### dicts -/
theorem dget_cells {ids : List Nat} {i : Int} : dget (cellMap ids) i = if 0 ≤ i ∧ i.toNat ∈ ids then some (.ref (.cell i.toNat)) else none := by
  unfold dget cellMap
  induction ids with
  | nil => simp
  | cons a r ih =>
    simp only [List.map_cons, List.find?_cons]
    by_cases q : (a : Int) = i
    · subst q; simp
    · have hne : ¬ (i.toNat = a ∧ 0 ≤ i) := fun z => q (by omega)
      simp only [decide_eq_false q]
      rw [ih]
      by_cases h0 : 0 ≤ i
      · have : ¬ i.toNat = a := fun z => hne ⟨z, h0⟩
        simp [h0, this]
      · simp [h0]
theorem dget_cell {ids : List Nat} {k : Nat} (h : k ∈ ids) : dget (cellMap ids) k = some (.ref (.cell k)) := by
  rw [dget_cells, if_pos ⟨by omega, by simpa using h⟩]; simp
@[reducible] noncomputable def cv : Option Nat → V | none => .none | some n => .ref (.cell n)
noncomputable def S.cellOf (s : S) : Val → Option Nat | .int _ => none | .cell n => if n ∈ s.ids then some n else none
theorem dget_num {s : S} {k : Nat} : (dget (cellMap s.ids) (Val.cell k).num).getD .none = cv (s.cellOf (.cell k)) := by
  show (dget (cellMap s.ids) (k : Int)).getD .none = _
  rw [dget_cells]
  simp only [S.cellOf]
  by_cases h : k ∈ s.ids
  · rw [if_pos ⟨by omega, by simpa using h⟩, if_pos h]; simp [cv]
  · rw [if_neg (by simpa using h), if_neg h]; rfl
theorem d_item (R : RepX x s N st) {p : Pl} (hp : p.ok s) (hx : ∀ n, p = .slots n → n ≠ x) {i : Int} {w : Val} {value slice : Expr} (h : dget (s.at p) i = some w) (q : Q w.v st)
    (hs : ∀ a t, subscripted slice false (.ref a) (.int i t) = operate [.ref a, .int i t] (getItem (.ref a) (.int i t)) := by intro _ _; with_unfolding_all rfl) : OP W n VR (op2 (subscriptTail value slice)) [.ref p.role, .int i] Q st := by
  obtain ⟨ep, a⟩ := R.place hp hx
  exact op_dictitem a (by rw [dget_dmap, h]; rfl) q hs
theorem d_cellitem (R : RepX x s N st) {k : Nat} (h : k ∈ s.ids) {value slice : Expr} (q : Q (.ref (.cell k)) st)
    (hs : ∀ a t, subscripted slice false (.ref a) (.int k t) = operate [.ref a, .int k t] (getItem (.ref a) (.int k t)) := by intro _ _; with_unfolding_all rfl) : OP W n VR (op2 (subscriptTail value slice)) [.ref .cells, .int k] Q st := by
  obtain ⟨ep, a⟩ := R.cells
  exact op_dictitem a (dget_cell h) q hs
theorem d_in (G : Gd W) (R : RepX x s N st) {p : Pl} (hp : p.ok s) (hx : ∀ n, p = .slots n → n ≠ x) {i : Int} (q : Q (.bool (dget (s.at p) i).isSome) st) : OP W n VR (op2 (compareOp .In)) [.int i, .ref p.role] Q st := by
  obtain ⟨ep, a⟩ := R.place hp hx
  refine op_in G.ok a ?_
  rw [dget_dmap, Option.isSome_map]; exact q
theorem d_notin (G : Gd W) (R : RepX x s N st) {p : Pl} (hp : p.ok s) (hx : ∀ n, p = .slots n → n ≠ x) {i : Int} (q : Q (.bool (!(dget (s.at p) i).isSome)) st) : OP W n VR (op2 (compareOp .NotIn)) [.int i, .ref p.role] Q st := by
  obtain ⟨ep, a⟩ := R.place hp hx
  refine op_notin G.ok a ?_
  rw [dget_dmap, Option.isSome_map]; exact q
theorem d_put (R : RepX x s N st) {p : Pl} (hp : p.ok s) (hx : ∀ n, p = .slots n → n ≠ x) {i : Int} {w : Val} (hz : (s.at p).length ≤ 16777216) (q : ∀ st', RepX x (s.put p (dput (s.at p) i w)) N st' → Keep N st st' → QU () st') : OP W n RU (op3 setItem) [.ref p.role, .int i, w.v] QU st := by
  obtain ⟨ep, a⟩ := R.place hp hx
  refine op_setitem a (by rw [dmap_length]; exact hz) fun ep' => ?_
  rw [dput_dmap]
  exact q _ (R.putPlace hp) (Keep.set (by cases p <;> rfl))
theorem d_pop (R : RepX x s N st) {p : Pl} (hp : p.ok s) (hx : ∀ n, p = .slots n → n ≠ x) {i : Int} {w : Val} (hz : (s.at p).length ≤ 16777216) (h : dget (s.at p) i = some w) (q : ∀ st', RepX x (s.put p (ddel (s.at p) i)) N st' → Keep N st st' → Q w.v st') :
    OP W n VR (fun ws => call (.builtin "dict.pop") ws) [.ref p.role, .int i] Q st := by
  obtain ⟨ep, a⟩ := R.place hp hx
  refine op_dpop a (by rw [dmap_length]; exact hz) (by rw [dget_dmap, h]; rfl) fun ep' => ?_
  rw [ddel_dmap]
  exact q _ (R.putPlace hp) (Keep.set (by cases p <;> rfl))
end
end
section
set_option linter.unusedVariables false
/-! what a loop keeps (one type each: their terms stay small) -/
inductive LpA {τ : Type} (I : S → τ → Prop) (b N : Nat) (st : St) (r : Role) (X : τ → List V) (st' : St) : Prop
  | mk (s' : S) (N' : Nat) (t : τ) (hI : I s' t) (hN : b ≤ N') (R : Rep s' N' st') (K : Keep N st st') (h : st' r = some (.list (X t)))
inductive LpB {τ : Type} (I : τ → S → Prop) (b N : Nat) (st : St) (r : Role) (xs : List V) (st' : St) : Prop
  | mk (t : τ) (s' : S) (N' : Nat) (hI : I t s') (hN : b ≤ N') (R : Rep s' N' st') (K : Keep N st st') (h : st' r = some (.list xs))
inductive LpC {τ : Type} (I : S → τ → Prop) (b N : Nat) (st : St) (r : Role) (X : τ → List V) (st' : St) : Prop
  | mk (s' : S) (t : τ) (N' : Nat) (hI : I s' t) (hN : b ≤ N') (R : Rep s' N' st') (K : Keep N st st') (h : st' r = some (.list (X t)))
inductive LpD (I : S → List Nat → List Nat → Prop) (b N : Nat) (st : St) (r r2 : Role) (X Y : List Nat → List V) (st' : St) : Prop
  | mk (s' : S) (N' : Nat) (fs ts : List Nat) (hI : I s' fs ts) (hN : b ≤ N') (R : Rep s' N' st') (K : Keep N st st') (h : st' r = some (.list (X ts))) (h2 : st' r2 = some (.list (Y fs)))
theorem op_cell {α β : Type} {W : Wd} {n : Nat} {RR : Kp → Heap → α → β → Prop} {f : List Value → Sem α} {k : Nat} {Q : β → St → Prop} {st : St} (h : OP W n RR f [.ref (.cell k)] Q st) : OP W n RR f [.ref (.cell k)] Q st := h


/-! ## names forgotten -/
noncomputable def Sub (ρ ρ' : Loc) : Prop := ∀ y u, ρ y = some u → ρ' y = some u
theorem Sub.refl {ρ : Loc} : Sub ρ ρ := fun _ _ e => e
theorem Sub.trans {a b c : Loc} (x : Sub a b) (y : Sub b c) : Sub a c := fun z u e => y z u (x z u e)
theorem Sub.upd {ρ ρ' : Loc} {x : Str} {v : V} (h : ρ x = none) (s : Sub ρ ρ') : Sub ρ (ρ'.upd x v) := fun y u e => by
  rw [Loc.upd_ne (fun q => by rw [q, h] at e; cases e)]; exact s y u e
theorem Sub.both {ρ ρ' : Loc} {x : Str} {v : V} (s : Sub ρ ρ') : Sub (ρ.upd x v) (ρ'.upd x v) := fun y u e => by
  by_cases q : y = x
  · subst q; rw [Loc.upd_same] at e ⊢; exact e
  · rw [Loc.upd_ne q] at e ⊢; exact s y u e
theorem LocR.sub {W : Wd} {k : Kp} {env : Env} {h : Heap} {ρ ρ' : Loc} (L : LocR W k env h ρ') (s : Sub ρ ρ') : LocR W k env h ρ where
  ok := L.ok
  new := L.new
  ns := let ⟨m, hm, hr⟩ := L.ns; ⟨m, hm, fun x v hx hv => hr x v hx (s x v hv)⟩
  cel := fun x hx => let ⟨c, o, hc, hi, hv⟩ := L.cel x hx; ⟨c, o, hc, hi, fun v e => hv v (s x v e)⟩
  apart := L.apart

section
variable {W : Wd} {n : Nat} {env : Env} {ρ : Loc} {st : St} {Q : Fl → Loc → St → Prop}
theorem TS.weak {t : Sem Flow} {ρ' : Loc} (h : TS W n t env ρ Q st) (s : Sub ρ ρ') : TS W n t env ρ' Q st := fun A s' k hA R L => h A s' k hA R (L.sub s)
noncomputable abbrev PSub (ρ : Loc) (I : St → Prop) : Loc → St → Prop := fun ρ' st' => Sub ρ ρ' ∧ I st'
theorem TS.shrink {t : Sem Flow} (h : TS W n t env ρ (KLp (fun ρ' st' => ∃ ρ'', Sub ρ'' ρ' ∧ Q .next ρ'' st') Q) st) : TS W n t env ρ Q st := fun A s k hA R L =>
  wpAny_mono (h A s k hA R L) (fun f s' ⟨k', fl, ρ', st', R', l', L', r, q⟩ => by
    cases r with
    | next => obtain ⟨ρ'', hs, q⟩ := q; exact ⟨k', _, ρ'', st', R', l', L'.sub hs, .next, q⟩
    | ret r => exact ⟨k', _, ρ', st', R', l', L', .ret r, q⟩) fun _ _ f => f
theorem TS.mono {t : Sem Flow} {Q' : Fl → Loc → St → Prop} (h : TS W n t env ρ Q st) (hq : ∀ f ρ' st', Q f ρ' st' → Q' f ρ' st') : TS W n t env ρ Q' st := fun A s k hA R L =>
  wpAny_mono (h A s k hA R L) (fun f s' ⟨k', fl, ρ', st', R', l', L', r, q⟩ => ⟨k', _, ρ', st', R', l', L', r, hq _ _ _ q⟩) fun _ _ f => f
theorem TI.mono {e : Expr} {QI QI' : Src → St → Prop} (h : TI W n e env ρ QI st) (hq : ∀ src st', QI src st' → QI' src st') : TI W n e env ρ QI' st := fun A s k hA R L =>
  wpAny_mono (h A s k hA R L) (fun v s₁ h₁ => wpAny_mono h₁ (fun i s₂ ⟨a, k', src, st', e, R', l, hn, hκ, hok, hat, q⟩ => ⟨a, k', src, st', e, R', l, hn, hκ, hok, hat, hq _ _ q⟩) fun _ _ f => f) fun _ _ f => f

theorem T.imp {α β : Type} {RR : Kp → Heap → α → β → Prop} {t : Sem α} {G G' : β → St → Prop} (h : T W n RR t env ρ G st) (hq : ∀ b st', G b st' → G' b st') : T W n RR t env ρ G' st := fun A s k hA R L =>
  wpAny_mono (h A s k hA R L) (fun a s' ⟨k', b, st', R', l', r, q⟩ => ⟨k', b, st', R', l', r, hq _ _ q⟩) fun _ _ f => f

theorem tx_for0 (ok : W.Ok) {x : Str} {px pos : Pos} {iter : Expr} {body : List Stmt} (hk : env.kindOf x = some .local ∨ env.kindOf x = some .cell)
    (h : TI W n iter env ρ (fun src st₁ => ∃ I : Nat → St → Prop, I 0 st₁ ∧
      (∀ j st' v, I j st' → src.items[j]? = some v → src.ok st' ∧ TXs W n body env (ρ.upd x v) (KLp (PSub ρ (I (j + 1))) Q) st') ∧
      (∀ st', I src.items.length st' → src.ok st' ∧ Q .next ρ st')) st)
    (hs : ∀ x, foldedSetIterable iter env x = pure x := by intro _; rfl) : TX W n (.For (.Name x px) iter body [] pos) env ρ Q st := by
  refine TS.shrink (tx_for ok hk (TI.mono h fun src st₁ ⟨I, h0, turn, fin⟩ => ⟨fun j ρ' st' => Sub ρ ρ' ∧ I j st', ⟨Sub.refl, h0⟩, fun j ρ' st' v ⟨hsub, hI⟩ hv => ?_, fun ρ' st' ⟨hsub, hI⟩ => ?_⟩) hs)
  · obtain ⟨hok, hb⟩ := turn j st' v hI hv
    refine ⟨hok, TS.mono (hb.weak hsub.both) fun f ρ'' st'' q => ?_⟩
    cases f with
    | next => exact q
    | ret v => exact q
  · obtain ⟨hok, q⟩ := fin st' hI
    exact ⟨hok, ρ, hsub, q⟩

theorem tx_while0 {t : Expr} {b : List Stmt} {pos : Pos} (I : Nat → St → Prop) (m : Nat) (h0 : I m st)
    (turn : ∀ m st, I m st → TB W n t env ρ (KWh W n b env ρ (PSub ρ fun st' => ∃ j, j < m ∧ I j st') Q) st) :
    TX W n (.While t b [] pos) env ρ Q st := by
  refine TS.shrink (tx_while (fun m ρ' st => Sub ρ ρ' ∧ I m st) m ⟨Sub.refl, h0⟩ fun m ρ' st ⟨hsub, hI⟩ => ?_)
  intro A s k hA R L
  refine wpAny_mono (turn m st hI A s k hA R (L.sub hsub)) (fun c s' ⟨k', c', st', R', l', e, g⟩ => ⟨k', c', st', R', l', e, ?_⟩) fun _ _ f => f
  cases e
  cases c
  · exact ⟨ρ, hsub, g⟩
  · refine TS.mono (TS.weak g hsub) fun f ρ'' st'' q => ?_
    cases f with
    | next => exact q.2.elim fun j hj => ⟨j, hj.1, q.1, hj.2⟩
    | ret v => exact q

theorem sw_true {env : Env} {sc : Scope} {elt : Expr} {gens : List Comprehension} {scope : Scope} {pos tp : Pos} {t : Str} {line : Nat} (henv : env.scope = sc)
    (h : ((if sc.kind.isAnnotationScope then .function else sc.kind) == ScopeKind.function && sc.names.lookup t == some .local && tp.line == pos.line && !(scope.names.any fun (n, k) => n == t && (k == .local || k == .cell))) = true) :
    swapsWith (.ListComp elt gens scope pos) (some (.Name t tp)) line env = pure true := by
  unfold swapsWith
  show (pure (env.blockKind == .function && env.kindOf t == some .local && tp.line == pos.line && !(scope.names.any fun (n, k) => n == t && (k == .local || k == .cell))) : Sem Bool) = _
  have e1 : env.blockKind = (if sc.kind.isAnnotationScope then .function else sc.kind) := by unfold Env.blockKind; rw [henv]
  have e2 : env.kindOf t = sc.names.lookup t := by show env.scope.names.lookup t = _; rw [henv]
  rw [e1, e2, h]
end

theorem St.get_ne {st : St} {r r' : Role} {o : O} {o' : Option O} (h : st r' = o') (hne : r' ≠ r := by first | (simp; done) | (simp; omega)) : (st.set r o) r' = o' := (St.set_ne hne).trans h

noncomputable def mkEnv (sc : Scope) : Env := { scope := sc, locals := 0, globals := 0, cells := [], qual := "", func := none, code := .none, frame := none, builtins := 0 }
theorem sw_env {ts : List Expr} {v : Expr} {env : Env} {sc : Scope} {r : Sem (Option (List Str))} (h : env.scope = sc) (e : swappedStores ts v (mkEnv sc) = r) : swappedStores ts v env = r := by subst h; exact e
theorem setF_go {fs : List (Str × V)} {f : Str} {v : V} {j m : Nat} (h : fs.length + (j + 1) ≤ m) : (setF fs f v).length + j ≤ m := by rw [setF_length]; split <;> omega
theorem setF_go0 {fs : List (Str × V)} {f : Str} {v : V} {m : Nat} (h : fs.length + 1 ≤ m) : (setF fs f v).length ≤ m := by rw [setF_length]; split <;> omega

/-! ## methods -/
section
variable {W : Wd} {n : Nat} {env : Env} {ρ : Loc} {st : St} {Q : V → St → Prop}
theorem te_append {o arg : Expr} {ap pos : Pos} {pl : Sem Bool} (h : TE W n o env ρ (fun ov st₁ => ∃ r xs₁, ov = .ref r ∧ st₁ r = some (.list xs₁) ∧ TE W n arg env ρ (fun v st₂ => ∃ xs, st₂ r = some (.list xs) ∧ xs.length ≤ 16777216 ∧ Q .none (st₂.set r (.list (xs ++ [v])))) st₁) st)
    (hcall : eval (.Call (.Attribute o "append" ap) [arg] [] pos) env = (do
      let ov ← eval o env
      standAt ap.atName
      let (f, first) ← holding [ov] (getMethod ov "append" pl)
      callWith pos f first (backTo pos (starEach [arg] env)) (backToKw pos (keywordEach [] env))) := by k_dflt rfl)
    (he : starEach [arg] env = (false, eval arg env) :: starEach [] env := by k_dflt rfl) (hp : (backTo pos (starEach [arg] env)).any (·.1) = false := by k_dflt rfl) : TE W n (.Call (.Attribute o "append" ap) [arg] [] pos) env ρ Q st := by
  refine te_meth (T.imp h fun ov st₁ g₀ => ?_) hcall he hp
  obtain ⟨r, xs₁, e, hr, h⟩ := g₀
  refine ⟨"list.append", ?_, ?_⟩
  · subst e; exact isMeth_list hr slot_list_append type_list_append
  · refine ta_cons (T.imp h fun v st₂ ⟨xs, hr, hz, q⟩ => ta_nil ?_) he
    subst e
    exact op_append hr hz q
theorem te_extend {o arg : Expr} {ap pos : Pos} {pl : Sem Bool} (h : TE W n o env ρ (fun ov st₁ => ∃ r xs₁, ov = .ref r ∧ st₁ r = some (.list xs₁) ∧ TE W n arg env ρ (fun v st₂ => ∃ xs r' ys, st₂ r = some (.list xs) ∧ v = .ref r' ∧ st₂ r' = some (.list ys) ∧ xs.length + ys.length ≤ 16000000 ∧ Q .none (st₂.set r (.list (xs ++ ys)))) st₁) st)
    (hcall : eval (.Call (.Attribute o "extend" ap) [arg] [] pos) env = (do
      let ov ← eval o env
      standAt ap.atName
      let (f, first) ← holding [ov] (getMethod ov "extend" pl)
      callWith pos f first (backTo pos (starEach [arg] env)) (backToKw pos (keywordEach [] env))) := by k_dflt rfl)
    (he : starEach [arg] env = (false, eval arg env) :: starEach [] env := by k_dflt rfl) (hp : (backTo pos (starEach [arg] env)).any (·.1) = false := by k_dflt rfl) : TE W n (.Call (.Attribute o "extend" ap) [arg] [] pos) env ρ Q st := by
  refine te_meth (T.imp h fun ov st₁ g₀ => ?_) hcall he hp
  obtain ⟨r, xs₁, e, hr, h⟩ := g₀
  refine ⟨"list.extend", ?_, ?_⟩
  · subst e; exact isMeth_list hr PySem.F.slot_list_extend PySem.F.type_list_extend
  · refine ta_cons (T.imp h fun v st₂ ⟨xs, r', ys, hr, e', hr', hz, q⟩ => ta_nil ?_) he
    subst e e'
    exact op_extend hr hr' hz q
theorem te_lpop {o : Expr} {ap pos : Pos} {pl : Sem Bool} (h : TE W n o env ρ (fun ov st₁ => ∃ r xs y, ov = .ref r ∧ st₁ r = some (.list (xs ++ [y])) ∧ xs.length ≤ 10000000 ∧ Q y (st₁.set r (.list xs))) st)
    (hcall : eval (.Call (.Attribute o "pop" ap) [] [] pos) env = (do
      let ov ← eval o env
      standAt ap.atName
      let (f, first) ← holding [ov] (getMethod ov "pop" pl)
      callWith pos f first (backTo pos (starEach [] env)) (backToKw pos (keywordEach [] env))) := by k_dflt rfl)
    (hp : (backTo pos (starEach [] env)).any (·.1) = false := by k_dflt rfl) : TE W n (.Call (.Attribute o "pop" ap) [] [] pos) env ρ Q st := by
  refine te_meth (T.imp h fun ov st₁ g₀ => ?_) hcall trivial hp
  obtain ⟨r, xs, y, e, hr, hz, q⟩ := g₀
  refine ⟨"list.pop", ?_, ?_⟩
  · subst e; exact isMeth_list hr PySem.F.slot_list_pop PySem.F.type_list_pop
  · refine ta_nil ?_
    subst e
    exact op_lpop hr hz q
theorem te_get {o arg : Expr} {ap pos : Pos} {pl : Sem Bool} (ok : W.Ok) (h : TE W n o env ρ (fun ov st₁ => ∃ r es ep, ov = .ref r ∧ st₁ r = some (.dict es ep) ∧ TE W n arg env ρ (fun v st₂ => ∃ i, v = .int i ∧ st₂ = st₁ ∧ Q ((dget es i).getD .none) st₁) st₁) st)
    (hcall : eval (.Call (.Attribute o "get" ap) [arg] [] pos) env = (do
      let ov ← eval o env
      standAt ap.atName
      let (f, first) ← holding [ov] (getMethod ov "get" pl)
      callWith pos f first (backTo pos (starEach [arg] env)) (backToKw pos (keywordEach [] env))) := by k_dflt rfl)
    (he : starEach [arg] env = (false, eval arg env) :: starEach [] env := by k_dflt rfl) (hp : (backTo pos (starEach [arg] env)).any (·.1) = false := by k_dflt rfl) : TE W n (.Call (.Attribute o "get" ap) [arg] [] pos) env ρ Q st := by
  refine te_meth (T.imp h fun ov st₁ g₀ => ?_) hcall he hp
  obtain ⟨r, es, ep, e, hr, h⟩ := g₀
  refine ⟨"dict.get", ?_, ?_⟩
  · subst e; exact isMeth_dict hr PySem.F.slot_dict_get PySem.F.type_dict_get
  · refine ta_cons (T.imp h fun v st₂ ⟨i, e', e2, q⟩ => ta_nil ?_) he
    subst e e' e2
    exact op_get ok hr q
/-- the value popped out of a dict -/
theorem te_dpop {o arg : Expr} {ap pos : Pos} {pl : Sem Bool} (h : TE W n o env ρ (fun ov st₁ => ∃ r es ep, ov = .ref r ∧ st₁ r = some (.dict es ep) ∧ TE W n arg env ρ (fun v st₂ => ∃ i y, v = .int i ∧ st₂ = st₁ ∧ es.length ≤ 16777216 ∧ dget es i = some y ∧ ∀ ep', Q y (st₁.set r (.dict (ddel es i) ep'))) st₁) st)
    (hcall : eval (.Call (.Attribute o "pop" ap) [arg] [] pos) env = (do
      let ov ← eval o env
      standAt ap.atName
      let (f, first) ← holding [ov] (getMethod ov "pop" pl)
      callWith pos f first (backTo pos (starEach [arg] env)) (backToKw pos (keywordEach [] env))) := by k_dflt rfl)
    (he : starEach [arg] env = (false, eval arg env) :: starEach [] env := by k_dflt rfl) (hp : (backTo pos (starEach [arg] env)).any (·.1) = false := by k_dflt rfl) : TE W n (.Call (.Attribute o "pop" ap) [arg] [] pos) env ρ Q st := by
  refine te_meth (T.imp h fun ov st₁ g₀ => ?_) hcall he hp
  obtain ⟨r, es, ep, e, hr, h⟩ := g₀
  refine ⟨"dict.pop", ?_, ?_⟩
  · subst e; exact isMeth_dict hr PySem.F.slot_dict_pop PySem.F.type_dict_pop
  · refine ta_cons (T.imp h fun v st₂ ⟨i, y, e', e2, hz, hy, q⟩ => ta_nil ?_) he
    subst e e' e2
    exact op_dpop hr hz hy q
end

section
variable {W : Wd} {n : Nat} {st : St} {Q : V → St → Prop}
theorem op_inteq {a b : Int} (q : Q (.bool (decide (a = b))) st) : OP W n VR (op2 (compareOp .Eq)) [.int a, .int b] Q st :=
  op_eq rfl rfl (by simp [PyData.canLay0]) (by simp [PyData.canLay0]) (by simp [PyData.depth]) (by
    have e : PyData.eqv (.int a) (.int b) = decide (a = b) := by simp [PyData.eqv]; exact Bool.eq_iff_iff.mpr (by simp)
    rw [e]; exact q)
theorem op_intne {a b : Int} (q : Q (.bool (!decide (a = b))) st) : OP W n VR (op2 (compareOp .NotEq)) [.int a, .int b] Q st :=
  op_ne rfl rfl (by simp [PyData.canLay0]) (by simp [PyData.canLay0]) (by simp [PyData.depth]) (by
    have e : PyData.eqv (.int a) (.int b) = decide (a = b) := by simp [PyData.eqv]; exact Bool.eq_iff_iff.mpr (by simp)
    rw [e]; exact q)
end

theorem dget_mem {α : Type} {es : List (Int × α)} {k : Int} {u : α} (hn : (es.map (·.1)).Nodup) (h : (k, u) ∈ es) : dget es k = some u := by
  unfold dget
  induction es with
  | nil => cases h
  | cons e r ih =>
    simp only [List.map_cons, List.nodup_cons] at hn
    simp only [List.find?_cons]
    rcases List.mem_cons.mp h with h | h
    · subst h; simp
    · have hne : e.1 ≠ k := fun q => hn.1 (q ▸ List.mem_map.mpr ⟨_, h, rfl⟩)
      simp only [decide_eq_false hne]
      exact ih hn.2 h
end
section
set_option linter.unusedVariables false

/-! ## loops over pairs -/
inductive TSrc where
  | enum (r : Role) (xs : List V) (e it : Addr) | zip (r1 r2 : Role) (xs ys : List V) (rp : Role) (z ti i1 i2 : Addr)
noncomputable def TSrc.I : TSrc → Addr | .enum _ _ e _ => e | .zip _ _ _ _ _ z _ _ _ => z
noncomputable def TSrc.rows : TSrc → List (List V)
  | .enum _ xs _ _ => xs.zipIdx.map fun p => [.int (p.2 : Nat), p.1]
  | .zip _ _ xs ys _ _ _ _ _ => (xs.zip ys).map fun p => [p.1, p.2]
noncomputable def TSrc.ok (st : St) : TSrc → Prop
  | .enum r xs _ _ => st r = some (.list xs)
  | .zip r1 r2 xs ys rp _ _ _ _ => st r1 = some (.list xs) ∧ st r2 = some (.list ys) ∧ st rp = some .pair
noncomputable def TSrc.fx : TSrc → Addr → Prop
  | .enum _ _ e it => fun a => a = e ∨ a = it
  | .zip _ _ _ _ _ z ti i1 i2 => fun a => a = z ∨ a = ti ∨ a = i1 ∨ a = i2
noncomputable def TSrc.P : TSrc → Addr → Prop
  | .enum _ _ e it => fun a => a = e ∨ a = it
  | .zip _ _ _ _ _ z _ i1 i2 => fun a => a = z ∨ a = i1 ∨ a = i2
noncomputable def TSrc.at (k : Kp) (h : Heap) (j : Nat) : TSrc → Prop
  | .enum r _ e it => (∃ old, IsEnum h e it j old) ∧ h.IsListIter it (k.ad r) j ∧ e ≠ it
  | .zip r1 r2 _ _ rp z ti i1 i2 => IsZip h z ti (k.ad rp) .none ∧ IsPair h ti (.ref i1) (.ref i2) ∧ h.IsListIter i1 (k.ad r1) j ∧ h.IsListIter i2 (k.ad r2) j ∧ (ti ≠ z ∧ i1 ≠ z ∧ i2 ≠ z ∧ ti ≠ i1 ∧ ti ≠ i2 ∧ i1 ≠ i2)
theorem TSrc.fxP (src : TSrc) {a : Addr} (h : src.P a) : src.fx a := by
  cases src with
  | enum r xs e it => exact h
  | zip r1 r2 xs ys rp z ti i1 i2 =>
    rcases h with h | h | h
    · exact .inl h
    · exact .inr (.inr (.inl h))
    · exact .inr (.inr (.inr h))

section
variable {W : Wd} {n : Nat} {env : Env} {ρ : Loc} {st st' : St} {k k' : Kp} {s s' : Shared} {j : Nat}
theorem iter_notup {h : Heap} {it l : Addr} (hi : h.IsListIter it l j) : ∀ vs m, h.get? it ≠ some { cls := .type "tuple", data := .seq vs m } := fun vs m e => by
  obtain ⟨o, ho, hc, _⟩ := hi
  rw [ho] at e; cases e; simp at hc
theorem TSrc.noTup {src : TSrc} {h : Heap} (ha : src.at k h j) : NoTup src.P h := fun a vs m p e => by
  cases src with
  | enum r xs e' it =>
    obtain ⟨⟨old, he⟩, hi, _⟩ := ha
    rcases p with rfl | rfl
    · rw [he] at e; simp at e
    · exact iter_notup hi vs m e
  | zip r1 r2 xs ys rp z ti i1 i2 =>
    obtain ⟨hz, _, h1, h2, _⟩ := ha
    rcases p with rfl | rfl | rfl
    · rw [hz] at e; simp at e
    · exact iter_notup h1 vs m e
    · exact iter_notup h2 vs m e
theorem TSrc.live {src : TSrc} {h : Heap} (ha : src.at k h j) : ∀ a, src.fx a → ∃ o, h.get? a = some o := fun a p => by
  cases src with
  | enum r xs e it =>
    obtain ⟨⟨old, he⟩, ⟨o, ho, _⟩, _⟩ := ha
    rcases p with rfl | rfl
    · exact ⟨_, he⟩
    · exact ⟨_, ho⟩
  | zip r1 r2 xs ys rp z ti i1 i2 =>
    obtain ⟨hz, ht, ⟨o1, ho1, _⟩, ⟨o2, ho2, _⟩, _⟩ := ha
    rcases p with rfl | rfl | rfl | rfl
    · exact ⟨_, hz⟩
    · exact ⟨_, ht⟩
    · exact ⟨_, ho1⟩
    · exact ⟨_, ho2⟩
theorem TSrc.le {src : TSrc} (R : Rel W k s st) (ok : src.ok st) (l : ∀ a x, k.κ a = some x → k'.κ a = some x) (R' : Rel W k' s' st') (ha : src.at k s.heap j) (e : ∀ a, src.fx a → ∀ o, s.heap.get? a = some o → s'.heap.get? a = some o) : src.at k' s'.heap j := by
  cases src with
  | enum r xs e' it =>
    obtain ⟨⟨old, he⟩, hi, hne⟩ := ha
    refine ⟨⟨old, e _ (.inl rfl) _ he⟩, ?_, hne⟩
    rw [ad_same R ok l R']
    exact Heap.IsListIter.at hi (e _ (.inr rfl))
  | zip r1 r2 xs ys rp z ti i1 i2 =>
    obtain ⟨hz, ht, h1, h2, hne⟩ := ha
    refine ⟨?_, e _ (.inr (.inl rfl)) _ ht, ?_, ?_, hne⟩
    · rw [ad_same R ok.2.2 l R']; exact e _ (.inl rfl) _ hz
    · rw [ad_same R ok.1 l R']; exact Heap.IsListIter.at h1 (e _ (.inr (.inr (.inl rfl))))
    · rw [ad_same R ok.2.1 l R']; exact Heap.IsListIter.at h2 (e _ (.inr (.inr (.inr rfl))))
/-- the objects of P are changed, and the pair's -/
theorem Rel.drift (R : Rel W k s st) {P : Addr → Prop} (hP : NoTup P s.heap) (hPκ : ∀ a, P a → k.κ a = none) (hPw : ∀ a, P a → W.h0.get? a = none) {rp : Role} (hr : st rp = some .pair) {h' : Heap} {tk : Nat}
    (hk : ∀ b o, ¬ P b → b ≠ k.ad rp → s.heap.get? b = some o → h'.get? b = some o) (hp : ∃ a b, h'.get? (k.ad rp) = some { cls := .type "tuple", data := .seq #[a, b] }) : Rel W k { s with heap := h', toks := tk } st ∧ Le P k s.heap k h' := by
  have hκ := (R.obj rp _ hr).1
  have l : Le P k s.heap k h' := ⟨fun _ _ x => x, fun a o e nn => by
    by_cases q : P a
    · exact .inl q
    · exact .inr ⟨nn, hk a o q (fun z => by rw [z, hκ] at nn; cases nn) e⟩⟩
  have nP : ∀ a x, k.κ a = some x → ¬ P a := fun a x e p => by rw [hPκ a p] at e; cases e
  refine ⟨⟨fun b o e => ?_, fun a x e => ⟨(R.new a x e).1, (R.new a x e).2.1, ?_⟩, R.gens, R.os, R.own, fun r o e => ?_⟩, l⟩
  · refine hk b o (fun p => by rw [hPw b p] at e; cases e) (fun z => ?_) (R.keep b o e)
    rw [z, (R.new _ _ hκ).1] at e; cases e
  · by_cases z : a = k.ad rp
    · obtain ⟨x, y, hq⟩ := hp
      rw [z]; exact Option.isSome_iff_exists.mpr ⟨_, hq⟩
    · obtain ⟨o, ho⟩ := Option.isSome_iff_exists.mp (R.new a x e).2.2
      exact Option.isSome_iff_exists.mpr ⟨o, hk a o (nP a x e) z ho⟩
  · by_cases z : r = rp
    · subst z
      rw [hr] at e; cases e
      exact ⟨hκ, hp⟩
    · have X := R.obj r o e
      refine ⟨X.1, OR.mono l hP rfl rfl (fun o₁ e₁ => hk _ _ (nP _ _ X.1) (fun y => ?_) e₁) (fun x o₁ e₁ => hk _ _ (nP _ _ x) (fun y => ?_) e₁) X.2⟩
      · have := X.1; rw [y, hκ] at this; exact z (Prod.mk.inj (Option.some.inj this)).1.symm
      · rw [y, hκ] at x; exact z (Prod.mk.inj (Option.some.inj x)).1.symm
/-- a new pair -/
theorem Rel.adoptPair (R : Rel W k s st) {h' : Heap} {tk : Nat} (hk : ∀ a o, s.heap.get? a = some o → h'.get? a = some o) {a : Addr} {r : Role} (hr : st r = none) (hlo : W.h0.get? a = none ∧ 3 < a) (hn : s.heap.get? a = none) {x y : Value} (ho : h'.get? a = some { cls := .type "tuple", data := .seq #[x, y] }) :
    Rel W (k.add r a) { s with heap := h', toks := tk } (st.set r .pair) ∧ Le nob k s.heap (k.add r a) h' := by
  have hκ : k.κ a = none := by
    cases q : k.κ a with
    | none => rfl
    | some x =>
      obtain ⟨o, ho⟩ := Option.isSome_iff_exists.mp (R.new _ _ q).2.2
      rw [hn] at ho; cases ho
  have l : Le nob k s.heap (k.add r a) h' := ⟨Kp.add_map hκ, fun b o e nn => .inr ⟨by rw [Kp.add_ne fun q => by rw [q, hn] at e; cases e]; exact nn, hk b o e⟩⟩
  refine ⟨⟨fun b o e => hk b o (R.keep b o e), fun b x e => ?_, R.gens, R.os, fun b r' c e => ?_, fun r' o e => ?_⟩, l⟩
  · by_cases q : b = a
    · subst q; exact ⟨hlo.1, hlo.2, Option.isSome_iff_exists.mpr ⟨_, ho⟩⟩
    · rw [Kp.add_ne q] at e
      obtain ⟨o, ho⟩ := Option.isSome_iff_exists.mp (R.new b x e).2.2
      exact ⟨(R.new b x e).1, (R.new b x e).2.1, Option.isSome_iff_exists.mpr ⟨o, hk b o ho⟩⟩
  · by_cases q : b = a
    · rw [q, Kp.add_self] at e; cases e
      exact ⟨by rw [St.set_same]; exact Option.some_ne_none _, q.trans Kp.add_ads.symm⟩
    · rw [Kp.add_ne q] at e
      have X := R.own b r' c e
      have hne : r' ≠ r := fun z => X.1 (z ▸ hr)
      refine ⟨by rw [St.set_ne hne]; exact X.1, X.2.trans ?_⟩
      cases c
      · simp only [if_false, Bool.false_eq_true]; exact (Kp.add_ad hne).symm
      · rfl
  · by_cases q : r' = r
    · subst q
      rw [St.set_same] at e; cases e
      exact ⟨by rw [Kp.add_ads]; exact Kp.add_self, x, y, by rw [Kp.add_ads]; exact ho⟩
    · rw [St.set_ne q] at e
      have X := R.obj r' o e
      have had : (k.add r a).ad r' = k.ad r' := Kp.add_ad q
      refine ⟨by rw [had]; exact l.map _ _ X.1, OR.mono l NoTup.nob had rfl (fun o₁ e₁ => hk _ _ e₁) (fun _ o₁ e₁ => hk _ _ e₁) X.2⟩
theorem zipApart {r1 r2 rp : Role} {xs ys : List V} {z ti i1 i2 : Addr} (R : Rel W k s st) (hok : st r1 = some (.list xs) ∧ st r2 = some (.list ys) ∧ st rp = some .pair) (hκ : ∀ a, (a = z ∨ a = ti ∨ a = i1 ∨ a = i2) → k.κ a = none) (hne : ti ≠ z ∧ i1 ≠ z ∧ i2 ≠ z ∧ ti ≠ i1 ∧ ti ≠ i2 ∧ i1 ≠ i2) : ZipApart z ti (k.ad rp) i1 i2 (k.ad r1) (k.ad r2) := by
  have c1 := (R.obj _ _ hok.1).1
  have c2 := (R.obj _ _ hok.2.1).1
  have cp := (R.obj _ _ hok.2.2).1
  have nz := hκ z (.inl rfl)
  have nt := hκ ti (.inr (.inl rfl))
  have n1 := hκ i1 (.inr (.inr (.inl rfl)))
  have n2 := hκ i2 (.inr (.inr (.inr rfl)))
  have ne : ∀ {a b x}, k.κ a = some x → k.κ b = none → a ≠ b := fun h1 h2 q => by rw [q, h2] at h1; cases h1
  have nl : ∀ {r : Role} {zs : List V}, k.κ (k.ad r) = some (r, false) → st r = some (.list zs) → k.ad r ≠ k.ad rp := fun h1 h2 q => by
    rw [q, cp] at h1
    have e : rp = _ := (Prod.mk.inj (Option.some.inj h1)).1
    rw [← e, hok.2.2] at h2; cases h2
  exact ⟨hne.1, ne cp nz, hne.2.1, hne.2.2.1, (ne cp nt).symm, hne.2.2.2.1, hne.2.2.2.2.1, ne cp n1, ne cp n2, hne.2.2.2.2.2, ne c1 nz, nl c1 hok.1, ne c1 n1, ne c1 n2, ne c2 nz, nl c2 hok.2.1, ne c2 n1, ne c2 n2⟩
theorem TSrc.next (ok : W.Ok) {src : TSrc} {A : Around} (hA : Room n A) (R : Rel W k s st) (hs : src.ok st) (ha : src.at k s.heap j) (hκ : ∀ a, src.fx a → k.κ a = none) (hw : ∀ a, src.fx a → W.h0.get? a = none) {x : List V} (hx : src.rows[j]? = some x) {elts : List Expr} {kd : Nat} {pos : Pos}
    {Pq : Option Value → Shared → Prop} (c : ∀ T s₁, wpAny (model W.prog W.w) A (letOwnedTupleGo (.Tuple elts kd pos) (.ref src.I) (.ref T)) (fun _ s' => Rel W k s' st ∧ Le src.P k s.heap k s'.heap ∧ VR k s'.heap (.ref T) (.tup x) ∧ src.at k s'.heap (j + 1)) noE s₁ → Pq (some (.ref T)) s₁) :
    wpAny (model W.prog W.w) A (pyNext (.ref src.I)) Pq noE s := by
  have nt := TSrc.noTup ha
  cases src with
  | enum r xs e it =>
    obtain ⟨⟨old, he⟩, hi, hne⟩ := ha
    have hs : st r = some (.list xs) := hs
    obtain ⟨vs, m, hl, rs⟩ := R.listAt (R.obj r _ hs).1 hs
    simp only [TSrc.rows, List.getElem?_map, List.getElem?_zipIdx, Option.map_eq_some_iff] at hx
    obtain ⟨⟨y, i⟩, ⟨y', hy, hyi⟩, rfl⟩ := hx
    cases hyi
    obtain ⟨v, hv, rv⟩ := rs.get hy
    refine wpAny_pyNext_enum_item he hi hl.isList (by simpa using hv) hne fun h₁ ho hit hT hsz hk => c _ _ (wpAny_letOwnedTupleGo_enum ho fun h₂ he' hs' => ?_)
    have kept : ∀ b o, ¬ (b = e ∨ b = it) → s.heap.get? b = some o → h₂.get? b = some o := fun b o hb q => (hs'.2 b fun z => hb (.inl z)).trans (hk b o (fun z => hb (.inl z)) (fun z => hb (.inr z)) q)
    have l : Le (TSrc.P (.enum r xs e it)) k s.heap k h₂ := ⟨fun _ _ x => x, fun a o q nn => by
      by_cases p : a = e ∨ a = it
      · exact .inl p
      · exact .inr ⟨nn, kept a o p q⟩⟩
    have R₂ : Rel W k { s with heap := h₂, toks := s.toks + 1 } st := R.le (s' := { s with heap := h₂, toks := s.toks + 1 }) l nt (fun a p => hw a p) (fun a x q o ho => kept a o (fun p => by rw [hκ a p] at q; cases q) ho) rfl rfl
    have helt : e < s.heap.objs.size := Heap.lt_size he
    refine ⟨R₂, l, ?_, ⟨_, by simpa [TSrc.I] using he'⟩, Heap.IsListIter.at hit fun o q => (hs'.2 it hne.symm).trans q, hne⟩
    exact .tup (vs := [.int (j : Int) s.toks, v]) (n := 0) ((hs'.2 _ (Nat.ne_of_gt helt)).trans hT) R.freshκ (.cons (by simpa using VR.int _ _) (.cons (rv.mono l nt) .nil))
  | zip r1 r2 xs ys rp z ti i1 i2 =>
    obtain ⟨hz, ht, h1, h2, hne⟩ := ha
    have hs : st r1 = some (.list xs) ∧ st r2 = some (.list ys) ∧ st rp = some .pair := hs
    have D := zipApart R hs (fun a p => hκ a p) hne
    obtain ⟨vs, m, hl, rs⟩ := R.listAt (R.obj r1 _ hs.1).1 hs.1
    obtain ⟨vs2, m2, hl2, rs2⟩ := R.listAt (R.obj r2 _ hs.2.1).1 hs.2.1
    obtain ⟨pa, pb, hpair⟩ := (R.obj rp _ hs.2.2).2
    simp only [TSrc.rows, List.getElem?_map, Option.map_eq_some_iff] at hx
    obtain ⟨⟨y, y2⟩, hy, rfl⟩ := hx
    obtain ⟨hy1, hy2⟩ := List.getElem?_zip_eq_some.mp hy
    obtain ⟨v, hv, rv⟩ := rs.get hy1
    obtain ⟨v2, hv2, rv2⟩ := rs2.get hy2
    refine wpAny_pyNext_zip_item D hz ht hpair h1 h2 hl.isList hl2.isList (by simpa using hv) (by simpa using hv2) fun h₁ a1 a2 a3 a4 a5 a6 hk => c _ _ (wpAny_letOwnedTupleGo_zip a1 fun h₂ hz' hs' => ?_)
    have kept : ∀ b o, ¬ (b = z ∨ b = i1 ∨ b = i2) → b ≠ k.ad rp → s.heap.get? b = some o → h₂.get? b = some o := fun b o hb hb2 q => (hs'.2 b fun z => hb (.inl z)).trans (hk b o (fun z => hb (.inl z)) hb2 (fun z => hb (.inr (.inl z))) (fun z => hb (.inr (.inr z))) q)
    obtain ⟨R₂, l⟩ := R.drift (P := TSrc.P (.zip r1 r2 xs ys rp z ti i1 i2)) nt (fun a p => hκ a (TSrc.fxP _ p)) (fun a p => hw a (TSrc.fxP _ p)) hs.2.2 (h' := h₂) (tk := s.toks) (fun b o p q => kept b o p q) ⟨v, v2, (hs'.2 _ D.TOz).trans a2⟩
    have hzlt : z < s.heap.objs.size := Heap.lt_size hz
    refine ⟨R₂, l, ?_, hz', (hs'.2 _ D.TIz).trans (hk _ _ D.TIz D.TITO D.TIi1 D.TIi2 ht), Heap.IsListIter.at a3 fun o q => (hs'.2 _ D.i1z).trans q, Heap.IsListIter.at a4 fun o q => (hs'.2 _ D.i2z).trans q, hne⟩
    exact .tup (vs := [v, v2]) (n := 0) ((hs'.2 _ (Nat.ne_of_gt hzlt)).trans a5) R.freshκ (.cons (rv.mono l nt) (.cons (rv2.mono l nt) .nil))
/-- the end of a pairing: the reused pair stays -/
theorem zip_end {z ti TO i1 i2 l1 : Addr} {vs : Array Value} {A : Around} {Q : Option Value → Shared → Prop} (hA : Room n A) (hz : IsZip s.heap z ti TO .none) (ht : IsPair s.heap ti (.ref i1) (.ref i2)) (h1 : s.heap.IsListIter i1 l1 j) (hl : s.heap.IsList l1 vs) (hx : vs[j]? = none) (n1 : i1 ≠ z) (n2 : l1 ≠ z)
    (q : ∀ h', (∀ c o, c ≠ z → c ≠ i1 → s.heap.get? c = some o → h'.get? c = some o) → Q none { s with heap := h' }) : wpAny (model W.prog W.w) A (pyNext (.ref z)) Q noE s := by
  have hT : s.TypeIs (.ref z) "zip" := ⟨_, hz, rfl⟩
  unfold pyNext
  refine wpAny_bind (wpAny_attempt (wpAny_callSpecial?_slot (name := Str.ofString "__next__") hT F.slot_zip_next (wpAny_call_entry F.slot_zip_next hT F.entry_zip_next ?_ (F.args_zip_next_1 _))))
  show wpAny _ _ (field (.ref z) 2 >>= _) _ _ _
  refine wpAny_bind (wpAny_field hz rfl (x := .bool false) rfl ?_)
  show wpAny _ _ (field (.ref z) 3 >>= _) _ _ _
  refine wpAny_bind (wpAny_field hz rfl (x := .ref ti) rfl (wpAny_bind (wpAny_seqItems ht rfl ?_)))
  show wpAny _ _ (Builtin.SmallTypes.ownedTupleIsFree (.ref z) >>= _) _ _ _
  unfold Builtin.SmallTypes.ownedTupleIsFree
  refine wpAny_bind (wpAny_bind (wpAny_field hz rfl (x := .none) rfl (wpAny_pure ?_)))
  simp only [if_true]
  refine wpAny_bind (wpAny_rule (wpAny_bind (wpAny_field hz rfl (x := .ref TO) rfl (wpAny_bind (wpAny_setField_rec hz (by simp) fun h₁ hz₁ hs₁ => wpAny_bind ?_)))))
  simp only [List.zipIdx_cons, List.zipIdx_nil, List.forIn_cons, List.forIn_nil]
  refine wpAny_bind (wpAny_bind (wpAny_onRaise ?_))
  show wpAny _ _ (Builtin.SmallTypes.nextOf (.ref i1) >>= _) _ _ _
  refine wpAny_bind (wpAny_nextOf_list_end hA.1 (h1.extBut hs₁.extBut n1) (hl.extBut hs₁.extBut n2) hx fun h₂ e hs₂ ⟨oe, hoe, hce⟩ => ?_)
  have hz₂ := hs₂ _ _ n1.symm hz₁
  have hez : e ≠ z := fun x => by subst x; rw [hz₂] at hoe; cases hoe; simp at hce
  refine wpAny_setField_rec hz₂ (by simp) fun h₃ _ hs₃ => ?_
  have ho : h₃.get? e = some oe := hs₃.extBut _ _ hez hoe
  refine wpAny_bind (wpAny_isInstance (T := "StopIteration") (b := true) ⟨_, ho, hce⟩ isSubtype_stop ?_)
  exact wpAny_pure (q h₃ fun c o c1 c2 x => hs₃.extBut _ _ c1 (hs₂ _ _ c2 (hs₁.extBut _ _ c1 x)))
theorem TSrc.done (ok : W.Ok) {src : TSrc} {A : Around} (hA : Room n A) (R : Rel W k s st) (hs : src.ok st) (ha : src.at k s.heap src.rows.length) (hκ : ∀ a, src.fx a → k.κ a = none) (hw : ∀ a, src.fx a → W.h0.get? a = none) (hlen : ∀ r1 r2 xs ys rp z ti i1 i2, src = .zip r1 r2 xs ys rp z ti i1 i2 → xs.length = ys.length)
    {Pq : Option Value → Shared → Prop} (c : ∀ s', Rel W k s' st → Le src.P k s.heap k s'.heap → Pq none s') : wpAny (model W.prog W.w) A (pyNext (.ref src.I)) Pq noE s := by
  have nt := TSrc.noTup ha
  cases src with
  | enum r xs e it =>
    obtain ⟨⟨old, he⟩, hi, hne⟩ := ha
    have hs : st r = some (.list xs) := hs
    obtain ⟨vs, m, hl, rs⟩ := R.listAt (R.obj r _ hs).1 hs
    refine wpAny_pyNext_enum_end hA.1 he hi hl.isList (by simp [TSrc.rows, rs.length]) fun h₁ hk => ?_
    have kept : ∀ b o, ¬ (b = e ∨ b = it) → s.heap.get? b = some o → h₁.get? b = some o := fun b o hb q => hk b o (fun z => hb (.inr z)) q
    have l : Le (TSrc.P (.enum r xs e it)) k s.heap k h₁ := ⟨fun _ _ x => x, fun a o q nn => by
      by_cases p : a = e ∨ a = it
      · exact .inl p
      · exact .inr ⟨nn, kept a o p q⟩⟩
    exact c _ (R.le (s' := { s with heap := h₁ }) l nt (fun a p => hw a p) (fun a x q o ho => kept a o (fun p => by rw [hκ a p] at q; cases q) ho) rfl rfl) l
  | zip r1 r2 xs ys rp z ti i1 i2 =>
    obtain ⟨hz, ht, h1, h2, hne⟩ := ha
    have hs : st r1 = some (.list xs) ∧ st r2 = some (.list ys) ∧ st rp = some .pair := hs
    have D := zipApart R hs (fun a p => hκ a p) hne
    obtain ⟨vs, m, hl, rs⟩ := R.listAt (R.obj r1 _ hs.1).1 hs.1
    have hpair := (R.obj rp _ hs.2.2).2
    have hxy := hlen _ _ _ _ _ _ _ _ _ rfl
    refine zip_end hA hz ht h1 hl.isList (by simp [TSrc.rows, rs.length, hxy]) D.i1z D.l1z fun h₁ hk => ?_
    obtain ⟨pa, pb, hp⟩ := hpair
    obtain ⟨R₂, l⟩ := R.drift (P := TSrc.P (.zip r1 r2 xs ys rp z ti i1 i2)) nt (fun a p => hκ a (TSrc.fxP _ p)) (fun a p => hw a (TSrc.fxP _ p)) hs.2.2 (h' := h₁) (tk := s.toks) (fun b o p q e => hk b o (fun z => p (.inl z)) (fun z => p (.inr (.inl z))) e) ⟨pa, pb, hk _ _ D.TOz D.TOi1 hp⟩
    exact c _ R₂ l

inductive PI2 (W : Wd) (k : Kp) (h : Heap) (QI : TSrc → St → Prop) (i : Value) (s₂ : Shared) : Prop
  | mk (k' : Kp) (src : TSrc) (st' : St) (hi : i = .ref src.I) (R : Rel W k' s₂ st') (l : Le nob k h k' s₂.heap) (hf : ∀ a, src.fx a → h.get? a = none ∧ k'.κ a = none ∧ ∃ o, s₂.heap.get? a = some o) (hok : src.ok st') (hat : src.at k' s₂.heap 0)
      (hlen : ∀ r1 r2 xs ys rp z ti i1 i2, src = .zip r1 r2 xs ys rp z ti i1 i2 → xs.length = ys.length) (q : QI src st')
inductive PFor2 (W : Wd) (k : Kp) (h : Heap) (env : Env) (ρ : Loc) (src : TSrc) (I : Nat → St → Prop) (m : Nat) (s' : Shared) : Prop
  | mk (j : Nat) (k' : Kp) (st' : St) (hm : m = src.rows.length + 1 - j) (hj : j ≤ src.rows.length) (R : Rel W k' s' st') (l : Le (own env) k h k' s'.heap) (L : LocR W k' env s'.heap ρ) (hκ : ∀ a, src.fx a → k'.κ a = none) (hat : src.at k' s'.heap j) (hI : I j st')
noncomputable def TI2 (W : Wd) (n : Nat) (e : Expr) (env : Env) (ρ : Loc) (QI : TSrc → St → Prop) (st : St) : Prop :=
  ∀ A s k, Room n A → Rel W k s st → LocR W k env s.heap ρ → wpAny (model W.prog W.w) A (eval e env) (fun v s₁ => wpAny (model W.prog W.w) A (pyIter v) (PI2 W k s.heap QI) noE s₁) noE s
variable {QI : TSrc → St → Prop}
theorem ti_enum (ok : W.Ok) {p pos : Pos} {e : Expr} (hm : W.mg "enumerate" = none) (hk : env.kindOf "enumerate" = some .globalImplicit) (hb : bootBuiltins "enumerate" = some (.type "enumerate"))
    (h : TA W n [e] pos env ρ (fun vs st' => ∃ r xs, vs = [.ref r] ∧ st' r = some (.list xs) ∧ ∀ a b, QI (.enum r xs a b) st') st) (he : starEach [e] env = (false, eval e env) :: starEach [] env := by k_dflt rfl)
    (hp : (backTo pos (starEach [e] env)).any (·.1) = false := by k_dflt rfl) : TI2 W n (.Call (.Name "enumerate" p) [e] [] pos) env ρ QI st := by
  intro A s k hA R L
  refine run_bfun ok hm hk hb hA R L h (fun vs s₁ k₁ xs st₁ R₁ L₁ l₁ rs g => ?_) (he := he) (hp := hp)
  obtain ⟨r, ys, rfl, hr, q⟩ := g
  obtain ⟨a, rfl, ra⟩ := rs.one
  obtain ⟨b, rfl, e⟩ := ra.ref_inv
  obtain ⟨ws, m, hl, rs'⟩ := R₁.listAt e hr
  refine call_enumerate_list hl.isList fun h' hE hI hsz hk => ?_
  refine wpAny_pyIter_enum hE ?_
  obtain ⟨R₂, l₂⟩ := R₁.grow (h' := h') (tk := s₁.toks) hk
  have fresh : ∀ a, s₁.heap.objs.size ≤ a → s.heap.get? a = none ∧ k₁.κ a = none := fun a ha => by
    have hn : s₁.heap.get? a = none := by
      cases q : s₁.heap.get? a with
      | none => rfl
      | some o => exact absurd (Heap.lt_size q) (Nat.not_lt.mpr ha)
    have hκ : k₁.κ a = none := by
      cases q : k₁.κ a with
      | none => rfl
      | some x =>
        obtain ⟨o, ho⟩ := Option.isSome_iff_exists.mp (R₁.new _ _ q).2.2
        rw [hn] at ho; cases ho
    exact ⟨fresh_of_le l₁ hn id hκ, hκ⟩
  refine ⟨k₁, .enum r ys (s₁.heap.objs.size + 1) s₁.heap.objs.size, st₁, rfl, R₂, l₁.trans l₂, fun a ha => ?_, hr, ⟨⟨_, hE⟩, by rw [← R₁.addr e]; exact hI, by simp⟩, (fun _ _ _ _ _ _ _ _ _ q => by cases q), q _ _⟩
  obtain ⟨oi, hoi, _⟩ := hI
  rcases ha with rfl | rfl
  · exact ⟨(fresh _ (Nat.le_succ _)).1, (fresh _ (Nat.le_succ _)).2, _, hE⟩
  · exact ⟨(fresh _ (Nat.le_refl _)).1, (fresh _ (Nat.le_refl _)).2, _, hoi⟩
theorem ti_zip (ok : W.Ok) {p pos : Pos} {e1 e2 : Expr} (rp : Role) (hm : W.mg "zip" = none) (hk : env.kindOf "zip" = some .globalImplicit) (hb : bootBuiltins "zip" = some (.type "zip"))
    (h : TA W n [e1, e2] pos env ρ (fun vs st' => ∃ r1 r2 xs ys, vs = [.ref r1, .ref r2] ∧ st' r1 = some (.list xs) ∧ st' r2 = some (.list ys) ∧ xs.length = ys.length ∧ st' rp = none ∧ ∀ a b c d, QI (.zip r1 r2 xs ys rp a b c d) (st'.set rp .pair)) st) (he : starEach [e1, e2] env = (false, eval e1 env) :: starEach [e2] env := by k_dflt rfl)
    (hp : (backTo pos (starEach [e1, e2] env)).any (·.1) = false := by k_dflt rfl) : TI2 W n (.Call (.Name "zip" p) [e1, e2] [] pos) env ρ QI st := by
  intro A s k hA R L
  refine run_bfun ok hm hk hb hA R L h (fun vs s₁ k₁ xs st₁ R₁ L₁ l₁ rs g => ?_) (he := he) (hp := hp)
  obtain ⟨r1, r2, xs, ys, rfl, hr1, hr2, hlen, hrp, q⟩ := g
  cases rs with
  | cons ra rs =>
  cases rs with
  | cons rb rs =>
  cases rs
  obtain ⟨a1, rfl, e1'⟩ := ra.ref_inv
  obtain ⟨a2, rfl, e2'⟩ := rb.ref_inv
  obtain ⟨ws1, m1, hl1, rs1⟩ := R₁.listAt e1' hr1
  obtain ⟨ws2, m2, hl2, rs2⟩ := R₁.listAt e2' hr2
  refine call_zip_2 hl1.isList hl2.isList fun h' hz hti hto h1 h2 hsz hk => ?_
  refine wpAny_pyIter_zip hz ?_
  have none' : ∀ a, s₁.heap.objs.size ≤ a → s₁.heap.get? a = none := fun a ha => by
    cases q : s₁.heap.get? a with
    | none => rfl
    | some o => exact absurd (Heap.lt_size q) (Nat.not_lt.mpr ha)
  have fresh : ∀ a, s₁.heap.objs.size ≤ a → s.heap.get? a = none ∧ k₁.κ a = none := fun a ha => by
    have hκ : k₁.κ a = none := by
      cases q : k₁.κ a with
      | none => rfl
      | some x =>
        obtain ⟨o, ho⟩ := Option.isSome_iff_exists.mp (R₁.new _ _ q).2.2
        rw [none' a ha] at ho; cases ho
    exact ⟨fresh_of_le l₁ (none' a ha) id hκ, hκ⟩
  obtain ⟨R₂, l₂⟩ := R₁.adoptPair (h' := h') (tk := s₁.toks) hk hrp (a := s₁.heap.objs.size + 3) (R₁.lo ok (by omega)) (none' _ (by omega)) hto
  have ne1 : r1 ≠ rp := fun z => by rw [z, hrp] at hr1; cases hr1
  have ne2 : r2 ≠ rp := fun z => by rw [z, hrp] at hr2; cases hr2
  have q1 : (k₁.add rp (s₁.heap.objs.size + 3)).ad r1 = a1 := (Kp.add_ad ne1).trans (R₁.addr e1').symm
  have q2 : (k₁.add rp (s₁.heap.objs.size + 3)).ad r2 = a2 := (Kp.add_ad ne2).trans (R₁.addr e2').symm
  have nn : ∀ i j : Nat, i ≠ j → s₁.heap.objs.size + i ≠ s₁.heap.objs.size + j := fun i j h q => h (Nat.add_left_cancel q)
  obtain ⟨o1, ho1, _⟩ := id h1
  obtain ⟨o2, ho2, _⟩ := id h2
  refine ⟨_, .zip r1 r2 xs ys rp (s₁.heap.objs.size + 4) (s₁.heap.objs.size + 2) s₁.heap.objs.size (s₁.heap.objs.size + 1), _, rfl, R₂, l₁.trans l₂, fun a ha => ?_, ⟨by rw [St.set_ne ne1]; exact hr1, by rw [St.set_ne ne2]; exact hr2, St.set_same⟩, ⟨by rw [Kp.add_ads]; exact hz, hti, by rw [q1]; exact h1, by rw [q2]; exact h2, nn 2 4 (by decide), nn 0 4 (by decide), nn 1 4 (by decide), nn 2 0 (by decide), nn 2 1 (by decide), nn 0 1 (by decide)⟩, (fun _ _ _ _ _ _ _ _ _ q => by cases q; exact hlen), q _ _ _ _⟩
  have base : ∀ b, s₁.heap.objs.size ≤ b → b ≠ s₁.heap.objs.size + 3 → s.heap.get? b = none ∧ (k₁.add rp (s₁.heap.objs.size + 3)).κ b = none := fun b hb hne => ⟨(fresh b hb).1, by rw [Kp.add_ne hne]; exact (fresh b hb).2⟩
  rcases ha with rfl | rfl | rfl | rfl
  · exact ⟨(base _ (by omega) (by omega)).1, (base _ (by omega) (by omega)).2, _, hz⟩
  · exact ⟨(base _ (by omega) (by omega)).1, (base _ (by omega) (by omega)).2, _, hti⟩
  · exact ⟨(base _ (by omega) (by omega)).1, (base _ (by omega) (by omega)).2, _, ho1⟩
  · exact ⟨(base _ (by omega) (by omega)).1, (base _ (by omega) (by omega)).2, _, ho2⟩

variable {Q : Fl → Loc → St → Prop}
theorem tx_fort (ok : W.Ok) {es : List Expr} {kd : Nat} {tp pos : Pos} {iter : Expr} {body : List Stmt}
    (h : TI2 W n iter env ρ (fun src st₁ => ∃ I : Nat → St → Prop, I 0 st₁ ∧
      (∀ j st' x, I j st' → src.rows[j]? = some x → src.ok st' ∧ TT W n (assign (.Tuple es kd tp) env) (.tup x) env ρ (fun ρ' => TXs W n body env ρ' (KLp (PSub ρ (I (j + 1))) Q)) st') ∧
      (∀ st', I src.rows.length st' → src.ok st' ∧ Q .next ρ st')) st)
    (hs : ∀ x, foldedSetIterable iter env x = pure x := by intro _; rfl) : TX W n (.For (.Tuple es kd tp) iter body [] pos) env ρ Q st := by
  intro A s k hA R L
  refine wpAny_For (wpAny_mono (h A s k hA R L) (fun v s₁ h₁ => wpAny_mono h₁ (fun i s₂ h₂ => ?_) fun _ _ f => f.elim) fun _ _ f => f.elim) hs
  obtain ⟨k₂, src, st₂, rfl, R₂, l₂, hfx, hok, hat, hlen, I, h0, turn, fin⟩ := h₂
  have hw : ∀ a, src.fx a → W.h0.get? a = none := fun a ha => by
    cases q : W.h0.get? a with
    | none => rfl
    | some o => have z := (hfx a ha).1; rw [R.keep _ _ q] at z; cases z
  have hown : ∀ b, own env b → ¬ src.P b := fun b hb p => by
    obtain ⟨o, ho⟩ := L.live hb
    rw [(hfx b (TSrc.fxP src p)).1] at ho; cases ho
  have hownx : ∀ b, own env b → ¬ src.fx b := fun b hb p => by
    obtain ⟨o, ho⟩ := L.live hb
    rw [(hfx b p).1] at ho; cases ho
  refine codeAny_forLoop_any (PFor2 W k s.heap env ρ src I) ?_ (src.rows.length + 1)
    ⟨0, k₂, st₂, rfl, Nat.zero_le _, R₂, l₂.weak, L.le l₂, fun a ha => (hfx a ha).2.1, hat, h0⟩
  rintro m s' ⟨j, k', st', rfl, hj, R', l', L', hκ', hat', hI⟩
  have toS : ∀ {k'' : Kp} {h'' : Heap}, Le src.P k' s'.heap k'' h'' → Le (own env) k s.heap k'' h'' := fun {k'' h''} l => ⟨fun b x e => l.map b x (l'.map b x e), fun b o e nn => by
    rcases l'.rest b o e nn with p | p
    · exact .inl p
    · rcases l.rest b o p.2 p.1 with q | q
      · rw [(hfx b (TSrc.fxP src q)).1] at e; cases e
      · exact .inr q⟩
  by_cases hlt : j < src.rows.length
  · have hx : src.rows[j]? = some src.rows[j] := List.getElem?_eq_getElem hlt
    obtain ⟨hok', tt⟩ := turn j st' _ hI hx
    refine wpAny_mono (TSrc.next ok hA R' hok' hat' hκ' hw hx (elts := es) (kd := kd) (pos := tp) (Pq := fun r s₁ => ∃ T, r = some (.ref T) ∧ wpAny (model W.prog W.w) A (letOwnedTupleGo (.Tuple es kd tp) (.ref src.I) (.ref T)) (fun _ s'' => Rel W k' s'' st' ∧ Le src.P k' s'.heap k' s''.heap ∧ VR k' s''.heap (.ref T) (.tup src.rows[j]) ∧ src.at k' s''.heap (j + 1)) noE s₁) fun T s₁ hgo => ⟨T, rfl, hgo⟩) (fun r s₁ hr => ?_) fun _ _ f => f.elim
    obtain ⟨T, rfl, hgo⟩ := hr
    refine wpAny_mono hgo (fun _ s₃ h₃ => ?_) fun _ _ f => f.elim
    obtain ⟨R₃, l₃, rv, hat₃⟩ := h₃
    have L₃ : LocR W k' env s₃.heap ρ := L'.leP l₃ (TSrc.noTup hat') hown
    refine wpAny_mono (tt A s₃ k' _ hA R₃ L₃ rv) (fun _ s₄ h₄ => ?_) fun _ _ f => f.elim
    obtain ⟨k₄, ρ₄, st₄, R₄, l₄, L₄, hb⟩ := h₄
    refine wpAny_mono (hb A s₄ k₄ hA R₄ L₄) (fun f s₅ ⟨k₅, fl, ρ₅, st₅, R₅, l₅, L₅, r, q⟩ => ?_) fun _ _ f => f.elim
    have l45 : Le (own env) k' s₃.heap k₅ s₅.heap := l₄.trans l₅
    have lall : Le (own env) k s.heap k₅ s₅.heap := (toS l₃).trans l45
    cases r with
    | ret r => exact ⟨k₅, _, ρ₅, st₅, R₅, lall, L₅, .ret r, q⟩
    | next =>
      have live := TSrc.live hat₃
      have hkeep : ∀ a, src.fx a → k₅.κ a = none ∧ ∀ o, s₃.heap.get? a = some o → s₅.heap.get? a = some o := fun a ha => by
        obtain ⟨o, ho⟩ := live a ha
        have := (l45.rest a o ho (hκ' a ha)).resolve_left fun p => hownx a p ha
        exact ⟨this.1, fun o' ho' => by rw [ho] at ho'; cases ho'; exact this.2⟩
      refine ⟨src.rows.length + 1 - (j + 1), by omega, j + 1, k₅, st₅, rfl, hlt, R₅, lall, L₅.sub q.1, fun a ha => (hkeep a ha).1, ?_, q.2⟩
      exact TSrc.le R₃ hok' l45.map R₅ hat₃ fun a ha => (hkeep a ha).2
  · have hj' : j = src.rows.length := by omega
    subst hj'
    obtain ⟨hok', q⟩ := fin st' hI
    refine wpAny_mono (TSrc.done ok hA R' hok' hat' hκ' hw hlen (Pq := fun r s₁ => r = none ∧ Rel W k' s₁ st' ∧ Le src.P k' s'.heap k' s₁.heap) fun s₃ R₃ l₃ => ⟨rfl, R₃, l₃⟩) (fun r s₃ p => ?_) fun _ _ f => f.elim
    obtain ⟨rfl, R₃, l₃⟩ := p
    exact wpAny_execs_nil ⟨k', _, ρ, st', R₃, toS l₃, L'.leP l₃ (TSrc.noTup hat') hown, .next, q⟩
end
end
section
set_option linter.unusedVariables false

/-! ## the law's call -/
theorem ints_vr {k : Kp} {h : Heap} {vs : List Value} {ns : List Int} (r : IntsAre vs ns) : VRs k h vs (ns.map V.int) := ints_VRs r
section
variable {W : Wd} {n : Nat}
noncomputable def kp0 : Kp := ⟨fun _ => none, fun _ => 0, fun _ => 0⟩
theorem rel0 {s : Shared} (hs : s.heap = W.h0) (hg : s.gens = #[]) (ho : s.os = W.os) : Rel W kp0 s (fun _ => none) :=
  ⟨fun b o e => (by rw [hs]; exact e), fun a x e => (by cases e), hg, ho, fun a r b e => (by cases e), fun r o e => (by cases e)⟩
theorem top_run (ok : W.Ok) (F : W.Fns) {params : Arguments} {rest : List Stmt} {scope : Scope} {pos p1 p2 p3 p4 p5 p6 : Pos} {kd : Nat}
    (hd : DefRec.mk "law" params (.Assign [.Name "script" p1] (.Subscript (.Name "script" p2) (.Slice none (some (.Constant (.int 63) kd p3)) none p4) p5) p6 :: rest) scope pos ∈ recsOf PySem.Challenge.pw_pf0213_01)
    (hbind : ∀ pm code doc ws, ws.length = 1 → bindArgs (Calls.docDef "law" params (.Assign [.Name "script" p1] (.Subscript (.Name "script" p2) (.Slice none (some (.Constant (.int 63) kd p3)) none p4) p5) p6 :: rest) scope pm code doc) ⟨ws, []⟩ = pure ((["script"] : List Str).zip ws))
    (hloc : scope.names.lookup ("script" : Str) = some .local) (hk : scope.kind = .function) (hco : scope.isCoroutine = false) (hgen : scope.isGenerator = false)
    {A : Around} {s : Shared} {fa a : Addr} {vs : List Value} {ns : List Int} (hA : Room (n + 1) A) (hm : W.mg "law" = some (.ref fa)) (hs : s.heap = W.h0) (hg : s.gens = #[]) (hos : s.os = W.os) (hl : s.heap.IsList a vs.toArray) (hi : IntsAre vs ns) (hz : vs.length ≤ 63)
    (h : ∀ env : Env, env.scope = scope → TXs W n rest env (Loc.upd (fun _ => none) "script" (.ref (.tmp 0))) (fun fl _ _ => fl = .ret (.bool true)) (St.set (fun _ => none) (.tmp 0) (.list (ns.map V.int)))) :
    wpAny (model W.prog W.w) A (call (.ref fa) [.ref a]) (fun v s' => v = .bool true ∧ s'.os = W.os ∧ s'.gens = #[] ∧ ∀ b o, W.h0.get? b = some o → s'.heap.get? b = some o) noE s := by
  have R : Rel W kp0 s (fun _ => none) := rel0 hs hg hos
  obtain ⟨a', o, pm, code, doc, h1, h2, h3, h4⟩ := F.fns _ hd
  rw [hm] at h1
  cases h1
  refine wpAny_call (codeAny_call_cells hA.depth (R.keep _ _ h2) h3 (ok.lim.keeps R.keep) (h4.keeps R.keep) rfl (hbind pm code doc [.ref a] rfl) rfl (fun x hx => ?_) (fun s₁ X => ?_) hco hgen hk)
  · have hx1 : x.1 ∈ (["script"] : List Str) := (List.of_mem_zip hx).1
    rw [List.mem_singleton.mp hx1]
    exact .inl hloc
  · generalize henv : callEnvC (Calls.docDef "law" params (.Assign [.Name "script" p1] (.Subscript (.Name "script" p2) (.Slice none (some (.Constant (.int 63) kd p3)) none p4) p5) p6 :: rest) scope pm code doc) s.heap.objs.size fa = env at X ⊢
    have hsc : env.scope = scope := by rw [← henv]; rfl
    have hlo : env.locals = s.heap.objs.size := by rw [← henv]; rfl
    have hgl : env.globals = mainGlobals := by rw [← henv]; rfl
    have hbi : env.builtins = builtinsNs := by rw [← henv]; rfl
    have hce : env.cells = cellsFrom (s.heap.objs.size + 1) scope.names [] := by rw [← henv]; rfl
    obtain ⟨h₁, tk, rfl⟩ := X.toInCall.same
    have keep : ∀ b o, s.heap.get? b = some o → h₁.get? b = some o := X.toInCall.keep
    obtain ⟨R₁, l₁⟩ := R.grow (h' := h₁) (tk := tk) keep
    have hfresh : ∀ b, own env b → s.heap.objs.size ≤ b := fun b hb => by
      rcases hb with rfl | ⟨x, hx, hc⟩
      · rw [hlo]; exact Nat.le_refl _
      · exact Nat.le_of_lt (hlo ▸ X.above x b (mem_of_lookup hc))
    have hcell : ∀ x, env.kindOf x = some .cell → ∃ c, env.cells.lookup x = some c := fun x hx => by
      have hx : env.scope.names.lookup x = some .cell := hx
      rw [hsc] at hx
      rw [hce]
      exact Option.isSome_iff_exists.mp (cellsFrom_some _ _ _ (.inl hx))
    have L₁ : LocR W kp0 env h₁ (fun _ => none) := {
      ok := ⟨by rw [hsc]; exact hk, hgl, hbi⟩
      new := fun b hb => ⟨(R.lo ok (hfresh b hb)).1, rfl⟩
      ns := ⟨_, X.toInCall.ns, fun x v hx hv => by cases hv⟩
      cel := fun x hx => by
        obtain ⟨c, hc⟩ := hcell x hx
        exact ⟨c, _, hc, X.cell x c hc, fun v hv => by cases hv⟩
      apart := fun x y c hx hy => name_of_addr X.apart (mem_of_lookup hx) (mem_of_lookup hy) }
    have hks : env.kindOf ("script" : Str) = some .local := by show env.scope.names.lookup _ = _; rw [hsc]; exact hloc
    have hms : bindL env.kindOf ((["script"] : List Str).zip [.ref a]) (fun _ => none) "script" = some (.ref a) := by
      show bindL env.kindOf [(("script" : Str), Value.ref a)] (fun _ => none) ("script" : Str) = _
      unfold bindL
      rw [bindL_not (fun p hp => by cases hp), if_pos hks]
      exact if_pos rfl
    have hl₁ : h₁.IsList a vs.toArray := hl.at fun o e => keep a o e
    have first : wpAny (model W.prog W.w) (A.deeper env) (exec (.Assign [.Name "script" p1] (.Subscript (.Name "script" p2) (.Slice none (some (.Constant (.int 63) kd p3)) none p4) p5) p6) env) (fun f s₂ => f = .next ∧ ∃ k₂, Rel W k₂ s₂ (St.set (fun _ => none) (.tmp 0) (.list (ns.map V.int))) ∧ LocR W k₂ env s₂.heap (Loc.upd (fun _ => none) "script" (.ref (.tmp 0)))) noE { s with heap := h₁, toks := tk } := by
      refine wpAny_Assign_Name ?_ rfl
      refine wpAny_Subscript_Slice (T := "list") slot_list_getitem.lookup (wpAny_Name (wpAny_loadName_local L₁.ok.kind hks X.toInCall.ns hms ?_) (by decide))
      refine wpAny_Slice (wpAny_pure (wpAny_Constant_int (pos := p3) (k := kd) (wpAny_pure ?_)))
      refine ⟨(hl₁.push _).typeIs, wpAny_getItem_list_slice (hl₁.push _) (Heap.IsSliceOf.new ..) .none (.int _ _) .none (by simp) ?_ (by
        rw [List.size_toArray]; exact Nat.le_trans hz (by decide))⟩
      rw [show ((63 : Int)) = ((63 : Nat) : Int) from rfl, slicePick_upto']
      have e : (vs.toArray.toList.take 63).toArray = vs.toArray := by simp [List.take_of_length_le hz]
      rw [e]
      obtain ⟨R₂, l₂⟩ := R₁.push { cls := .type "slice", data := .fields #[.none, .int 63 tk, .none] } (tk := tk + 1)
      obtain ⟨k₃, R₃, l₃, r₃⟩ := R₂.newList ok (ints_vr hi) (r := .tmp 0) rfl (m := 0) (tk := tk + 1)
      have L₃ := L₁.le (l₂.trans l₃)
      exact store (.inl hks) R₃ L₃ r₃ fun s' R' L' l' => ⟨rfl, k₃, R', L'⟩
    refine wpAny_execs_cons (wpAny_mono first (fun f s₂ hf => ?_) fun _ _ f => f.elim)
    obtain ⟨rfl, k₂, R₂, L₂⟩ := hf
    refine wpAny_mono (h env hsc (A.deeper env) _ k₂ (hA.deeper env) R₂ L₂) (fun fl s' ⟨k', fl', ρ', st', R', l', L', r, q⟩ => ?_) fun _ _ p => p.elim
    subst q
    cases r with
    | ret r => cases r; exact ⟨rfl, R'.os, R'.gens, R'.keep⟩
end

/-! ## lists of empty dicts -/
theorem empty_dict {p p' : Program} {w w' : World} {h : Heap} {a : Addr} {ep : Nat} (x : h.DictAt (knd p w) a [] ep) : h.DictOf (knd p' w') a [] := by
  obtain ⟨o, es, ho, hx, hd, hk, hp, hn⟩ := x
  have e : es = #[] := by
    have := hp.length
    simpa using this
  subst e
  exact ⟨o, #[], ep, ho, hx, hd, fun e he => by simp at he, .nil, .nil⟩
theorem op_books {W : Wd} {n : Nat} {st : St} {Q : V → St → Prop} {r r' b0 b1 d0 d1 : Role} {e0 e1 e2 e3 : Nat} (ok : W.Ok) (hr : st r = some (.list [.ref b0, .ref b1])) (hr' : st r' = some (.list [.ref d0, .ref d1]))
    (h0 : st b0 = some (.dict [] e0)) (h1 : st b1 = some (.dict [] e1)) (h2 : st d0 = some (.dict [] e2)) (h3 : st d1 = some (.dict [] e3)) (n0 : b0 ≠ d0) (n1 : b1 ≠ d1) (q : Q (.bool true) st) : OP W n VR (op2 (compareOp .Eq)) [.ref r, .ref r'] Q st := by
  intro A s k vs hA R rr
  obtain ⟨_, _, rfl, ra, rb⟩ := rr.two
  obtain ⟨x, rfl, ex⟩ := ra.ref_inv; obtain ⟨y, rfl, ey⟩ := rb.ref_inv
  obtain ⟨xs, m, hl, rs⟩ := R.listAt ex hr
  obtain ⟨ys, m', hl', rs'⟩ := R.listAt ey hr'
  cases rs with
  | cons ra1 rs =>
  cases rs with
  | cons ra2 rs =>
  cases rs
  cases rs' with
  | cons rb1 rs' =>
  cases rs' with
  | cons rb2 rs' =>
  cases rs'
  obtain ⟨x1, rfl, q1⟩ := ra1.ref_inv; obtain ⟨x2, rfl, q2⟩ := ra2.ref_inv
  obtain ⟨y1, rfl, p1⟩ := rb1.ref_inv; obtain ⟨y2, rfl, p2⟩ := rb2.ref_inv
  have hu : A.in1.units < cLine := by
    have e : cLine = 9900 := rfl
    have := hA.2.2
    show A.units + 1 < _
    omega
  have pair : ∀ {a b : Addr} {ra rb : Role} {ea eb : Nat}, k.κ a = some (ra, false) → k.κ b = some (rb, false) → st ra = some (.dict [] ea) → st rb = some (.dict [] eb) → ra ≠ rb → SeqAt.EqAt A.in1 s (.ref a) (.ref b) true := fun {a b ra rb ea eb} ha hb hda hdb hne => by
    obtain ⟨ka, da, fa⟩ := R.dictAt ha hda
    obtain ⟨kb, db, fb⟩ := R.dictAt hb hdb
    cases fa; cases fb
    refine SeqAt.EqAt.of_refs (fun z => hne (by rw [z, hb] at ha; cases ha; rfl)) fun prog w E Q' hq => ?_
    exact keq_eq (knd := knd prog w) (r := true) (R.notSys ok ha) (R.notSys ok hb) (empty_dict da) (empty_dict db) hu (fun _ => .nil) hq
  refine SeqAt.eq_listAt (e := fun _ => true) hl.isList hl'.isList rfl hA.units (fun j h1' h2' => ?_) ?_
  · rcases j with _ | _ | j
    · exact pair q1 p1 h0 h2 n0
    · exact pair q2 p2 h1 h3 n1
    · have h3' : j + 2 < 2 := h1'
      omega
  · exact .val R (.bool _) q
end
theorem rk {r r' : Role} (h : (r.ctorIdx == r'.ctorIdx) = false) : r ≠ r' := fun e => absurd (beq_iff_eq.mpr (congrArg Role.ctorIdx e)) (by rw [h]; exact Bool.false_ne_true)
theorem kb {QB : Bool → St → Prop} {b : Bool} {st : St} (h : QB b st) : KBool QB (.bool b) st := ⟨b, rfl, h⟩
theorem exl {P : Role → List V → Prop} {st : St} {r : Role} {xs : List V} (h : st r = some (.list xs)) (k : P r xs) : ∃ r' xs', V.ref r = V.ref r' ∧ st r' = some (.list xs') ∧ P r' xs' := ⟨r, xs, rfl, h, k⟩
theorem lena {α : Type} {l : List α} {P : Prop} (h : l.length ≤ 16777216) (k : P) : l.length ≤ 16777216 ∧ P := ⟨h, k⟩
section
open Lean
def nd (k : String) (as : List Syntax) : Syntax := mkNode (.str `Lean.Parser.Tactic k) as.toArray
def sq (ts : List Syntax) : Syntax := nd "tacticSeq" [nd "tacticSeq1Indented" [mkNullNode ts.toArray]]
def fr (ts : List Syntax) : Syntax := nd "first" [mkAtom "first", mkNullNode (ts.map fun t => mkNode `group #[mkAtom "|", sq [t]]).toArray]
def byT (t : Syntax) : Term := ⟨mkNode `Lean.Parser.Term.byTactic #[mkAtom "by", sq [t]]⟩
def kd (t : Syntax) : Syntax := mkNode `PySem.W.tacticK_dflt_ #[mkAtom "k_dflt", t]
def par (ts : List Syntax) : Syntax := nd "paren" [mkAtom "(", sq ts, mkAtom ")"]
def tk (k : String) (t : Term) : Syntax := nd k [mkAtom k, t]
def wr (t : Syntax) : Syntax := nd "withReducible" [mkAtom "with_reducible", sq [t]]
def wa (s : String) : Syntax := mkNode `PyProof.Rows.tacticWalk_at_ #[mkAtom "walk_at", Syntax.mkStrLit s]
def app (n : String) (as : List Term) : Term := Syntax.mkApp (mkIdent n.toName) as.toArray
def named (n : String) (t : Term) : Term := ⟨mkNode `Lean.Parser.Term.namedArgument #[mkAtom "(", mkIdent (.mkSimple n), mkAtom ":=", t, mkAtom ")"]⟩
def hole : Term := ⟨mkNode `Lean.Parser.Term.hole #[mkAtom "_"]⟩
def word (s : String) : Term :=
  let h : Term := ⟨mkNode `Lean.Parser.Term.syntheticHole #[mkAtom "?", mkAtom "_"]⟩
  let asm := nd "assumption" [mkAtom "assumption"]
  let rf := nd "tacticRfl" [mkAtom "rfl"]
  let b := byT asm
  let a := byT (kd asm)
  let r := byT (kd rf)
  let d := byT (kd (fr [rf, asm]))
  let t := byT (kd (fr [tk "exact" (app "trivial" []), rf]))
  let k := app "kof" [a, r]
  let z := app "Nat.le_of_ble_eq_true" [app "rfl" []]
  let o := app "Nat.le_of_lt" [b]
  let l := s.splitOn "/"
  let T : List (Char × Term) := [('?', h),
    ('a', a),
    ('b', b),
    ('r', r),
    ('d', d),
    ('t', t),
    ('w', app "kb" [h]),
    ('q', byT (nd "decide" [mkAtom "decide", nd "optConfig" [mkNullNode #[nd "configItem" [nd "posConfigItem" [mkAtom "+", app "kernel" []]]]]])),
    ('k', k),
    ('i', app "Or.inl" [k]),
    ('j', app "Or.inr" [k]),
    ('G', app "Gd.ok" [a]),
    ('C', named "hcall" r),
    ('S', named "hs" r),
    ('E', named "he" r),
    ('D', named "he" t),
    ('W', named "hw" r),
    ('V', named "hw" (app "sw_env" [a, r])),
    ('I', named "hi" (byT (par [nd "intros" [mkAtom "intros", mkNullNode], mkAtom ";", kd rf]))),
    ('z', z),
    ('o', o),
    ('e', app "eval" [hole, hole]),
    ('u', app "isTrue" [hole, hole, hole]),
    ('s', app "spliced" [hole])]
  app l.head! ((l.getD 1 "?").toList.map fun c => (T.lookup c).getD hole)
def rules (s : String) : List Syntax := (s.splitOn " ").map fun x => tk "refine" (word x)
def walker : Syntax := nd "tacticRepeat_" [mkAtom "repeat", sq [fr (([("Mine.Internal.T/___e____", wa "te"), ("Mine.Internal.OP/_______", fr [wa "op", par [tk "refine" (word "op_cell"), mkAtom ";", wa "op"]]),
    ("Mine.Internal.T/___u____", wa "tb"), ("Mine.Internal.T/___s____", wa "ta"), ("Mine.Internal.TS/_______", wa "tx"), ("Mine.Internal.TTs/________", fr (rules "tts_cons tts_nil"))].map fun (g, t) => par [wr (tk "show" (word g)), mkAtom ";", t]) ++ [wa "tt"])]]
def easy : Syntax := fr (("Nat.le_refl/_ Nat.le_of_lt/b id/z Nat.le_trans/bz Nat.le_add_right/__ Nat.le_add_right_of_le/b Nat.le_add_right_of_le/o Nat.le_of_lt/o Nat.le_trans/bb Nat.lt_succ_of_le/b Nat.add_le_add_right/b_".splitOn " ").map (fun x => tk "exact" (word x)) ++ [nd "omega" [mkAtom "omega", nd "optConfig" [mkNullNode]]])
end
local macro_rules | `(tactic| walk_at $s) => match s.getString with
  | "mm" => pure walker
  | "om" => pure easy
  | "te" => pure (wr (fr (rules "te_local/kd? te_cell/kd? te_attr te_int te_str te_bool te_none te_sub te_cmp te_bin te_not te_ite te_append/C? te_extend/C? te_lpop/C? te_dpop/C? te_get/CG? te_meth/CD? te_fn/Daarq? te_one te_and te_or te_tuple")))
  | "tb" => pure (wr (fr (rules "tb_cmp tb_not tb_andnil tb_ornil tb_and tb_or tb_val/E?")))
  | "tx" => pure (wr (fr (rules "ts_cons ts_nil tx_return tx_if tx_expr/S? tx_name/Si? tx_name/Sj? tx_attr/S? tx_augattr tx_sub/S? tx_augsub/I? tx_delsub tx_tuple/SW? tx_tuple/SV?")))
  | "op" => pure (wr (fr (rules "d_cells/aa? d_vars/aa? d_log/aa? d_last/aa? d_buffer/aa? d_freed/aa? d_tables/aa? d_sort/aaa? d_number/aaa? d_count/aaa? d_slots/aaa? d_colour/aaa? d_isbuf/aaa? d_hasD/aaa? d_weak/aaa? d_entries/aaa? d_val0 d_val1 d_iscell/w d_iscell op_is/w op_is op_isNot/w op_isNot op_truthb d_isref/w d_isref d_isobj/w d_isobj d_isntref/w d_isntref d_isgrey/w d_iswhite/w d_isntgrey/w d_isntblack/w op_add op_sub op_iadd op_isub op_inteq/w op_inteq op_intne/w op_intne op_gt/w op_gt op_lt/w op_lt")))
  | "ta" => pure (wr (fr (rules "ta_pure/ar? ta_nil ta_cons/E?")))
  | "tt" => pure (wr (fr (rules "tt_tuple/rr? tt_name/i? tt_name/j? tt_attr lena/z? exl/a? if_t/d? if_f/d? ifp_t/d? ifp_f/d?")))
  | _ => Lean.Macro.throwUnsupported

section
/-! ## the pure functions -/
noncomputable def S.slot0 (s : S) (n : Nat) : Val := (dget (s.cell n).slots 0).getD (.int 0)
noncomputable def S.isRef (s : S) (v : Val) : Bool := match s.cellOf v with | some n => decide ((s.cell n).sort = .rf) | none => false
noncomputable def S.inner (s : S) (v : Val) : Val := match s.cellOf v with | some n => if (s.cell n).sort = .rf then s.slot0 n else v | none => v
noncomputable def S.valueOf (s : S) (var : Int) : Val := s.inner ((dget s.vars var).getD (.int 0))
noncomputable def S.addCount (s : S) (n : Nat) (d : Int) : S := s.upd n fun c => { c with count := c.count + d }
noncomputable def S.gain (s : S) (v : Val) : S := match s.cellOf v with | some n => s.addCount n 1 | none => s
/-- each reference has its value -/
noncomputable def S.RefOk (s : S) : Prop := ∀ n ∈ s.ids, (s.cell n).sort = .rf → ∃ v, dget (s.cell n).slots 0 = some v
theorem S.cellOf_some {s : S} {v : Val} {k : Nat} (h : s.cellOf v = some k) : v = .cell k ∧ k ∈ s.ids := by
  cases v with
  | int i => cases h
  | cell m => simp only [S.cellOf] at h; split at h <;> first | (cases h; exact ⟨rfl, by assumption⟩) | cases h

section
variable {W : Wd} {n : Nat} {st : St} {Q : V → St → Prop} {x : Nat} {s : S} {N : Nat}
theorem c_cell_of (G : Gd W) (R : RepX x s N st) (v : Val) (q : Q (cv (s.cellOf v)) st) : CallOK W (n + 1) "cell_of" [.ref .heap, v.v] Q st := by
  refine fn_intro G.ok G.fns (mem_rec (i := 7) rfl (by kernel_rfl)) (ps := ["heap", "value"]) (fun pm code doc ws h => by obtain ⟨a, b, rfl⟩ := len2 h; kernel_rfl) (by decide) (by kernel_rfl) rfl rfl rfl ?_
  intro env henv
  walk_at "mm"
  cases v with
  | int i => walk_at "mm"; exact q
  | cell k =>
    walk_at "mm"
    obtain ⟨ep, a⟩ := R.cells
    refine ⟨_, _, _, rfl, a, ?_⟩
    walk_at "mm"
    refine ⟨_, rfl, rfl, ?_⟩
    rw [dget_num]; exact q
theorem c_is_ref (G : Gd W) (R : Rep s N st) (v : Val) (q : Q (.bool (s.isRef v)) st) : CallOK W (n + 2) "is_ref" [.ref .heap, v.v] Q st := by
  refine fn_intro G.ok G.fns (mem_rec (i := 8) rfl (by kernel_rfl)) (ps := ["heap", "value"]) (fun pm code doc ws h => by obtain ⟨a, b, rfl⟩ := len2 h; kernel_rfl) (by decide) (by kernel_rfl) rfl rfl rfl ?_
  intro env henv
  walk_at "mm"
  refine c_cell_of G R v ?_
  cases h : s.cellOf v with
  | none => walk_at "mm"; simp only [S.isRef, h] at q; exact q
  | some k =>
    obtain ⟨rfl, hk⟩ := S.cellOf_some h
    walk_at "mm"
    simp only [S.isRef, h] at q; exact q
end
end
section
theorem ddel_none {α : Type} {es : List (Int × α)} {i : Int} (h : dget es i = none) : ddel es i = es := by
  unfold dget at h; unfold ddel
  simp only [Option.map_eq_none_iff, List.find?_eq_none, decide_eq_true_eq] at h
  exact List.filter_eq_self.mpr fun e he => by simpa using h e he
theorem S.put_at {s : S} {p : Pl} : s.put p (s.at p) = s := by
  cases p with
  | vars => rfl
  | slots n =>
    show s.setCell n { s.cell n with slots := (s.cell n).slots } = s
    unfold S.setCell
    have : (fun m => if m = n then s.cell n else s.cell m) = s.cell := by funext m; split <;> simp_all
    show ({ s with cell := fun m => if m = n then s.cell n else s.cell m } : S) = s
    rw [this]
  | ent i =>
    show ({ s with tab := fun j => if j = i then s.tab i else s.tab j } : S) = s
    have : (fun j => if j = i then s.tab i else s.tab j) = s.tab := by funext m; split <;> simp_all
    rw [this]
noncomputable def S.heldBy (s : S) (m : Nat) : List Val := [0, 1].filterMap (fun i => dget (s.tab i) m) ++ (s.cell m).slots.map (·.2)
section
variable {W : Wd} {n : Nat} {st : St} {Q : V → St → Prop} {x : Nat} {s : S} {N : Nat}
theorem c_inner (G : Gd W) (R : Rep s N st) (H : s.RefOk) (v : Val) (q : Q (s.inner v).v st) : CallOK W (n + 3) "inner" [.ref .heap, v.v] Q st := by
  refine fn_intro G.ok G.fns (mem_rec (i := 9) rfl (by kernel_rfl)) (ps := ["heap", "value"]) (fun pm code doc ws h => by obtain ⟨a, b, rfl⟩ := len2 h; kernel_rfl) (by decide) (by kernel_rfl) rfl rfl rfl ?_
  intro env henv
  walk_at "mm"
  refine c_is_ref G R v ?_
  walk_at "mm"
  unfold S.isRef
  cases h : s.cellOf v with
  | none => walk_at "mm"; simp only [S.inner, h] at q; exact q
  | some k =>
    obtain ⟨rfl, hk⟩ := S.cellOf_some h
    simp only [S.inner, h] at q
    by_cases hr : (s.cell k).sort = .rf
    · rw [if_pos hr] at q
      refine if_t (by simpa using hr) ?_
      walk_at "mm"
      refine d_cellitem R hk ?_
      walk_at "mm"
      obtain ⟨u, hu⟩ := H k hk hr
      refine d_item (p := .slots k) R hk (fun n e => R.ne (by cases e; exact hk)) (w := u) hu ?_
      simp only [S.slot0, hu] at q; exact q
    · rw [if_neg hr] at q
      refine if_f (by simpa using hr) ?_
      walk_at "mm"
      exact q
theorem c_value_of (G : Gd W) (R : Rep s N st) (H : s.RefOk) (a : Int) (q : Q (s.valueOf a).v st) : CallOK W (n + 4) "value_of" [.ref .heap, .int a] Q st := by
  refine fn_intro G.ok G.fns (mem_rec (i := 10) rfl (by kernel_rfl)) (ps := ["heap", "var"]) (fun pm code doc ws h => by obtain ⟨a, b, rfl⟩ := len2 h; kernel_rfl) (by decide) (by kernel_rfl) rfl rfl rfl ?_
  intro env henv
  walk_at "mm"
  obtain ⟨ep, ha⟩ := R.vars
  refine ⟨_, isMeth_dict ha PySem.F.slot_dict_get PySem.F.type_dict_get, ?_⟩
  walk_at "mm"
  refine op_get2 G.ok ha ?_
  walk_at "mm"
  rw [dget_dmap]
  have e : ((dget s.vars a).map Val.v).getD (.tup [.str "int", .int 0]) = ((dget s.vars a).getD (.int 0)).v := by cases dget s.vars a <;> rfl
  rw [e]
  exact c_inner G R H _ q
theorem c_gain (G : Gd W) (R : Rep s N st) (v : Val) (q : ∀ st', Rep (s.gain v) N st' → Keep N st st' → Q v.v st') : CallOK W (n + 2) "gain" [.ref .heap, v.v] Q st := by
  refine fn_intro G.ok G.fns (mem_rec (i := 11) rfl (by kernel_rfl)) (ps := ["heap", "value"]) (fun pm code doc ws h => by obtain ⟨a, b, rfl⟩ := len2 h; kernel_rfl) (by decide) (by kernel_rfl) rfl rfl rfl ?_
  intro env henv
  walk_at "mm"
  refine c_cell_of G R v ?_
  unfold S.gain at q
  cases h : s.cellOf v with
  | none => walk_at "mm"; rw [h] at q; exact q st R Keep.refl
  | some k =>
    obtain ⟨rfl, hk⟩ := S.cellOf_some h
    rw [h] at q
    walk_at "mm"
    refine d_setcount G R hk fun st' R' K' => ?_
    walk_at "mm"
    exact q st' R' K'
theorem c_held_by (G : Gd W) (R : Rep s N st) {m : Nat} (hm : m ∈ s.ids) (hnd : ((s.cell m).slots.map (·.1)).Nodup) (hz : (s.cell m).slots.length ≤ 1000000) (q : ∀ st', Rep s (N + 1) st' → Keep N st st' → st' (.tmp N) = some (.list ((s.heldBy m).map Val.v)) → Q (.ref (.tmp N)) st') : CallOK W (n + 1) "held_by" [.ref .heap, .ref (.cell m)] Q st := by
  refine fn_intro G.ok G.fns (mem_rec (i := 12) rfl (by kernel_rfl)) (ps := ["heap", "cell"]) (fun pm code doc ws h => by obtain ⟨a, b, rfl⟩ := len2 h; kernel_rfl) (by decide) (by kernel_rfl) rfl rfl rfl ?_
  intro env henv
  refine ts_cons (tx_name_comp G.ok (.tmp N) (CompOk.of henv (by kernel_rfl)) (.inl (kof henv rfl)) (sw_true henv (by kernel_rfl)) (ti_list G.ok ?_))
  walk_at "mm"
  refine ⟨_, _, rfl, R.tabs, (by decide), [0, 1].map (fun i => (.ref (.tab i), (dget (s.tab i) m).map Val.v)), rfl, ?_, R.tmp (Nat.le_refl N), ?_⟩
  · intro z hz cenv hc
    rw [henv] at hc
    obtain ⟨i, hi, rfl⟩ := List.mem_map.mp hz
    have hi2 : i < 2 := by simp at hi; walk_at "om"
    refine tf_one ?_
    walk_at "mm"
    refine d_in (p := .ent i) G R hi2 nofun ?_
    refine ⟨_, rfl, rfl, by simp [S.at], fun y hy => ?_⟩
    walk_at "mm"
    obtain ⟨u, hu, rfl⟩ := Option.map_eq_some_iff.mp hy
    exact d_item (p := .ent i) R hi2 nofun (w := u) hu ⟨rfl, rfl⟩
  · have e1 : ((([0, 1] : List Nat).map (fun i => (V.ref (.tab i), (dget (s.tab i) m).map Val.v))).filterMap (·.2)) = (([0, 1] : List Nat).filterMap (fun i => dget (s.tab i) m)).map Val.v := by
      rw [List.filterMap_map, List.map_filterMap]; rfl
    rw [e1]
    refine ts_cons (tx_for0 G.ok (.inl (kof henv rfl)) (ti_dict G.ok ?_))
    have R1 : Rep s (N + 1) (st.set (.tmp N) (.list ((([0, 1] : List Nat).filterMap (fun i => dget (s.tab i) m)).map Val.v))) := R.tmpset
    obtain ⟨ep, hs⟩ := R1.slotsX hm (R1.ne hm)
    walk_at "mm"
    refine ⟨_, _, _, rfl, hs, fun j st' => Rep s (N + 1) st' ∧ Keep N st st' ∧ st' (.slots m) = some (.dict (dmap (s.cell m).slots) ep) ∧ st' (.tmp N) = some (.list ((([0, 1] : List Nat).filterMap (fun i => dget (s.tab i) m)).map Val.v ++ (((s.cell m).slots.take j).map fun e => e.2.v))), ⟨R1, Keep.set_tmp, hs, ?_⟩, ?_, ?_⟩
    · simp [St.set_same]
    · rintro j st' v ⟨R', K', hs', hl⟩ hv
      simp only [Src.items, dmap_keys, List.getElem?_map, Option.map_eq_some_iff] at hv
      obtain ⟨⟨k, u⟩, hj, rfl⟩ := hv
      refine ⟨hs', ?_⟩
      have hlen : ((([0, 1] : List Nat).filterMap (fun i => dget (s.tab i) m)).map Val.v).length ≤ 2 := by
        rw [List.length_map]; exact List.length_filterMap_le _ _
      walk_at "mm"
      refine d_item (p := .slots m) R' hm (fun n e => R'.ne (by cases e; exact hm)) (w := u) (dget_mem hnd (List.mem_of_getElem? hj)) ?_
      refine ⟨_, hl, by simp only [List.length_append, List.length_map, List.length_take] at hlen ⊢; walk_at "om", ?_⟩
      walk_at "mm"
      refine ⟨Sub.upd rfl Sub.refl, R'.tmpupd (Nat.lt_succ_self N), K'.trans (Keep.set_tmp (Nat.le_refl N)), St.get_ne hs', ?_⟩
      rw [St.set_same, List.take_add_one, hj]
      simp
    · rintro st' ⟨R', K', hs', hl⟩
      refine ⟨hs', ?_⟩
      walk_at "mm"
      refine q st' R' K' ?_
      rw [hl]
      simp only [Src.items, List.length_map, dmap_length, List.take_length, S.heldBy, List.map_append, List.map_map]
      rfl

/-! ## one place -/
noncomputable def Loses (s' : S) (ls : List Val) (N : Nat) (st : St) (Q : V → St → Prop) : Prop := ∀ j N' st', N ≤ j → j < N' → Rep s' N' st' → Keep N st st' → st' (.tmp j) = some (.list (ls.map Val.v)) → Q (.ref (.tmp j)) st'
theorem c_replaced (G : Gd W) (R : Rep s N st) {p : Pl} (hp : p.ok s) {i : Int} {v : Val} (hz : (s.at p).length ≤ 100000) (q : Loses (s.put p (dput (s.at p) i v)) (dget (s.at p) i).toList N st Q) : CallOK W (n + 1) "replaced" [.ref p.role, .int i, v.v] Q st := by
  refine fn_intro G.ok G.fns (mem_rec (i := 13) rfl (by kernel_rfl)) (ps := ["slots", "key", "value"]) (fun pm code doc ws h => by obtain ⟨a, b, c, rfl⟩ := len3 h; kernel_rfl) (by decide) (by kernel_rfl) rfl rfl rfl ?_
  intro env henv
  have hx : ∀ n, p = .slots n → n ≠ 0 := fun n e => R.ne (by subst e; exact hp)
  walk_at "mm"
  refine d_in G R hp hx ⟨_, rfl, ?_⟩
  cases h : dget (s.at p) i with
  | none =>
    rw [h] at q
    walk_at "mm"
    refine te_list G.ok (.tmp N) ?_
    walk_at "mm"
    refine ⟨R.tmp (Nat.le_refl N), ?_⟩
    walk_at "mm"
    refine d_put R.tmpset hp hx (Nat.le_trans hz (by decide)) fun st' R' K' => ?_
    walk_at "mm"
    exact q N (N + 1) st' (Nat.le_refl N) (Nat.lt_succ_self N) R' (Keep.trans (Keep.set_tmp) K') ((K'.tmp).trans St.set_same)
  | some u =>
    rw [h] at q
    walk_at "mm"
    refine te_list G.ok (.tmp N) ?_
    walk_at "mm"
    refine d_item R hp hx (w := u) h ?_
    walk_at "mm"
    refine ⟨R.tmp (Nat.le_refl N), ?_⟩
    walk_at "mm"
    refine d_put R.tmpset hp hx (Nat.le_trans hz (by decide)) fun st' R' K' => ?_
    walk_at "mm"
    exact q N (N + 1) st' (Nat.le_refl N) (Nat.lt_succ_self N) R' (Keep.trans (Keep.set_tmp) K') ((K'.tmp).trans St.set_same)
theorem c_taken_out (G : Gd W) (R : Rep s N st) {p : Pl} (hp : p.ok s) {i : Int} (hz : (s.at p).length ≤ 100000) (q : Loses (s.put p (ddel (s.at p) i)) (dget (s.at p) i).toList N st Q) : CallOK W (n + 1) "taken_out" [.ref p.role, .int i] Q st := by
  refine fn_intro G.ok G.fns (mem_rec (i := 14) rfl (by kernel_rfl)) (ps := ["slots", "key"]) (fun pm code doc ws h => by obtain ⟨a, b, rfl⟩ := len2 h; kernel_rfl) (by decide) (by kernel_rfl) rfl rfl rfl ?_
  intro env henv
  have hx : ∀ n, p = .slots n → n ≠ 0 := fun n e => R.ne (by subst e; exact hp)
  walk_at "mm"
  refine d_in G R hp hx ⟨_, rfl, ?_⟩
  cases h : dget (s.at p) i with
  | none =>
    rw [h] at q
    walk_at "mm"
    refine te_list G.ok (.tmp N) ?_
    walk_at "mm"
    refine ⟨R.tmp (Nat.le_refl N), ?_⟩
    walk_at "mm"
    have e : s.put p (ddel (s.at p) i) = s := by
      have e1 : ddel (s.at p) i = s.at p := ddel_none h
      rw [e1]; exact S.put_at
    rw [e] at q
    exact q N (N + 1) _ (Nat.le_refl N) (Nat.lt_succ_self N) R.tmpset Keep.set_tmp St.set_same
  | some u =>
    rw [h] at q
    walk_at "mm"
    refine te_list G.ok (.tmp N) ?_
    walk_at "mm"
    obtain ⟨ep, ha⟩ := R.place hp hx
    refine ⟨_, _, _, rfl, ha, ?_⟩
    walk_at "mm"
    refine ⟨i, u.v, rfl, rfl, by rw [dmap_length]; exact Nat.le_trans hz (by decide), by rw [dget_dmap, h]; rfl, fun ep' => ?_⟩
    walk_at "mm"
    rw [ddel_dmap]
    have R' := R.putPlace hp (es := ddel (s.at p) i) (ep := ep')
    refine ⟨R'.tmp (Nat.le_refl N), ?_⟩
    walk_at "mm"
    exact q N (N + 1) _ (Nat.le_refl N) (Nat.lt_succ_self N) R'.tmpset (Keep.trans (N := N) (M := N) (Keep.set (by cases p <;> rfl)) (Keep.set_tmp (Nat.le_refl N)) (Nat.le_refl N)) St.set_same
end
end
section
/-! ## new cells, references -/
noncomputable def Cel.new (t : Srt) : Cel := { sort := t, count := 0, slots := [], col := .black, buf := false, weak := false }
noncomputable def S.newCell (s : S) (t : Srt) : S := { s with last := s.last + 1, ids := s.ids ++ [s.last + 1], cell := fun m => if m = s.last + 1 then Cel.new t else s.cell m }
noncomputable def S.written (s : S) (p : Pl) (i : Int) (v : Val) : S × List Val := match dget (s.at p) i with
  | some (.cell r) => if s.isRef (.cell r) then (s.put (.slots r) (dput (s.cell r).slots 0 v), (dget (s.cell r).slots 0).toList) else (s.put p (dput (s.at p) i v), [.cell r])
  | some (.int k) => (s.put p (dput (s.at p) i v), [.int k])
  | none => (s.put p (dput (s.at p) i v), [])
noncomputable def S.refIn (s : S) (i : Int) : S × Val :=
  let held := (dget s.vars i).getD (.int 0)
  if s.isRef held then (s, held) else
    let made := Val.cell (s.last + 1)
    let s1 := (s.newCell .rf).put (.slots (s.last + 1)) (dput ((s.newCell .rf).at (.slots (s.last + 1))) 0 held)
    let s2 := s1.gain made
    (s2.put .vars (dput (s2.at .vars) i made), made)
theorem S.isRef_cell {s : S} {v : Val} (h : s.isRef v = true) : ∃ r, v = .cell r ∧ r ∈ s.ids ∧ (s.cell r).sort = .rf := by
  unfold S.isRef at h
  cases q : s.cellOf v with
  | none => rw [q] at h; cases h
  | some k =>
    obtain ⟨rfl, hk⟩ := S.cellOf_some q
    rw [q] at h
    exact ⟨k, rfl, hk, by simpa using h⟩
section
variable {W : Wd} {n : Nat} {st : St} {Q : V → St → Prop} {x : Nat} {s : S} {N : Nat}
theorem c_written (G : Gd W) (R : Rep s N st) {p : Pl} (hp : p.ok s) {i : Int} {v : Val} (hz : (s.at p).length ≤ 100000) (hz' : ∀ r ∈ s.ids, (s.cell r).slots.length ≤ 100000) (q : Loses (s.written p i v).1 (s.written p i v).2 N st Q) : CallOK W (n + 3) "written" [.ref .heap, .ref p.role, .int i, v.v] Q st := by
  refine fn_intro G.ok G.fns (mem_rec (i := 15) rfl (by kernel_rfl)) (ps := ["heap", "slots", "key", "value"]) (fun pm code doc ws h => by obtain ⟨a, b, c, d, rfl⟩ := len4 h; kernel_rfl) (by decide) (by kernel_rfl) rfl rfl rfl ?_
  intro env henv
  have hx : ∀ n, p = .slots n → n ≠ 0 := fun n e => R.ne (by subst e; exact hp)
  walk_at "mm"
  refine d_in G R hp hx ⟨_, rfl, ?_⟩
  unfold S.written at q
  cases h : dget (s.at p) i with
  | none =>
    rw [h] at q
    walk_at "mm"
    exact c_replaced G R hp hz (by rw [h]; exact q)
  | some u =>
    rw [h] at q
    walk_at "mm"
    refine d_item R hp hx (w := u) h ?_
    walk_at "mm"
    refine c_is_ref G R u ?_
    walk_at "mm"
    cases hr : s.isRef u with
    | false =>
      walk_at "mm"
      refine c_replaced G R hp hz ?_
      rw [h]
      cases u with
      | int k => exact q
      | cell r => simp only [hr, Bool.false_eq_true, if_false] at q; exact q
    | true =>
      obtain ⟨r, rfl, hm, hsr⟩ := S.isRef_cell hr
      simp only [hr, if_true] at q
      walk_at "mm"
      refine d_item R hp hx (w := .cell r) h ?_
      walk_at "mm"
      refine d_cellitem R hm ?_
      walk_at "mm"
      exact c_replaced (p := .slots r) G R hm (hz' r hm) q
end
end
section
section
variable {W : Wd} {n : Nat} {st : St} {Q : V → St → Prop} {x : Nat} {s : S} {N : Nat}
theorem lk_same' {fs : List (Str × V)} {f : Str} {y z : V} (h : y = z) : lk (setF fs f y) f = some z := by rw [lk_same, h]
theorem dput_new {ids : List Nat} {k : Nat} (h : k ∉ ids) : dput (cellMap ids) k (.ref (.cell k)) = cellMap (ids ++ [k]) := by
  unfold dput
  have e : (cellMap ids).any (fun e => decide (e.1 = (k : Int))) = false := by
    rw [List.any_eq_false]
    intro e he
    unfold cellMap at he
    obtain ⟨m, hm, rfl⟩ := List.mem_map.mp he
    simp only [decide_eq_true_eq]
    intro q
    exact h (by have : m = k := by walk_at "om"
                rw [← this]; exact hm)
  rw [e, if_neg Bool.false_ne_true]
  simp [cellMap]
theorem RepX.addCell {t : Srt} {fs : List (Str × V)} {ep ep0 : Nat} (R : Rep { s with last := s.last + 1 } N st) (hni : s.last + 1 ∉ s.ids) (hc : st (.cell (s.last + 1)) = some (.inst "Cell" fs)) (hF : CellF (Cel.new t) (s.last + 1) fs) (hs : st (.slots (s.last + 1)) = some (.dict [] ep0)) :
    Rep (s.newCell t) N (st.set .cells (.dict (cellMap (s.ids ++ [s.last + 1])) ep)) := by
  refine R.step ⟨ep, rfl⟩ (fun r' q h => ?_) (fun n hn => ?_) ?_
  · cases r' with
    | cell m =>
      refine ⟨fun hm hx => ?_, h.2⟩
      by_cases e : m = s.last + 1
      · subst e
        refine ⟨fs, hc, ?_⟩
        show CellF (if s.last + 1 = s.last + 1 then Cel.new t else s.cell (s.last + 1)) _ fs
        rw [if_pos rfl]; exact hF
      · have hm' : m ∈ s.ids := by
          have := List.mem_append.mp hm
          simpa [e] using this
        obtain ⟨fs', a, b⟩ := h.1 hm' hx
        refine ⟨fs', a, ?_⟩
        show CellF (if m = s.last + 1 then Cel.new t else s.cell m) m fs'
        rw [if_neg e]; exact b
    | slots m =>
      refine ⟨fun hm hx => ?_, h.2⟩
      by_cases e : m = s.last + 1
      · subst e
        refine ⟨ep0, hs.trans ?_⟩
        show some (O.dict [] ep0) = some (O.dict (dmap (if s.last + 1 = s.last + 1 then Cel.new t else s.cell (s.last + 1)).slots) ep0)
        rw [if_pos rfl]; rfl
      · have hm' : m ∈ s.ids := by
          have := List.mem_append.mp hm
          simpa [e] using this
        obtain ⟨ep', a⟩ := h.1 hm' hx
        refine ⟨ep', a.trans ?_⟩
        show some (O.dict (dmap (s.cell m).slots) ep') = some (O.dict (dmap (if m = s.last + 1 then Cel.new t else s.cell m).slots) ep')
        rw [if_neg e]
    | cells => exact absurd rfl q
    | _ => exact h
  · rcases List.mem_append.mp hn with hn | hn
    · exact R.range n hn
    · rw [List.mem_singleton.mp hn]; exact ⟨Nat.succ_ne_zero _, Nat.le_refl _⟩
  · refine List.nodup_append.mpr ⟨R.nodup, by simp, fun a ha b hb => ?_⟩
    rw [List.mem_singleton.mp hb]
    exact fun e => hni (e ▸ ha)
theorem c_new_cell (G : Gd W) (R : Rep s N st) (t : Srt) {y : Str} (hy : y = t.str) (hz : s.ids.length ≤ 100000) (q : ∀ st', Rep (s.newCell t) N st' → Keep N st st' → Q (Val.cell (s.last + 1)).v st') : CallOK W (n + 3) "new_cell" [.ref .heap, .str y] Q st := by
  refine fn_intro G.ok G.fns (mem_rec (i := 6) rfl (by kernel_rfl)) (ps := ["heap", "sort"]) (fun pm code doc ws h => by obtain ⟨a, b, rfl⟩ := len2 h; kernel_rfl) (by decide) (by kernel_rfl) rfl rfl rfl ?_
  intro env henv
  walk_at "mm"
  obtain ⟨fs, ha, F⟩ := R.heap
  have hnc := R.newCell (Nat.lt_succ_self s.last)
  have e1 : ((s.last : Int) + 1) = ((s.last + 1 : Nat) : Int) := by walk_at "om"
  rw [e1]
  refine op_setattr G.ok G.counted ha (by decide) (Nat.le_trans F.len (by decide)) ?_
  have R1 := R.setLast (Nat.le_succ s.last) (F.setLast (d := s.last + 1))
  have K1 : Keep N st (st.set .heap (.inst "Counted" (setF fs "last" (.int ((s.last + 1 : Nat) : Int))))) := Keep.set rfl
  have c1 : (st.set .heap (.inst "Counted" (setF fs "last" (.int ((s.last + 1 : Nat) : Int))))) (.cell (s.last + 1)) = none := St.get_ne hnc.1
  have c2 : (st.set .heap (.inst "Counted" (setF fs "last" (.int ((s.last + 1 : Nat) : Int))))) (.slots (s.last + 1)) = none := St.get_ne hnc.2
  have hni : s.last + 1 ∉ s.ids := fun h => by have := (R.range _ h).2; walk_at "om"
  generalize (st.set .heap (.inst "Counted" (setF fs "last" (.int ((s.last + 1 : Nat) : Int))))) = st1 at R1 K1 c1 c2
  walk_at "mm"
  refine te_new G.ok (.cell (s.last + 1)) (ps := ["self", "sort", "number"]) (G.newc 4 _ _ _ _ rfl rfl) (kof henv rfl) (by decide) (by kernel_rfl) rfl rfl rfl (fun name doc pm an cdv ct ws h => by obtain ⟨a, b, c, rfl⟩ := len3 h; kernel_rfl) ?_
  walk_at "mm"
  refine ⟨c1, rfl, fun env' henv' => ?_⟩
  subst hy
  have R2 : RepX 0 { s with last := s.last + 1 } N (st1.set (.cell (s.last + 1)) (.inst "Cell" [])) := R1.other (Nat.le_refl N) ⟨fun h => absurd h hni, fun h => absurd h (Nat.lt_irrefl _)⟩
  have K2 := K1.trans (Keep.set (N := N) (st := st1) (r := .cell (s.last + 1)) (o := .inst "Cell" []) rfl) (Nat.le_refl N)
  have c3 : (st1.set (.cell (s.last + 1)) (.inst "Cell" [])) (.cell (s.last + 1)) = some (.inst "Cell" []) := St.set_same
  have c4 : (st1.set (.cell (s.last + 1)) (.inst "Cell" [])) (.slots (s.last + 1)) = none := St.get_ne c2
  generalize (st1.set (.cell (s.last + 1)) (.inst "Cell" [])) = st2 at R2 K2 c3 c4
  walk_at "mm"
  refine d_raw G R2 (.inl hni) (Nat.le_refl _) c3 (by decide) (by repeat first | refine setF_go0 ?_ | refine setF_go ?_ | decide) fun st3 R3 K3 c5 c6 => ?_
  walk_at "mm"
  refine d_raw G R3 (.inl hni) (Nat.le_refl _) c5 (by decide) (by repeat first | refine setF_go0 ?_ | refine setF_go ?_ | decide) fun st4 R4 K4 c7 c8 => ?_
  walk_at "mm"
  refine d_raw G R4 (.inl hni) (Nat.le_refl _) c7 (by decide) (by repeat first | refine setF_go0 ?_ | refine setF_go ?_ | decide) fun st5 R5 K5 c9 c10 => ?_
  walk_at "mm"
  have c11 : st5 (.slots (s.last + 1)) = none := by rw [c10, c8, c6, c4]
  refine te_dict G.ok (.slots (s.last + 1)) c11 ?_
  walk_at "mm"
  have R6 : RepX 0 { s with last := s.last + 1 } N (st5.set (.slots (s.last + 1)) (.dict [] 0)) := R5.other (Nat.le_refl N) ⟨fun h => absurd h hni, fun h => absurd h (Nat.lt_irrefl _)⟩
  refine d_raw G R6 (.inl hni) (Nat.le_refl _) (St.get_ne c9) (by decide) (by repeat first | refine setF_go0 ?_ | refine setF_go ?_ | decide) fun st7 R7 K7 c12 c13 => ?_
  rw [St.set_same] at c13
  walk_at "mm"
  refine d_raw G R7 (.inl hni) (Nat.le_refl _) c12 (by decide) (by repeat first | refine setF_go0 ?_ | refine setF_go ?_ | decide) fun st8 R8 K8 c14 c15 => ?_
  walk_at "mm"
  refine d_raw G R8 (.inl hni) (Nat.le_refl _) c14 (by decide) (by repeat first | refine setF_go0 ?_ | refine setF_go ?_ | decide) fun st9 R9 K9 c16 c17 => ?_
  walk_at "mm"
  refine d_raw G R9 (.inl hni) (Nat.le_refl _) c16 (by decide) (by repeat first | refine setF_go0 ?_ | refine setF_go ?_ | decide) fun sta Ra Ka ca da => ?_
  walk_at "mm"
  refine d_raw G Ra (.inl hni) (Nat.le_refl _) ca (by decide) (by repeat first | refine setF_go0 ?_ | refine setF_go ?_ | decide) fun stb Rb Kb cb db => ?_
  walk_at "mm"
  refine d_raw G Rb (.inl hni) (Nat.le_refl _) cb (by decide) (by repeat first | refine setF_go0 ?_ | refine setF_go ?_ | decide) fun stc Rc Kc cc dc => ?_
  walk_at "mm"
  refine d_raw G Rc (.inl hni) (Nat.le_refl _) cc (by decide) (by repeat first | refine setF_go0 ?_ | refine setF_go ?_ | decide) fun std Rd Kd cd dd => ?_
  have hslots : std (.slots (s.last + 1)) = some (.dict [] 0) := by rw [dd, dc, db, da, c17, c15, c13]
  have KK : Keep N st std := ((((((((((K2.trans K3).trans K4).trans K5).trans (Keep.set (N := N) rfl)).trans K7).trans K8).trans K9).trans Ka).trans Kb).trans Kc).trans Kd
  walk_at "mm"
  obtain ⟨ep, hc⟩ := Rd.cells
  refine op_setitem hc (by unfold cellMap; rw [List.length_map]; exact Nat.le_trans hz (by decide)) fun ep' => ?_
  rw [dput_new hni]
  have RR : Rep (s.newCell t) N (std.set .cells (.dict (cellMap (s.ids ++ [s.last + 1])) ep')) := RepX.addCell Rd hni cd ⟨by repeat first | refine setF_go0 ?_ | refine setF_go ?_ | decide, by repeat first | ((with_reducible refine lk_same' ?_); rfl) | ((with_reducible refine lk_set ?_ ?_); decide), by repeat first | ((with_reducible refine lk_same' ?_); rfl) | ((with_reducible refine lk_set ?_ ?_); decide), by repeat first | ((with_reducible refine lk_same' ?_); rfl) | ((with_reducible refine lk_set ?_ ?_); decide), by repeat first | ((with_reducible refine lk_same' ?_); rfl) | ((with_reducible refine lk_set ?_ ?_); decide), by repeat first | ((with_reducible refine lk_same' ?_); rfl) | ((with_reducible refine lk_set ?_ ?_); decide), by repeat first | ((with_reducible refine lk_same' ?_); rfl) | ((with_reducible refine lk_set ?_ ?_); decide), by repeat first | ((with_reducible refine lk_same' ?_); rfl) | ((with_reducible refine lk_set ?_ ?_); decide), by repeat first | ((with_reducible refine lk_same' ?_); rfl) | ((with_reducible refine lk_set ?_ ?_); decide), by repeat first | ((with_reducible refine lk_same' ?_); rfl) | ((with_reducible refine lk_set ?_ ?_); decide), by rw [lk_set (by decide) (by rw [lk_same])]; rfl⟩ hslots
  have KF := KK.trans (Keep.set (N := N) (st := std) (r := .cells) (o := .dict (cellMap (s.ids ++ [s.last + 1])) ep') rfl) (Nat.le_refl N)
  generalize (std.set .cells (.dict (cellMap (s.ids ++ [s.last + 1])) ep')) = ste at RR KF
  walk_at "mm"
  exact q ste RR KF
end
end
section
/-! ## references made, arrays copied -/
noncomputable def S.inCopy (s : S) (c : Nat) (v : Val) : Val := match s.cellOf v with
  | none => v
  | some h => if (s.cell h).sort ≠ .rf then v else if (s.cell h).count > 1 then v else if s.slot0 h = .cell c then v else s.slot0 h
noncomputable def S.copyOne (c m : Nat) (s : S) (e : Int × Val) : S := ((s.gain (s.inCopy c e.2)).put (.slots m) (dput ((s.gain (s.inCopy c e.2)).at (.slots m)) e.1 (s.inCopy c e.2)))
noncomputable def S.copied (s : S) (c : Nat) : S := (s.cell c).slots.foldl (S.copyOne c (s.last + 1)) { s.newCell .arr with logn := s.logn + 1 }
@[simp] theorem S.gain_vars {s : S} {v : Val} : (s.gain v).vars = s.vars := by unfold S.gain; split <;> rfl
@[simp] theorem S.gain_ids {s : S} {v : Val} : (s.gain v).ids = s.ids := by unfold S.gain; split <;> rfl
@[simp] theorem S.gain_tab {s : S} {v : Val} : (s.gain v).tab = s.tab := by unfold S.gain; split <;> rfl
@[simp] theorem S.gain_last {s : S} {v : Val} : (s.gain v).last = s.last := by unfold S.gain; split <;> rfl
@[simp] theorem S.gain_logn {s : S} {v : Val} : (s.gain v).logn = s.logn := by unfold S.gain; split <;> rfl
@[simp] theorem S.gain_buffer {s : S} {v : Val} : (s.gain v).buffer = s.buffer := by unfold S.gain; split <;> rfl
theorem S.upd_cell {s : S} {m k : Nat} {f : Cel → Cel} : (s.upd m f).cell k = if k = m then f (s.cell m) else s.cell k := rfl
@[simp] theorem S.gain_slots {s : S} {v : Val} {m : Nat} : ((s.gain v).cell m).slots = (s.cell m).slots := by
  unfold S.gain; split
  · show ((if m = _ then _ else s.cell m) : Cel).slots = _
    split
    · rename_i h; rw [h]
    · rfl
  · rfl
@[simp] theorem S.gain_sort {s : S} {v : Val} {m : Nat} : ((s.gain v).cell m).sort = (s.cell m).sort := by
  unfold S.gain; split
  · show ((if m = _ then _ else s.cell m) : Cel).sort = _
    split
    · rename_i h; rw [h]
    · rfl
  · rfl
theorem S.gain_refOk {s : S} {v : Val} (h : s.RefOk) : (s.gain v).RefOk := fun n hn hs => by
  rw [S.gain_ids] at hn; rw [S.gain_sort] at hs; rw [S.gain_slots]; exact h n hn hs
section
variable {W : Wd} {n : Nat} {st : St} {Q : V → St → Prop} {x : Nat} {s : S} {N : Nat} {QU : Unit → St → Prop} {m : Nat}
theorem d_setcount' (G : Gd W) (R : Rep s N st) (h : m ∈ s.ids) {i : Int} (q : ∀ st', Rep (s.upd m fun c => { c with count := i }) N st' → Keep N st st' → (∀ k, st' (.slots k) = st (.slots k)) → QU () st') : OP W n RU (op2 fun o v => setAttr o "count" v) [.ref (.cell m), .int i] QU st := by
  obtain ⟨fs, a, F⟩ := R.cellX h (R.ne h)
  exact op_setattr G.ok G.cell a (by decide) (Nat.le_trans F.len (by decide)) (q _ (R.setCellF h rfl F.setCount) (Keep.set rfl) fun k => St.set_ne (by simp))
theorem d_put' (R : RepX x s N st) {p : Pl} (hp : p.ok s) (hx : ∀ n, p = .slots n → n ≠ x) {i : Int} {w : Val} (hz : (s.at p).length ≤ 16777216) (q : ∀ st', RepX x (s.put p (dput (s.at p) i w)) N st' → Keep N st st' → (∀ r, r ≠ p.role → st' r = st r) → QU () st') : OP W n RU (op3 setItem) [.ref p.role, .int i, w.v] QU st := by
  obtain ⟨ep, a⟩ := R.place hp hx
  refine op_setitem a (by rw [dmap_length]; exact hz) fun ep' => ?_
  rw [dput_dmap]
  exact q _ (R.putPlace hp) (Keep.set (by cases p <;> rfl)) fun r hr => St.set_ne hr
theorem c_gain' (G : Gd W) (R : Rep s N st) (v : Val) (q : ∀ st', Rep (s.gain v) N st' → Keep N st st' → (∀ k, st' (.slots k) = st (.slots k)) → Q v.v st') : CallOK W (n + 2) "gain" [.ref .heap, v.v] Q st := by
  refine fn_intro G.ok G.fns (mem_rec (i := 11) rfl (by kernel_rfl)) (ps := ["heap", "value"]) (fun pm code doc ws h => by obtain ⟨a, b, rfl⟩ := len2 h; kernel_rfl) (by decide) (by kernel_rfl) rfl rfl rfl ?_
  intro env henv
  walk_at "mm"
  refine c_cell_of G R v ?_
  unfold S.gain at q
  cases h : s.cellOf v with
  | none => walk_at "mm"; rw [h] at q; exact q st R Keep.refl fun _ => rfl
  | some k =>
    obtain ⟨rfl, hk⟩ := S.cellOf_some h
    rw [h] at q
    walk_at "mm"
    refine d_setcount' G R hk fun st' R' K' E' => ?_
    walk_at "mm"
    exact q st' R' K' E'
theorem c_ref_in (G : Gd W) (R : Rep s N st) {i : Int} (hz : s.ids.length ≤ 100000) (hz2 : s.vars.length ≤ 100000) (q : ∀ st', Rep (s.refIn i).1 N st' → Keep N st st' → Q (s.refIn i).2.v st') : CallOK W (n + 4) "ref_in" [.ref .heap, .ref .vars, .int i] Q st := by
  refine fn_intro G.ok G.fns (mem_rec (i := 16) rfl (by kernel_rfl)) (ps := ["heap", "slots", "key"]) (fun pm code doc ws h => by obtain ⟨a, b, c, rfl⟩ := len3 h; kernel_rfl) (by decide) (by kernel_rfl) rfl rfl rfl ?_
  intro env henv
  obtain ⟨ep, ha⟩ := R.vars
  walk_at "mm"
  refine ⟨_, isMeth_dict ha PySem.F.slot_dict_get PySem.F.type_dict_get, ?_⟩
  walk_at "mm"
  refine op_get2 G.ok ha ?_
  rw [dget_dmap]
  have e : ((dget s.vars i).map Val.v).getD (.tup [.str "int", .int 0]) = ((dget s.vars i).getD (.int 0)).v := by cases dget s.vars i <;> rfl
  rw [e]
  unfold S.refIn at q
  generalize (dget s.vars i).getD (.int 0) = held at q ⊢
  walk_at "mm"
  refine c_is_ref G R held ?_
  walk_at "mm"
  cases hr : s.isRef held with
  | true =>
    simp only [hr, if_true] at q
    walk_at "mm"
    exact q st R Keep.refl
  | false =>
    simp only [hr, Bool.false_eq_true, if_false] at q
    walk_at "mm"
    refine c_new_cell G R .rf rfl hz fun st1 R1 K1 => ?_
    have hk : s.last + 1 ∈ (s.newCell .rf).ids := List.mem_append_right _ (by simp)
    have hcell : (s.newCell .rf).cell (s.last + 1) = Cel.new .rf := if_pos rfl
    walk_at "mm"
    refine d_cellitem R1 (k := s.last + 1) hk ?_
    walk_at "mm"
    refine d_put (p := .slots (s.last + 1)) R1 hk (fun n e => R1.ne (by cases e; exact hk)) (by simp [S.at, hcell, Cel.new]) fun st2 R2 K2 => ?_
    walk_at "mm"
    refine c_gain G R2 (.cell (s.last + 1)) fun st3 R3 K3 => ?_
    walk_at "mm"
    refine d_put (p := .vars) R3 trivial nofun (by simp only [S.at, S.gain_vars]; exact Nat.le_trans hz2 (by decide)) fun st4 R4 K4 => ?_
    walk_at "mm"
    exact q st4 R4 (((K1.trans K2).trans K3).trans K4)
theorem c_in_copy (G : Gd W) (R : Rep s N st) (H : s.RefOk) {c : Nat} (hc : c ∈ s.ids) (v : Val) (q : Q (s.inCopy c v).v st) : CallOK W (n + 2) "in_copy" [.ref .heap, .ref (.cell c), v.v] Q st := by
  refine fn_intro G.ok G.fns (mem_rec (i := 17) rfl (by kernel_rfl)) (ps := ["heap", "cell", "value"]) (fun pm code doc ws h => by obtain ⟨a, b, c, rfl⟩ := len3 h; kernel_rfl) (by decide) (by kernel_rfl) rfl rfl rfl ?_
  intro env henv
  walk_at "mm"
  refine c_cell_of G R v ?_
  unfold S.inCopy at q
  cases h : s.cellOf v with
  | none => rw [h] at q; walk_at "mm"; exact q
  | some k =>
    obtain ⟨rfl, hk⟩ := S.cellOf_some h
    rw [h] at q
    dsimp only at q
    walk_at "mm"
    by_cases hs : (s.cell k).sort = .rf
    · have e1 : (!decide ((s.cell k).sort = .rf)) = false := by simp [hs]
      rw [if_neg (by simp [hs])] at q
      walk_at "mm"
      by_cases h1 : (s.cell k).count > 1
      · have e2 : decide ((s.cell k).count > 1) = true := by simpa using h1
        rw [if_pos h1] at q
        walk_at "mm"
        exact q
      · have e2 : decide ((s.cell k).count > 1) = false := by simpa using h1
        rw [if_neg h1] at q
        walk_at "mm"
        obtain ⟨u, hu⟩ := H k hk hs
        have hsl : s.slot0 k = u := by simp only [S.slot0, hu]; rfl
        refine d_item (p := .slots k) R hk (fun n e => R.ne (by cases e; exact hk)) (w := u) hu ?_
        walk_at "mm"
        refine d_valeq (w := .cell c) ⟨_, rfl, ?_⟩
        rw [hsl] at q
        by_cases h2 : u = .cell c
        · have e3 : decide (u = .cell c) = true := by simpa using h2
          rw [if_pos h2] at q
          walk_at "mm"
          exact q
        · have e3 : decide (u = .cell c) = false := by simpa using h2
          rw [if_neg h2] at q
          walk_at "mm"
          exact d_item (p := .slots k) R hk (fun n e => R.ne (by cases e; exact hk)) (w := u) hu q
    · have e1 : (!decide ((s.cell k).sort = .rf)) = true := by simp [hs]
      rw [if_pos hs] at q
      walk_at "mm"
      exact q
end
end
section
/-! ## an array copied; containers -/
@[simp] theorem S.put_ids {s : S} {p : Pl} {es} : (s.put p es).ids = s.ids := by cases p <;> rfl
@[simp] theorem S.put_last {s : S} {p : Pl} {es} : (s.put p es).last = s.last := by cases p <;> rfl
@[simp] theorem S.put_logn {s : S} {p : Pl} {es} : (s.put p es).logn = s.logn := by cases p <;> rfl
@[simp] theorem S.put_sort {s : S} {p : Pl} {es} {k : Nat} : ((s.put p es).cell k).sort = (s.cell k).sort := by
  cases p with
  | slots n =>
    show ((if k = n then _ else s.cell k) : Cel).sort = _
    split
    · rename_i h; rw [h]
    · rfl
  | _ => rfl
theorem S.put_slots_ne {s : S} {n k : Nat} {es} (h : k ≠ n) : ((s.put (.slots n) es).cell k) = s.cell k := if_neg h
theorem S.put_slots_same {s : S} {n : Nat} {es} : ((s.put (.slots n) es).cell n).slots = es := by
  show ((if n = n then _ else s.cell n) : Cel).slots = es; rw [if_pos rfl]
structure CopyInv (c m : Nat) (s0 s : S) : Prop where
  ids : s.ids = s0.ids
  last : s.last = s0.last
  vars : s.vars = s0.vars
  sort : ∀ k, (s.cell k).sort = (s0.cell k).sort
  slots : ∀ k, k ≠ m → (s.cell k).slots = (s0.cell k).slots
theorem CopyInv.step {c m : Nat} {s0 s : S} (h : CopyInv c m s0 s) (e : Int × Val) : CopyInv c m s0 (s.copyOne c m e) where
  ids := by simp [S.copyOne, h.ids]
  last := by simp [S.copyOne, h.last]
  vars := by
    show ((s.gain _).put (.slots m) _).vars = _
    show (s.gain _).vars = _
    rw [S.gain_vars, h.vars]
  sort := fun k => by simp [S.copyOne, h.sort]
  slots := fun k hk => by unfold S.copyOne; rw [S.put_slots_ne hk, S.gain_slots, h.slots k hk]
theorem CopyInv.fold {c m : Nat} {s0 : S} (es : List (Int × Val)) {s : S} (h : CopyInv c m s0 s) : CopyInv c m s0 (es.foldl (S.copyOne c m) s) := by
  induction es generalizing s with
  | nil => exact h
  | cons e r ih => exact ih (h.step e)
theorem CopyInv.refOk {c m : Nat} {s0 s : S} (h : CopyInv c m s0 s) (hm : (s0.cell m).sort ≠ .rf) (H : s0.RefOk) : s.RefOk := fun n hn hs => by
  rw [h.ids] at hn; rw [h.sort] at hs
  have : n ≠ m := fun q => hm (q ▸ hs)
  rw [h.slots n this]; exact H n hn hs
theorem copy_len {c m : Nat} (es : List (Int × Val)) (s : S) : ((es.foldl (S.copyOne c m) s).cell m).slots.length ≤ (s.cell m).slots.length + es.length := by
  induction es generalizing s with
  | nil => simp
  | cons e r ih =>
    refine Nat.le_trans (ih _) ?_
    have : ((s.copyOne c m e).cell m).slots.length ≤ (s.cell m).slots.length + 1 := by
      unfold S.copyOne
      rw [S.put_slots_same]
      refine Nat.le_trans (dput_length _ _ _) ?_
      simp [S.at]
    simp only [List.length_cons]; walk_at "om"
theorem S.newCell_refOk {s : S} (H : s.RefOk) (hl : ∀ n ∈ s.ids, n ≤ s.last) {t : Srt} (ht : t ≠ .rf) : (s.newCell t).RefOk := fun n hn hs => by
  simp only [S.newCell] at hn hs ⊢
  by_cases q : n = s.last + 1
  · rw [if_pos q] at hs; exact absurd hs ht
  · rw [if_neg q] at hs ⊢
    refine H n ?_ hs
    have := List.mem_append.mp hn
    simpa [q] using this
section
variable {W : Wd} {n : Nat} {st : St} {Q : V → St → Prop} {x : Nat} {s : S} {N : Nat} {QU : Unit → St → Prop} {m : Nat}
theorem c_copied (G : Gd W) (R : Rep s N st) (H : s.RefOk) {c : Nat} (hc : c ∈ s.ids) (hnd : ((s.cell c).slots.map (·.1)).Nodup) (hz : s.ids.length ≤ 100000) (hz2 : (s.cell c).slots.length ≤ 100000) (hz3 : s.logn ≤ 100000)
    (q : ∀ st', Rep (s.copied c) N st' → Keep N st st' → Q (Val.cell (s.last + 1)).v st') : CallOK W (n + 4) "copied" [.ref .heap, .ref (.cell c)] Q st := by
  refine fn_intro G.ok G.fns (mem_rec (i := 18) rfl (by kernel_rfl)) (ps := ["heap", "cell"]) (fun pm code doc ws h => by obtain ⟨a, b, rfl⟩ := len2 h; kernel_rfl) (by decide) (by kernel_rfl) rfl rfl rfl ?_
  intro env henv
  walk_at "mm"
  refine c_new_cell G R .arr rfl hz fun st1 R1 K1 => ?_
  have hk : s.last + 1 ∈ (s.newCell .arr).ids := List.mem_append_right _ (by simp)
  have hcm : c ≠ s.last + 1 := fun q => by have := (R.range c hc).2; walk_at "om"
  have hc1 : c ∈ (s.newCell .arr).ids := List.mem_append_left _ hc
  have hcell : (s.newCell .arr).cell (s.last + 1) = Cel.new .arr := if_pos rfl
  have hcc : (s.newCell .arr).cell c = s.cell c := if_neg hcm
  obtain ⟨xs, hxs, hxl⟩ := R1.log
  walk_at "mm"
  refine ⟨_, hxs, by rw [hxl]; exact Nat.le_trans hz3 (by decide), ?_⟩
  have R2 := R1.setLog (xs := xs ++ [.tup [.str "copy", .int c, .int (Val.cell (s.last + 1)).num]]) (m := s.logn + 1) (by simp [hxl, S.newCell])
  have K2 := K1.trans (Keep.set (N := N) (st := st1) (r := .log) (o := .list (xs ++ [.tup [.str "copy", .int c, .int (Val.cell (s.last + 1)).num]])) rfl) (Nat.le_refl N)
  generalize (st1.set .log (.list (xs ++ [.tup [.str "copy", .int c, .int (Val.cell (s.last + 1)).num]]))) = st2 at R2 K2
  walk_at "mm"
  have hs0 : ∀ k, ({ s.newCell .arr with logn := s.logn + 1 } : S).cell k = (s.newCell .arr).cell k := fun k => rfl
  have H1 : ({ s.newCell .arr with logn := s.logn + 1 } : S).RefOk := S.newCell_refOk H (fun n hn => (R.range n hn).2) (by decide)
  generalize hS : ({ s.newCell .arr with logn := s.logn + 1 } : S) = s1 at R2 hs0 H1
  have hids : s1.ids = s.ids ++ [s.last + 1] := by rw [← hS]; rfl
  have hc2 : c ∈ s1.ids := by rw [hids]; exact List.mem_append_left _ hc
  have hk2 : s.last + 1 ∈ s1.ids := by rw [hids]; simp
  have hslc : (s1.cell c).slots = (s.cell c).slots := by rw [hs0, hcc]
  have hfin : s.copied c = (s.cell c).slots.foldl (S.copyOne c (s.last + 1)) s1 := by unfold S.copied; rw [hS]
  obtain ⟨ep, hd⟩ := R2.slotsX hc2 (R2.ne hc2)
  rw [hslc] at hd
  have C0 : CopyInv c (s.last + 1) s1 s1 := ⟨rfl, rfl, rfl, fun _ => rfl, fun _ _ => rfl⟩
  refine tx_for0 G.ok (.inl (kof henv rfl)) (ti_dict G.ok ?_)
  walk_at "mm"
  refine ⟨_, _, _, rfl, hd, fun j st' => Rep (((s.cell c).slots.take j).foldl (S.copyOne c (s.last + 1)) s1) N st' ∧ Keep N st st' ∧ st' (.slots c) = some (.dict (dmap (s.cell c).slots) ep), ⟨R2, K2, hd⟩, ?_, ?_⟩
  · rintro j st' v ⟨R', K', hd'⟩ hv
    simp only [Src.items, dmap_keys, List.getElem?_map, Option.map_eq_some_iff] at hv
    obtain ⟨⟨k, u⟩, hj, rfl⟩ := hv
    refine ⟨hd', ?_⟩
    have CI := C0.fold ((s.cell c).slots.take j)
    have hnext : ((s.cell c).slots.take (j + 1)).foldl (S.copyOne c (s.last + 1)) s1 = (((s.cell c).slots.take j).foldl (S.copyOne c (s.last + 1)) s1).copyOne c (s.last + 1) (k, u) := by
      rw [List.take_add_one, hj]; simp [List.foldl_append]
    have hlenm : ((((s.cell c).slots.take j).foldl (S.copyOne c (s.last + 1)) s1).cell (s.last + 1)).slots.length ≤ 100000 := by
      refine Nat.le_trans (copy_len _ _) ?_
      have e0 : (s1.cell (s.last + 1)).slots = [] := by rw [hs0, hcell]; rfl
      rw [e0]
      simp only [List.length_nil, List.length_take]; walk_at "om"
    generalize ((s.cell c).slots.take j).foldl (S.copyOne c (s.last + 1)) s1 = sj at R' CI hlenm hnext
    have hcj : c ∈ sj.ids := by rw [CI.ids]; exact hc2
    have hkj : s.last + 1 ∈ sj.ids := by rw [CI.ids]; exact hk2
    have Hj : sj.RefOk := CI.refOk (by rw [hs0, hcell]; decide) H1
    have hslj : (sj.cell c).slots = (s.cell c).slots := by rw [CI.slots c hcm, hslc]
    walk_at "mm"
    refine d_item (p := .slots c) R' hcj (fun n e => R'.ne (by cases e; exact hcj)) (w := u) (by show dget (sj.cell c).slots k = _; rw [hslj]; exact dget_mem hnd (List.mem_of_getElem? hj)) ?_
    walk_at "mm"
    refine c_in_copy G R' Hj hcj u ?_
    walk_at "mm"
    refine c_gain' G R' (sj.inCopy c u) fun st3 R3 K3 E3 => ?_
    have hk3 : s.last + 1 ∈ (sj.gain (sj.inCopy c u)).ids := by rw [S.gain_ids]; exact hkj
    walk_at "mm"
    refine d_cellitem R3 (k := s.last + 1) hk3 ?_
    walk_at "mm"
    refine d_put' (p := .slots (s.last + 1)) R3 hk3 (fun n e => R3.ne (by cases e; exact hk3)) (by show ((sj.gain _).cell _).slots.length ≤ _; rw [S.gain_slots]; exact Nat.le_trans hlenm (by decide)) fun st4 R4 K4 E4 => ?_
    walk_at "mm"
    refine ⟨Sub.upd rfl Sub.refl, (by rw [hnext]; exact R4), (K'.trans K3).trans K4, ?_⟩
    rw [E4 _ (fun z => by cases z; exact hcm rfl), E3]; exact hd'
  · rintro st' ⟨R', K', hd'⟩
    refine ⟨hd', ?_⟩
    have e : (s.cell c).slots.take (Src.dict (.slots c) (dmap (s.cell c).slots) ep).items.length = (s.cell c).slots := by simp [Src.items, dmap_length]
    rw [e, ← hfin] at R'
    walk_at "mm"
    exact q st' R' K'
end
end
section
/-! ## dicts, plain -/
theorem dget_dput {α : Type} (es : List (Int × α)) (i j : Int) (x : α) : dget (dput es i x) j = if j = i then some x else dget es j := by
  unfold dget dput
  split
  · rename_i h
    induction es with
    | nil => simp at h
    | cons e r ih =>
      by_cases q : e.1 = i
      · by_cases qj : j = i
        · subst qj; simp [q]
        · have : ¬ e.1 = j := fun z => qj (z.symm.trans q)
          rw [if_neg qj]
          simp only [List.map_cons, if_pos q, List.find?_cons, decide_eq_false this]
          congr 1
          clear ih h
          induction r with
          | nil => rfl
          | cons f r ih =>
            by_cases qf : f.1 = i
            · have : ¬ f.1 = j := fun z => qj (z.symm.trans qf)
              simp only [List.map_cons, if_pos qf, List.find?_cons, decide_eq_false this]; exact ih
            · simp only [List.map_cons, if_neg qf, List.find?_cons]
              cases decide (f.1 = j) <;> simp [ih]
      · have h' : (r.any fun e => decide (e.1 = i)) = true := by simpa [q] using h
        have := ih h'
        by_cases qj : e.1 = j
        · have hne : ¬ j = i := fun z => q (qj.trans z)
          simp [qj, hne, q]
        · simp only [List.map_cons, if_neg q, List.find?_cons, decide_eq_false qj]
          exact this
  · rename_i h
    have hn : ∀ e ∈ es, ¬ e.1 = i := fun e he z => h (List.any_eq_true.mpr ⟨e, he, by simpa using z⟩)
    rw [List.find?_append]
    by_cases qj : j = i
    · subst qj
      have : es.find? (fun e => decide (e.1 = j)) = none := List.find?_eq_none.mpr fun e he => by simpa using hn e he
      rw [this, if_pos rfl]; simp
    · rw [if_neg qj]
      have : ¬ i = j := fun z => qj z.symm
      cases es.find? (fun e => decide (e.1 = j)) <;> simp [this]
theorem dget_ddel {α : Type} (es : List (Int × α)) (i j : Int) : dget (ddel es i) j = if j = i then none else dget es j := by
  unfold dget ddel
  induction es with
  | nil => simp
  | cons e r ih =>
    simp only [List.filter_cons]
    by_cases q : e.1 = i
    · simp only [q, ne_eq, not_true_eq_false, decide_false, Bool.false_eq_true, if_false]
      rw [ih]
      by_cases qj : j = i
      · simp [qj]
      · have : ¬ e.1 = j := fun z => qj (z.symm.trans q)
        simp only [if_neg qj, List.find?_cons, decide_eq_false this]
    · simp only [q, ne_eq, not_false_eq_true, decide_true, if_true, List.find?_cons]
      by_cases qj : e.1 = j
      · have hne : ¬ j = i := fun z => q (qj.trans z)
        simp [qj, hne]
      · simp only [decide_eq_false qj]; exact ih
theorem dput_nodup {α : Type} {es : List (Int × α)} {i : Int} {x : α} (h : (es.map (·.1)).Nodup) : ((dput es i x).map (·.1)).Nodup := by
  unfold dput
  split
  · have : (es.map fun e => if e.1 = i then (e.1, x) else e).map (·.1) = es.map (·.1) := by
      rw [List.map_map]; apply List.map_congr_left; intro e _; simp only [Function.comp]; split <;> rfl
    rw [this]; exact h
  · rename_i q
    rw [List.map_append]
    refine List.nodup_append.mpr ⟨h, by simp, fun a ha b hb => ?_⟩
    simp at hb; subst hb
    obtain ⟨e, he, rfl⟩ := List.mem_map.mp ha
    exact fun z => q (List.any_eq_true.mpr ⟨e, he, by simpa using z⟩)
theorem ddel_nodup {α : Type} {es : List (Int × α)} {i : Int} (h : (es.map (·.1)).Nodup) : ((ddel es i).map (·.1)).Nodup := h.sublist (List.filter_sublist.map _)

/-! ## well-formed, and small -/
structure Wf (b : Nat) (s : S) : Prop where
  ref : s.RefOk
  nd : ∀ n ∈ s.ids, ((s.cell n).slots.map (·.1)).Nodup
  ids : s.ids.length ≤ b
  vars : s.vars.length ≤ b
  slots : ∀ n ∈ s.ids, (s.cell n).slots.length ≤ b
  tab : ∀ i, i < 2 → (s.tab i).length ≤ b
  buf : s.buffer.length ≤ b
  log : s.logn ≤ b
  le : ∀ n ∈ s.ids, n ≤ s.last
theorem Wf.up {b c : Nat} {s : S} (w : Wf b s) (h : b ≤ c) : Wf c s := ⟨w.ref, w.nd, Nat.le_trans w.ids h, Nat.le_trans w.vars h, fun n hn => Nat.le_trans (w.slots n hn) h, fun i hi => Nat.le_trans (w.tab i hi) h, Nat.le_trans w.buf h, Nat.le_trans w.log h, w.le⟩
theorem Wf.at {b : Nat} {s : S} (w : Wf b s) {p : Pl} (hp : p.ok s) : (s.at p).length ≤ b := by
  cases p with
  | vars => exact w.vars
  | slots n => exact w.slots n hp
  | ent i => exact w.tab i hp
theorem Wf.gain {b : Nat} {s : S} (w : Wf b s) (v : Val) : Wf b (s.gain v) := by
  refine ⟨S.gain_refOk w.ref, fun n hn => ?_, ?_, ?_, fun n hn => ?_, fun i hi => ?_, ?_, ?_, fun n hn => ?_⟩
  · rw [S.gain_ids] at hn; rw [S.gain_slots]; exact w.nd n hn
  · rw [S.gain_ids]; exact w.ids
  · rw [S.gain_vars]; exact w.vars
  · rw [S.gain_ids] at hn; rw [S.gain_slots]; exact w.slots n hn
  · rw [S.gain_tab]; exact w.tab i hi
  · rw [S.gain_buffer]; exact w.buf
  · rw [S.gain_logn]; exact w.log
  · rw [S.gain_ids] at hn; rw [S.gain_last]; exact w.le n hn
theorem Wf.put {b c : Nat} {s : S} (w : Wf b s) {p : Pl} (hp : p.ok s) {es : List (Int × Val)} (h1 : es.length ≤ c) (h2 : (es.map (·.1)).Nodup ∨ ∀ n, p ≠ .slots n) (h3 : ∀ n, p = .slots n → (s.cell n).sort = .rf → ∃ v, dget es 0 = some v) (hb : b ≤ c) : Wf c (s.put p es) := by
  cases p with
  | vars => exact { w.up hb with vars := h1 }
  | ent i =>
    have ht : ∀ j, j < 2 → ((s.put (.ent i) es).tab j).length ≤ c := fun j hj => by
      show (if j = i then es else s.tab j).length ≤ c
      split
      · exact h1
      · exact Nat.le_trans (w.tab j hj) hb
    exact { w.up hb with tab := ht }
  | slots n =>
    have h2 : (es.map (·.1)).Nodup := h2.resolve_right fun z => z n rfl
    have key : ∀ m, (s.put (.slots n) es).cell m = if m = n then { s.cell n with slots := es } else s.cell m := fun m => rfl
    refine { w.up hb with ref := fun m hm hs => ?_, nd := fun m hm => ?_, slots := fun m hm => ?_ }
    · rw [key] at hs ⊢
      split
      · rename_i q; rw [if_pos q] at hs; exact h3 n rfl hs
      · rename_i q; rw [if_neg q] at hs; exact w.ref m hm hs
    · rw [key]; split
      · exact h2
      · exact w.nd m hm
    · rw [key]; split
      · exact h1
      · exact Nat.le_trans (w.slots m hm) hb
theorem Wf.dput {b : Nat} {s : S} (w : Wf b s) {p : Pl} (hp : p.ok s) (i : Int) (v : Val) : Wf (b + 1) (s.put p (Mine.Internal.dput (s.at p) i v)) := by
  refine w.put hp (Nat.le_trans (dput_length _ _ _) (Nat.succ_le_succ (w.at hp))) ?_ (fun n e hs => ?_) (Nat.le_succ b)
  · cases p with
    | slots n => exact .inl (dput_nodup (w.nd n hp))
    | _ => exact .inr nofun
  · subst e
    rw [dget_dput]
    split
    · exact ⟨_, rfl⟩
    · exact w.ref n hp hs
theorem Wf.written {b : Nat} {s : S} (w : Wf b s) {p : Pl} (hp : p.ok s) (i : Int) (v : Val) : Wf (b + 1) (s.written p i v).1 := by
  unfold S.written
  split
  · rename_i r h
    split
    · rename_i hr
      obtain ⟨r', e, hm, hs⟩ := S.isRef_cell hr
      cases e
      exact w.dput (p := .slots r) hm 0 v
    · exact w.dput hp i v
  · exact w.dput hp i v
  · exact w.dput hp i v
theorem Wf.newCell {b : Nat} {s : S} (w : Wf b s) {t : Srt} (ht : t ≠ .rf) : Wf (b + 1) (s.newCell t) := by
  have key : ∀ m, (s.newCell t).cell m = if m = s.last + 1 then Cel.new t else s.cell m := fun m => rfl
  have mem : ∀ m, m ∈ (s.newCell t).ids → m ≠ s.last + 1 → m ∈ s.ids := fun m hm q => by
    have := List.mem_append.mp hm
    simpa [q] using this
  refine ⟨S.newCell_refOk w.ref w.le ht, fun n hn => ?_, ?_, Nat.le_succ_of_le w.vars, fun n hn => ?_, fun i hi => Nat.le_succ_of_le (w.tab i hi), Nat.le_succ_of_le w.buf, Nat.le_succ_of_le w.log, fun n hn => ?_⟩
  · rw [key]; split
    · exact List.nodup_nil
    · rename_i q; exact w.nd n (mem n hn q)
  · show (s.ids ++ [s.last + 1]).length ≤ _; rw [List.length_append]; exact Nat.succ_le_succ w.ids
  · rw [key]; split
    · exact Nat.zero_le _
    · rename_i q; exact Nat.le_succ_of_le (w.slots n (mem n hn q))
  · by_cases q : n = s.last + 1
    · exact Nat.le_of_eq q
    · exact Nat.le_succ_of_le (w.le n (mem n hn q))
theorem Wf.refIn {b : Nat} {s : S} (w : Wf b s) (i : Int) : Wf (b + 1) (s.refIn i).1 := by
  unfold S.refIn
  generalize (dget s.vars i).getD (.int 0) = held
  dsimp only
  split
  · exact w.up (Nat.le_succ b)
  · have key : ∀ m, ((s.newCell .rf).put (.slots (s.last + 1)) (Mine.Internal.dput ((s.newCell .rf).at (.slots (s.last + 1))) 0 held)).cell m = if m = s.last + 1 then { Cel.new .rf with slots := [(0, held)] } else s.cell m := fun m => by
      have h0 : (s.newCell .rf).cell (s.last + 1) = Cel.new .rf := if_pos rfl
      show (if m = s.last + 1 then { (s.newCell .rf).cell (s.last + 1) with slots := Mine.Internal.dput ((s.newCell .rf).cell (s.last + 1)).slots 0 held } else (s.newCell .rf).cell m) = _
      rw [h0]
      split
      · rfl
      · rename_i q; exact if_neg q
    have mem : ∀ m, m ∈ (s.newCell .rf).ids → m ≠ s.last + 1 → m ∈ s.ids := fun m hm q => by
      have := List.mem_append.mp hm
      simpa [q] using this
    have w1 : Wf (b + 1) ((s.newCell .rf).put (.slots (s.last + 1)) (Mine.Internal.dput ((s.newCell .rf).at (.slots (s.last + 1))) 0 held)) := by
      have hb : 1 ≤ b + 1 := Nat.succ_le_succ (Nat.zero_le b)
      refine ⟨fun n hn hs => ?_, fun n hn => ?_, ?_, Nat.le_succ_of_le w.vars, fun n hn => ?_, fun i hi => Nat.le_succ_of_le (w.tab i hi), Nat.le_succ_of_le w.buf, Nat.le_succ_of_le w.log, fun n hn => ?_⟩
      · rw [key] at hs ⊢; split
        · exact ⟨held, by simp [dget]⟩
        · rename_i q; rw [if_neg q] at hs; exact w.ref n (mem n hn q) hs
      · rw [key]; split
        · simp
        · rename_i q; exact w.nd n (mem n hn q)
      · show (s.ids ++ [s.last + 1]).length ≤ _; rw [List.length_append]; exact Nat.succ_le_succ w.ids
      · rw [key]; split
        · exact hb
        · rename_i q; exact Nat.le_succ_of_le (w.slots n (mem n hn q))
      · by_cases q : n = s.last + 1
        · exact Nat.le_of_eq q
        · exact Nat.le_succ_of_le (w.le n (mem n hn q))
    have w2 := w1.gain (.cell (s.last + 1))
    refine w2.put (p := .vars) trivial ?_ (.inr nofun) nofun (Nat.le_refl _)
    refine Nat.le_trans (dput_length _ _ _) ?_
    simp only [S.at, S.gain_vars]
    exact Nat.succ_le_succ w.vars
theorem Wf.copyOne {b : Nat} {s : S} {c m : Nat} (w : Wf b s) (hm : m ∈ s.ids) (hl : (s.cell m).slots.length + 1 ≤ b) (e : Int × Val) : Wf b (s.copyOne c m e) := by
  have w1 := w.gain (s.inCopy c e.2)
  have hm1 : m ∈ (s.gain (s.inCopy c e.2)).ids := by rw [S.gain_ids]; exact hm
  refine w1.put (p := .slots m) hm1 ?_ (.inl (dput_nodup (w1.nd m hm1))) (fun n en hs => ?_) (Nat.le_refl b)
  · refine Nat.le_trans (dput_length _ _ _) ?_
    simp only [S.at, S.gain_slots]; exact hl
  · cases en
    rw [dget_dput]; split
    · exact ⟨_, rfl⟩
    · exact w1.ref m hm1 hs
theorem Wf.copyFold {b c m : Nat} : ∀ (es : List (Int × Val)) {s : S}, Wf b s → m ∈ s.ids → (s.cell m).slots.length + es.length ≤ b → Wf b (es.foldl (S.copyOne c m) s)
  | [], _, w, _, _ => w
  | e :: r, s, w, hm, hl => by
    simp only [List.length_cons] at hl
    refine Wf.copyFold r (w.copyOne hm (by walk_at "om") e) (by simp [S.copyOne, hm]) ?_
    have : ((s.copyOne c m e).cell m).slots.length ≤ (s.cell m).slots.length + 1 := copy_len [e] s
    walk_at "om"
theorem Wf.copied {b : Nat} {s : S} (w : Wf b s) {c : Nat} (hc : c ∈ s.ids) : Wf (b + 1) (s.copied c) := by
  have w1 : Wf (b + 1) ({ s.newCell .arr with logn := s.logn + 1 } : S) := { w.newCell (t := .arr) (by decide) with log := Nat.succ_le_succ w.log }
  refine Wf.copyFold _ w1 (List.mem_append_right _ (by simp)) ?_
  have h0 : (({ s.newCell .arr with logn := s.logn + 1 } : S).cell (s.last + 1)) = Cel.new .arr := if_pos rfl
  rw [h0]
  show 0 + _ ≤ _
  have := w.slots c hc
  walk_at "om"
theorem copied_ids {c : Nat} (es : List (Int × Val)) {m : Nat} {s0 : S} : (es.foldl (S.copyOne c m) s0).ids = s0.ids := by
  induction es generalizing s0 with
  | nil => rfl
  | cons e r ih => rw [List.foldl_cons, ih]; simp [S.copyOne]
end
section
/-! ## the deeds -/
noncomputable def S.container (s : S) (a : Int) (n : Nat) : S × Nat × List Val :=
  if (s.cell n).sort = .obj ∨ (s.cell n).count = 1 then (s, n, []) else
    let s2 := (s.copied n).gain (.cell (s.last + 1))
    ((s2.written .vars a (.cell (s.last + 1))).1, s.last + 1, (s2.written .vars a (.cell (s.last + 1))).2)
@[simp] theorem S.written_ids {s : S} {p : Pl} {i : Int} {v : Val} : (s.written p i v).1.ids = s.ids := by
  unfold S.written; split
  · split <;> simp
  · simp
  · simp
theorem toList_len {α : Type} (o : Option α) : o.toList.length ≤ 1 := by cases o <;> simp
theorem S.written_len {s : S} {p : Pl} {i : Int} {v : Val} : (s.written p i v).2.length ≤ 1 := by
  unfold S.written; split
  · split
    · exact toList_len _
    · simp
  · simp
  · simp
theorem S.copied_ids' {s : S} {c : Nat} : (s.copied c).ids = s.ids ++ [s.last + 1] := by unfold S.copied; exact copied_ids _
theorem S.container_mem {s : S} {a : Int} {n : Nat} (h : n ∈ s.ids) : (s.container a n).2.1 ∈ (s.container a n).1.ids := by
  unfold S.container; split
  · exact h
  · simp [S.copied_ids']
theorem S.container_len {s : S} {a : Int} {n : Nat} : (s.container a n).2.2.length ≤ 1 := by
  unfold S.container; split
  · simp
  · exact S.written_len
theorem Wf.container {b : Nat} {s : S} (w : Wf b s) {a : Int} {n : Nat} (h : n ∈ s.ids) : Wf (b + 2) (s.container a n).1 := by
  unfold S.container; split
  · exact w.up (by walk_at "om")
  · exact ((w.copied h).gain _).written (p := .vars) trivial _ _
noncomputable def S.setInt (s : S) (a n : Int) : S × List Val := s.written .vars a (.int n)
noncomputable def S.newArray (s : S) (a : Int) : S × List Val := ((s.newCell .arr).gain (.cell (s.last + 1))).written .vars a (.cell (s.last + 1))
noncomputable def S.newObject (s : S) (a : Int) : S × List Val := ((s.newCell .obj).gain (.cell (s.last + 1))).written .vars a (.cell (s.last + 1))
noncomputable def S.assign (s : S) (a b : Int) : S × List Val := (s.gain (s.valueOf b)).written .vars a (s.valueOf b)
noncomputable def S.putD (s : S) (a k b : Int) : S × List Val :=
  if (s.valueOf a).isCell then
    let s1 := s.gain (s.valueOf b)
    match s1.valueOf a with
    | .cell n => let c := s1.container a n; ((c.1.written (.slots c.2.1) k (s.valueOf b)).1, c.2.2 ++ (c.1.written (.slots c.2.1) k (s.valueOf b)).2)
    | .int _ => (s1, [])
  else (s, [])
noncomputable def S.replaced (s : S) (p : Pl) (i : Int) (v : Val) : S × List Val := (s.put p (dput (s.at p) i v), (dget (s.at p) i).toList)
noncomputable def S.takenOut (s : S) (p : Pl) (i : Int) : S × List Val := (s.put p (ddel (s.at p) i), (dget (s.at p) i).toList)
noncomputable def S.makeRef (s : S) (a b : Int) : S × List Val := ((s.refIn b).1.gain (s.refIn b).2).replaced .vars a (s.refIn b).2
noncomputable def S.putRef (s : S) (a k b : Int) : S × List Val :=
  if (s.valueOf a).isCell then
    let s1 := (s.refIn b).1.gain (s.refIn b).2
    match s1.valueOf a with
    | .cell n => let c := s1.container a n; ((c.1.replaced (.slots c.2.1) k (s.refIn b).2).1, c.2.2 ++ (c.1.replaced (.slots c.2.1) k (s.refIn b).2).2)
    | .int _ => (s1, [])
  else (s, [])
noncomputable def S.unset (s : S) (a : Int) : S × List Val := s.takenOut .vars a
noncomputable def S.unsetAt (s : S) (a k : Int) : S × List Val :=
  if (s.valueOf a).isCell then
    match s.valueOf a with
    | .cell n => let c := s.container a n; ((c.1.takenOut (.slots c.2.1) k).1, c.2.2 ++ (c.1.takenOut (.slots c.2.1) k).2)
    | .int _ => (s, [])
  else (s, [])
theorem S.upd_id {s : S} {m : Nat} : s.upd m (fun c => c) = s := by
  have : (fun k => if k = m then s.cell m else s.cell k) = s.cell := by funext k; split <;> simp_all
  show ({ s with cell := fun k => if k = m then s.cell m else s.cell k } : S) = s
  rw [this]
section
variable {W : Wd} {n : Nat} {st : St} {Q : V → St → Prop} {x : Nat} {s : S} {N : Nat} {QU : Unit → St → Prop} {m : Nat}
theorem c_has_elements (G : Gd W) (R : Rep s N st) (H : s.RefOk) {a : Int} (q : Q (.bool (s.valueOf a).isCell) st) : CallOK W (n + 5) "has_elements" [.ref .heap, .int a] Q st := by
  refine fn_intro G.ok G.fns (mem_rec (i := 19) rfl (by kernel_rfl)) (ps := ["heap", "var"]) (fun pm code doc ws h => by obtain ⟨a, b, rfl⟩ := len2 h; kernel_rfl) (by decide) (by kernel_rfl) rfl rfl rfl ?_
  intro env henv
  walk_at "mm"
  refine c_value_of G R H a ?_
  walk_at "mm"
  exact q
theorem c_container (G : Gd W) (R : Rep s N st) (w : Wf 90000 s) {a : Int} {c : Nat} (hv : s.valueOf a = .cell c) (hc : c ∈ s.ids)
    (q : ∀ j N' st', N ≤ j → j < N' → Rep (s.container a c).1 N' st' → Keep N st st' → st' (.tmp j) = some (.list ((s.container a c).2.2.map Val.v)) → Q (.tup [.ref (.cell (s.container a c).2.1), .ref (.tmp j)]) st') : CallOK W (n + 5) "container" [.ref .heap, .int a] Q st := by
  refine fn_intro G.ok G.fns (mem_rec (i := 20) rfl (by kernel_rfl)) (ps := ["heap", "var"]) (fun pm code doc ws h => by obtain ⟨a, b, rfl⟩ := len2 h; kernel_rfl) (by decide) (by kernel_rfl) rfl rfl rfl ?_
  intro env henv
  walk_at "mm"
  refine c_value_of G R w.ref a ?_
  rw [hv]
  walk_at "mm"
  refine d_cellitem R hc ?_
  walk_at "mm"
  unfold S.container at q
  by_cases h1 : (s.cell c).sort = .obj
  · have e1 : decide ((s.cell c).sort = .obj) = true := by simpa using h1
    rw [if_pos (.inl h1)] at q
    walk_at "mm"
    refine te_list G.ok (.tmp N) ?_
    walk_at "mm"
    refine ⟨R.tmp (Nat.le_refl N), ?_⟩
    walk_at "mm"
    exact q N (N + 1) _ (Nat.le_refl N) (Nat.lt_succ_self N) R.tmpset (Keep.set_tmp (Nat.le_refl N)) St.set_same
  · have e1 : decide ((s.cell c).sort = .obj) = false := by simpa using h1
    by_cases h2 : (s.cell c).count = 1
    · have e2 : decide ((s.cell c).count = 1) = true := by simpa using h2
      rw [if_pos (.inr h2)] at q
      walk_at "mm"
      refine te_list G.ok (.tmp N) ?_
      walk_at "mm"
      refine ⟨R.tmp (Nat.le_refl N), ?_⟩
      walk_at "mm"
      exact q N (N + 1) _ (Nat.le_refl N) (Nat.lt_succ_self N) R.tmpset (Keep.set_tmp (Nat.le_refl N)) St.set_same
    · have e2 : decide ((s.cell c).count = 1) = false := by simpa using h2
      rw [if_neg (by simp [h1, h2])] at q
      dsimp only at q
      walk_at "mm"
      refine c_copied G R w.ref hc (w.nd c hc) (Nat.le_trans w.ids (by decide)) (Nat.le_trans (w.slots c hc) (by decide)) (Nat.le_trans w.log (by decide)) fun st1 R1 K1 => ?_
      have w1 := w.copied hc
      walk_at "mm"
      refine d_cellitem R1 (k := s.last + 1) (by rw [S.copied_ids']; simp) ?_
      walk_at "mm"
      refine c_gain G R1 (.cell (s.last + 1)) fun st2 R2 K2 => ?_
      have w2 := w1.gain (.cell (s.last + 1))
      walk_at "mm"
      refine c_written (p := .vars) G R2 trivial (Nat.le_trans w2.vars (by decide)) (fun r hr => Nat.le_trans (w2.slots r hr) (by decide)) fun j N' st3 hj hj' R3 K3 hl => ?_
      walk_at "mm"
      exact q j N' st3 hj hj' R3 ((K1.trans K2).trans K3) hl
theorem c_set_int (G : Gd W) (R : Rep s N st) (w : Wf 90000 s) {a i : Int} (q : Loses (s.setInt a i).1 (s.setInt a i).2 N st Q) : CallOK W (n + 4) "set_int" [.ref .heap, .int a, .int i] Q st := by
  refine fn_intro G.ok G.fns (mem_rec (i := 21) rfl (by kernel_rfl)) (ps := ["heap", "var", "n"]) (fun pm code doc ws h => by obtain ⟨a, b, c, rfl⟩ := len3 h; kernel_rfl) (by decide) (by kernel_rfl) rfl rfl rfl ?_
  intro env henv
  walk_at "mm"
  exact c_written (p := .vars) (v := .int i) G R trivial (Nat.le_trans w.vars (by decide)) (fun r hr => Nat.le_trans (w.slots r hr) (by decide)) q
theorem c_new_array (G : Gd W) (R : Rep s N st) (w : Wf 90000 s) {a : Int} (q : Loses (s.newArray a).1 (s.newArray a).2 N st Q) : CallOK W (n + 4) "new_array" [.ref .heap, .int a] Q st := by
  refine fn_intro G.ok G.fns (mem_rec (i := 22) rfl (by kernel_rfl)) (ps := ["heap", "var"]) (fun pm code doc ws h => by obtain ⟨a, b, rfl⟩ := len2 h; kernel_rfl) (by decide) (by kernel_rfl) rfl rfl rfl ?_
  intro env henv
  walk_at "mm"
  refine c_new_cell G R .arr rfl (Nat.le_trans w.ids (by decide)) fun st1 R1 K1 => ?_
  have w1 := w.newCell (t := .arr) (by decide)
  walk_at "mm"
  refine c_gain G R1 (.cell (s.last + 1)) fun st2 R2 K2 => ?_
  have w2 := w1.gain (.cell (s.last + 1))
  walk_at "mm"
  exact c_written (p := .vars) G R2 trivial (Nat.le_trans w2.vars (by decide)) (fun r hr => Nat.le_trans (w2.slots r hr) (by decide)) fun j N' st3 hj hj' R3 K3 hl => q j N' st3 hj hj' R3 ((K1.trans K2).trans K3) hl
theorem c_new_object (G : Gd W) (R : Rep s N st) (w : Wf 90000 s) {a : Int} (q : Loses (s.newObject a).1 (s.newObject a).2 N st Q) : CallOK W (n + 4) "new_object" [.ref .heap, .int a, .bool false] Q st := by
  refine fn_intro G.ok G.fns (mem_rec (i := 23) rfl (by kernel_rfl)) (ps := ["heap", "var", "has_destructor"]) (fun pm code doc ws h => by obtain ⟨a, b, c, rfl⟩ := len3 h; kernel_rfl) (by decide) (by kernel_rfl) rfl rfl rfl ?_
  intro env henv
  walk_at "mm"
  refine c_new_cell G R .obj rfl (Nat.le_trans w.ids (by decide)) fun st1 R1 K1 => ?_
  have w1 := w.newCell (t := .obj) (by decide)
  walk_at "mm"
  refine c_gain G R1 (.cell (s.last + 1)) fun st2 R2 K2 => ?_
  have w2 := w1.gain (.cell (s.last + 1))
  have hm : s.last + 1 ∈ ((s.newCell .obj).gain (.cell (s.last + 1))).ids := by rw [S.gain_ids]; exact List.mem_append_right _ (by simp)
  walk_at "mm"
  refine d_cellitem R2 (k := s.last + 1) hm ?_
  refine d_sethasD G R2 hm fun st3 R3 K3 => ?_
  rw [S.upd_id] at R3
  walk_at "mm"
  exact c_written (p := .vars) G R3 trivial (Nat.le_trans w2.vars (by decide)) (fun r hr => Nat.le_trans (w2.slots r hr) (by decide)) fun j N' st3 hj hj' R4 K4 hl => q j N' st3 hj hj' R4 (((K1.trans K2).trans K3).trans K4) hl
theorem c_assign (G : Gd W) (R : Rep s N st) (w : Wf 90000 s) {a b : Int} (q : Loses (s.assign a b).1 (s.assign a b).2 N st Q) : CallOK W (n + 5) "assign" [.ref .heap, .int a, .int b] Q st := by
  refine fn_intro G.ok G.fns (mem_rec (i := 24) rfl (by kernel_rfl)) (ps := ["heap", "var", "other"]) (fun pm code doc ws h => by obtain ⟨a, b, c, rfl⟩ := len3 h; kernel_rfl) (by decide) (by kernel_rfl) rfl rfl rfl ?_
  intro env henv
  walk_at "mm"
  refine c_value_of G R w.ref b ?_
  walk_at "mm"
  refine c_gain G R (s.valueOf b) fun st2 R2 K2 => ?_
  have w2 := w.gain (s.valueOf b)
  walk_at "mm"
  exact c_written (p := .vars) G R2 trivial (Nat.le_trans w2.vars (by decide)) (fun r hr => Nat.le_trans (w2.slots r hr) (by decide)) fun j N' st3 hj hj' R3 K3 hl => q j N' st3 hj hj' R3 (K2.trans K3) hl
theorem c_put (G : Gd W) (R : Rep s N st) (w : Wf 80000 s) {a k b : Int} (hv : (s.valueOf a).isCell = true → ∃ c, (s.gain (s.valueOf b)).valueOf a = .cell c ∧ c ∈ s.ids)  (q : Loses (s.putD a k b).1 (s.putD a k b).2 N st Q) : CallOK W (n + 6) "put" [.ref .heap, .int a, .int k, .int b] Q st := by
  refine fn_intro G.ok G.fns (mem_rec (i := 25) rfl (by kernel_rfl)) (ps := ["heap", "var", "key", "other"]) (fun pm code doc ws h => by obtain ⟨a, b, c, d, rfl⟩ := len4 h; kernel_rfl) (by decide) (by kernel_rfl) rfl rfl rfl ?_
  intro env henv
  walk_at "mm"
  refine c_has_elements G R w.ref ?_
  walk_at "mm"
  unfold S.putD at q
  cases h : (s.valueOf a).isCell with
  | false =>
    rw [h, if_neg Bool.false_ne_true] at q
    walk_at "mm"
    refine te_list G.ok (.tmp N) ?_
    walk_at "mm"
    refine ⟨R.tmp (Nat.le_refl N), ?_⟩
    exact q N (N + 1) _ (Nat.le_refl N) (Nat.lt_succ_self N) R.tmpset (Keep.set_tmp (Nat.le_refl N)) St.set_same
  | true =>
    rw [h, if_pos rfl] at q
    obtain ⟨c, hc, hm⟩ := hv h
    dsimp only at q
    rw [hc] at q
    dsimp only at q
    walk_at "mm"
    refine c_value_of G R w.ref b ?_
    walk_at "mm"
    refine c_gain G R (s.valueOf b) fun st2 R2 K2 => ?_
    have w2 := w.gain (s.valueOf b)
    have hm2 : c ∈ (s.gain (s.valueOf b)).ids := by rw [S.gain_ids]; exact hm
    walk_at "mm"
    refine c_container G R2 (w2.up (by decide)) hc hm2 fun j N' st3 hj hj' R3 K3 hl => ?_
    have w3 := w2.container (a := a) hm2
    have hm3 := S.container_mem (a := a) hm2
    walk_at "mm"
    refine c_written (p := .slots _) G R3 hm3 (Nat.le_trans (w3.at (p := .slots _) hm3) (by decide)) (fun r hr => Nat.le_trans (w3.slots r hr) (by decide)) fun j2 N2 st4 hj2 hj2' R4 K4 hl2 => ?_
    have z1 := S.container_len (s := s.gain (s.valueOf b)) (a := a) (n := c)
    have z2 := S.written_len (s := ((s.gain (s.valueOf b)).container a c).1) (p := .slots ((s.gain (s.valueOf b)).container a c).2.1) (i := k) (v := s.valueOf b)
    refine op_listadd G.ok (.tmp N2) (K4.tmp.trans hl) hl2 (R4.tmp (Nat.le_refl _)) (by simp only [List.length_map]; walk_at "om") ?_
    rw [← List.map_append]
    exact q N2 (N2 + 1) _ (by walk_at "om") (Nat.lt_succ_self _) R4.tmpset ((K2.trans K3).trans (K4.trans (Keep.set_tmp (Nat.le_refl _)))) St.set_same
end
end
section
/-! ## more deeds -/
inductive Deed where
  | newObject (a : Int) | newArray (a : Int) | makeRef (a b : Int) | put (a k b : Int) | assign (a b : Int) | setInt (a n : Int) | putRef (a k b : Int) | unset (a : Int) | unsetAt (a k : Int)
noncomputable def Deed.name : Deed → Str
  | .newObject _ => "new_object" | .newArray _ => "new_array" | .makeRef _ _ => "make_ref" | .put _ _ _ => "put" | .assign _ _ => "assign" | .setInt _ _ => "set_int" | .putRef _ _ _ => "put_ref" | .unset _ => "unset" | .unsetAt _ _ => "unset_at"
noncomputable def Deed.args : Deed → List V
  | .newObject a => [.int a, .bool false] | .newArray a => [.int a] | .makeRef a b => [.int a, .int b] | .put a k b => [.int a, .int k, .int b] | .assign a b => [.int a, .int b] | .setInt a n => [.int a, .int n]
  | .putRef a k b => [.int a, .int k, .int b] | .unset a => [.int a] | .unsetAt a k => [.int a, .int k]
noncomputable def Deed.v (d : Deed) : V := .tup [.str d.name, .tup d.args]
noncomputable def S.change (s : S) : Deed → S × List Val
  | .newObject a => s.newObject a | .newArray a => s.newArray a | .makeRef a b => s.makeRef a b | .put a k b => s.putD a k b | .assign a b => s.assign a b | .setInt a n => s.setInt a n
  | .putRef a k b => s.putRef a k b | .unset a => s.unset a | .unsetAt a k => s.unsetAt a k
/-- what the walk of a deed asks: an array or object in the variable is there -/
noncomputable def S.deedOk (s : S) : Deed → Prop
  | .put a _ b => (s.valueOf a).isCell = true → ∃ c, (s.gain (s.valueOf b)).valueOf a = .cell c ∧ c ∈ s.ids
  | .putRef a _ b => (s.valueOf a).isCell = true → ∃ c, ((s.refIn b).1.gain (s.refIn b).2).valueOf a = .cell c ∧ c ∈ (s.refIn b).1.ids
  | .unsetAt a _ => (s.valueOf a).isCell = true → ∃ c, s.valueOf a = .cell c ∧ c ∈ s.ids
  | _ => True
section
variable {W : Wd} {n : Nat} {st : St} {Q : V → St → Prop} {x : Nat} {s : S} {N : Nat} {QU : Unit → St → Prop} {m : Nat}
theorem c_make_ref (G : Gd W) (R : Rep s N st) (w : Wf 80000 s) {a b : Int} (q : Loses (s.makeRef a b).1 (s.makeRef a b).2 N st Q) : CallOK W (n + 5) "make_ref" [.ref .heap, .int a, .int b] Q st := by
  refine fn_intro G.ok G.fns (mem_rec (i := 27) rfl (by kernel_rfl)) (ps := ["heap", "var", "other"]) (fun pm code doc ws h => by obtain ⟨a, b, c, rfl⟩ := len3 h; kernel_rfl) (by decide) (by kernel_rfl) rfl rfl rfl ?_
  intro env henv
  walk_at "mm"
  refine c_ref_in G R (Nat.le_trans w.ids (by decide)) (Nat.le_trans w.vars (by decide)) fun st1 R1 K1 => ?_
  have w1 := w.refIn b
  walk_at "mm"
  refine c_gain G R1 (s.refIn b).2 fun st2 R2 K2 => ?_
  have w2 := w1.gain (s.refIn b).2
  walk_at "mm"
  exact c_replaced (p := .vars) G R2 trivial (Nat.le_trans w2.vars (by decide)) fun j N' st3 hj hj' R3 K3 hl => q j N' st3 hj hj' R3 ((K1.trans K2).trans K3) hl
theorem c_put_ref (G : Gd W) (R : Rep s N st) (w : Wf 80000 s) {a k b : Int} (hv : s.deedOk (.putRef a k b)) (q : Loses (s.putRef a k b).1 (s.putRef a k b).2 N st Q) : CallOK W (n + 6) "put_ref" [.ref .heap, .int a, .int k, .int b] Q st := by
  refine fn_intro G.ok G.fns (mem_rec (i := 28) rfl (by kernel_rfl)) (ps := ["heap", "var", "key", "other"]) (fun pm code doc ws h => by obtain ⟨a, b, c, d, rfl⟩ := len4 h; kernel_rfl) (by decide) (by kernel_rfl) rfl rfl rfl ?_
  intro env henv
  walk_at "mm"
  refine c_has_elements G R w.ref ?_
  walk_at "mm"
  unfold S.putRef at q
  cases h : (s.valueOf a).isCell with
  | false =>
    rw [h, if_neg Bool.false_ne_true] at q
    walk_at "mm"
    refine te_list G.ok (.tmp N) ?_
    walk_at "mm"
    refine ⟨R.tmp (Nat.le_refl N), ?_⟩
    exact q N (N + 1) _ (Nat.le_refl N) (Nat.lt_succ_self N) R.tmpset (Keep.set_tmp (Nat.le_refl N)) St.set_same
  | true =>
    rw [h, if_pos rfl] at q
    obtain ⟨c, hc, hm⟩ := hv h
    dsimp only at q
    rw [hc] at q
    dsimp only at q
    walk_at "mm"
    refine c_ref_in G R (Nat.le_trans w.ids (by decide)) (Nat.le_trans w.vars (by decide)) fun st1 R1 K1 => ?_
    have w1 := w.refIn b
    walk_at "mm"
    refine c_gain G R1 (s.refIn b).2 fun st2 R2 K2 => ?_
    have w2 := w1.gain (s.refIn b).2
    have hm2 : c ∈ ((s.refIn b).1.gain (s.refIn b).2).ids := by rw [S.gain_ids]; exact hm
    walk_at "mm"
    refine c_container G R2 (w2.up (by decide)) hc hm2 fun j N' st3 hj hj' R3 K3 hl => ?_
    have w3 := w2.container (a := a) hm2
    have hm3 := S.container_mem (a := a) hm2
    walk_at "mm"
    refine c_replaced (p := .slots _) G R3 hm3 (Nat.le_trans (w3.at (p := .slots _) hm3) (by decide)) fun j2 N2 st4 hj2 hj2' R4 K4 hl2 => ?_
    have z1 := S.container_len (s := (s.refIn b).1.gain (s.refIn b).2) (a := a) (n := c)
    have z2 := toList_len (dget ((((s.refIn b).1.gain (s.refIn b).2).container a c).1.at (.slots (((s.refIn b).1.gain (s.refIn b).2).container a c).2.1)) k)
    refine op_listadd G.ok (.tmp N2) (K4.tmp.trans hl) hl2 (R4.tmp (Nat.le_refl _)) (by simp only [List.length_map]; walk_at "om") ?_
    rw [← List.map_append]
    exact q N2 (N2 + 1) _ (by walk_at "om") (Nat.lt_succ_self _) R4.tmpset (((K1.trans K2).trans K3).trans (K4.trans (Keep.set_tmp (Nat.le_refl _)))) St.set_same
theorem c_unset (G : Gd W) (R : Rep s N st) (w : Wf 80000 s) {a : Int} (q : Loses (s.unset a).1 (s.unset a).2 N st Q) : CallOK W (n + 2) "unset" [.ref .heap, .int a] Q st := by
  refine fn_intro G.ok G.fns (mem_rec (i := 29) rfl (by kernel_rfl)) (ps := ["heap", "var"]) (fun pm code doc ws h => by obtain ⟨a, b, rfl⟩ := len2 h; kernel_rfl) (by decide) (by kernel_rfl) rfl rfl rfl ?_
  intro env henv
  walk_at "mm"
  exact c_taken_out (p := .vars) G R trivial (Nat.le_trans w.vars (by decide)) q
theorem c_unset_at (G : Gd W) (R : Rep s N st) (w : Wf 80000 s) {a k : Int} (hv : s.deedOk (.unsetAt a k)) (q : Loses (s.unsetAt a k).1 (s.unsetAt a k).2 N st Q) : CallOK W (n + 6) "unset_at" [.ref .heap, .int a, .int k] Q st := by
  refine fn_intro G.ok G.fns (mem_rec (i := 30) rfl (by kernel_rfl)) (ps := ["heap", "var", "key"]) (fun pm code doc ws h => by obtain ⟨a, b, c, rfl⟩ := len3 h; kernel_rfl) (by decide) (by kernel_rfl) rfl rfl rfl ?_
  intro env henv
  walk_at "mm"
  refine c_has_elements G R w.ref ?_
  walk_at "mm"
  unfold S.unsetAt at q
  cases h : (s.valueOf a).isCell with
  | false =>
    rw [h, if_neg Bool.false_ne_true] at q
    walk_at "mm"
    refine te_list G.ok (.tmp N) ?_
    walk_at "mm"
    refine ⟨R.tmp (Nat.le_refl N), ?_⟩
    exact q N (N + 1) _ (Nat.le_refl N) (Nat.lt_succ_self N) R.tmpset (Keep.set_tmp (Nat.le_refl N)) St.set_same
  | true =>
    rw [h, if_pos rfl] at q
    obtain ⟨c, hc, hm⟩ := hv h
    rw [hc] at q
    dsimp only at q
    walk_at "mm"
    refine c_container G R (w.up (by decide)) hc hm fun j N' st3 hj hj' R3 K3 hl => ?_
    have w3 := w.container (a := a) hm
    have hm3 := S.container_mem (a := a) hm
    walk_at "mm"
    refine c_taken_out (p := .slots _) G R3 hm3 (Nat.le_trans (w3.at (p := .slots _) hm3) (by decide)) fun j2 N2 st4 hj2 hj2' R4 K4 hl2 => ?_
    have z1 := S.container_len (s := s) (a := a) (n := c)
    have z2 := toList_len (dget ((s.container a c).1.at (.slots (s.container a c).2.1)) k)
    refine op_listadd G.ok (.tmp N2) (K4.tmp.trans hl) hl2 (R4.tmp (Nat.le_refl _)) (by simp only [List.length_map]; walk_at "om") ?_
    rw [← List.map_append]
    exact q N2 (N2 + 1) _ (by walk_at "om") (Nat.lt_succ_self _) R4.tmpset (K3.trans (K4.trans (Keep.set_tmp (Nat.le_refl _)))) St.set_same

theorem d_strlit {a b : Str} (hb : (PyData.str b).canLay0 = true) (ha : (PyData.str a).canLay0 = true) (q : Q (.bool (a == b)) st) : OP W n VR (op2 (compareOp .Eq)) [.str a, .str b] Q st := op_streq ha hb q
theorem Deed.lay (d : Deed) : (PyData.str d.name).canLay0 = true := by cases d <;> (simp only [Deed.name]; decide +kernel)
theorem op_tupitem0 {xs : List V} {y : V} {value slice : Expr} (q : Q y st) (hs : ∀ a t, subscripted slice false (.ref a) (.int 0 t) = operate [.ref a, .int 0 t] (getItem (.ref a) (.int 0 t)) := by intro _ _; with_unfolding_all rfl) : OP W n VR (op2 (subscriptTail value slice)) [.tup (y :: xs), .int 0] Q st := op_tupitem (by decide) (by decide) rfl q hs
theorem op_tupitem1 {xs : List V} {y z : V} {value slice : Expr} (q : Q z st) (hs : ∀ a t, subscripted slice false (.ref a) (.int 1 t) = operate [.ref a, .int 1 t] (getItem (.ref a) (.int 1 t)) := by intro _ _; with_unfolding_all rfl) : OP W n VR (op2 (subscriptTail value slice)) [.tup (y :: z :: xs), .int 1] Q st := op_tupitem (by decide) (by decide) rfl q hs
theorem op_tupitem2 {xs : List V} {y z u : V} {value slice : Expr} (q : Q u st) (hs : ∀ a t, subscripted slice false (.ref a) (.int 2 t) = operate [.ref a, .int 2 t] (getItem (.ref a) (.int 2 t)) := by intro _ _; with_unfolding_all rfl) : OP W n VR (op2 (subscriptTail value slice)) [.tup (y :: z :: u :: xs), .int 2] Q st := op_tupitem (by decide) (by decide) rfl q hs
theorem c_change (G : Gd W) (R : Rep s N st) (w : Wf 80000 s) {d : Deed} (hd : s.deedOk d) (q : Loses (s.change d).1 (s.change d).2 N st Q) : CallOK W (n + 7) "change" [.ref .heap, .str d.name, .tup d.args] Q st := by
  refine fn_intro G.ok G.fns (mem_rec (i := 31) rfl (by kernel_rfl)) (ps := ["heap", "name", "args"]) (fun pm code doc ws h => by obtain ⟨a, b, c, rfl⟩ := len3 h; kernel_rfl) (by decide) (by kernel_rfl) rfl rfl rfl ?_
  intro env henv
  cases d with
  | newObject a =>
    walk_at "mm"
    repeat (refine op_streq (Deed.lay _) (by decide +kernel) ⟨_, rfl, ?_⟩; walk_at "mm")
    repeat ((first | refine op_tupitem0 ?_ | refine op_tupitem1 ?_ | refine op_tupitem2 ?_ ); (walk_at "mm"))
    exact c_new_object G R (w.up (by decide)) q
  | newArray a =>
    walk_at "mm"
    repeat (refine op_streq (Deed.lay _) (by decide +kernel) ⟨_, rfl, ?_⟩; walk_at "mm")
    repeat ((first | refine op_tupitem0 ?_ | refine op_tupitem1 ?_ | refine op_tupitem2 ?_ ); (walk_at "mm"))
    exact c_new_array G R (w.up (by decide)) q
  | makeRef a b =>
    walk_at "mm"
    repeat (refine op_streq (Deed.lay _) (by decide +kernel) ⟨_, rfl, ?_⟩; walk_at "mm")
    repeat ((first | refine op_tupitem0 ?_ | refine op_tupitem1 ?_ | refine op_tupitem2 ?_ ); (walk_at "mm"))
    exact c_make_ref G R w q
  | put a k b =>
    walk_at "mm"
    repeat (refine op_streq (Deed.lay _) (by decide +kernel) ⟨_, rfl, ?_⟩; walk_at "mm")
    repeat ((first | refine op_tupitem0 ?_ | refine op_tupitem1 ?_ | refine op_tupitem2 ?_ ); (walk_at "mm"))
    exact c_put G R w hd q
  | assign a b =>
    walk_at "mm"
    repeat (refine op_streq (Deed.lay _) (by decide +kernel) ⟨_, rfl, ?_⟩; walk_at "mm")
    repeat ((first | refine op_tupitem0 ?_ | refine op_tupitem1 ?_ | refine op_tupitem2 ?_ ); (walk_at "mm"))
    exact c_assign G R (w.up (by decide)) q
  | setInt a i =>
    walk_at "mm"
    repeat (refine op_streq (Deed.lay _) (by decide +kernel) ⟨_, rfl, ?_⟩; walk_at "mm")
    repeat ((first | refine op_tupitem0 ?_ | refine op_tupitem1 ?_ | refine op_tupitem2 ?_ ); (walk_at "mm"))
    exact c_set_int G R (w.up (by decide)) q
  | putRef a k b =>
    walk_at "mm"
    repeat (refine op_streq (Deed.lay _) (by decide +kernel) ⟨_, rfl, ?_⟩; walk_at "mm")
    repeat ((first | refine op_tupitem0 ?_ | refine op_tupitem1 ?_ | refine op_tupitem2 ?_ ); (walk_at "mm"))
    exact c_put_ref G R w hd q
  | unset a =>
    walk_at "mm"
    repeat (refine op_streq (Deed.lay _) (by decide +kernel) ⟨_, rfl, ?_⟩; walk_at "mm")
    repeat ((first | refine op_tupitem0 ?_ | refine op_tupitem1 ?_ | refine op_tupitem2 ?_ ); (walk_at "mm"))
    exact c_unset G R w q
  | unsetAt a k =>
    walk_at "mm"
    repeat (refine op_streq (Deed.lay _) (by decide +kernel) ⟨_, rfl, ?_⟩; walk_at "mm")
    repeat ((first | refine op_tupitem0 ?_ | refine op_tupitem1 ?_ | refine op_tupitem2 ?_ ); (walk_at "mm"))
    exact c_unset_at G R w hd q
end
end
section
/-! ## losses -/
noncomputable def S.target (s : S) (n : Nat) : Option Nat := if (s.cell n).sort = .rf then s.cellOf (s.slot0 n) else some n
noncomputable def S.suspect (s : S) (n : Nat) : S := match s.target n with
  | none => s
  | some m => if (s.cell m).buf then s else { ((s.upd m fun c => { c with col := .purple }).upd m fun c => { c with buf := true }) with buffer := s.buffer ++ [m] }
noncomputable def S.cleared (s : S) (n : Nat) : S := (s.put (.ent 0) (ddel (s.tab 0) n)).put (.ent 1) (ddel (s.tab 1) n)
noncomputable def S.free (s : S) (n : Nat) : S := { s.cleared n with ids := s.ids.filter (· ≠ n), buffer := if (s.cell n).buf then s.buffer.erase n else s.buffer, freed := s.freed + 1, logn := s.logn + 1 }
noncomputable def S.lose (s : S) (v : Val) : S × List Val := match s.cellOf v with
  | none => (s, [])
  | some n => if ((s.addCount n (-1)).cell n).count > 0 then ((s.addCount n (-1)).suspect n, []) else ((s.addCount n (-1)).free n, ((s.addCount n (-1)).heldBy n).reverse)
inductive Task where | lose (v : Val) | deed (d : Deed)
noncomputable def Task.v : Task → V | .lose v => .tup [.str "lose", v.v] | .deed d => .tup [.str "deed", d.v]
noncomputable def S.step (s : S) : Task → S × List Task
  | .lose v => ((s.lose v).1, (s.lose v).2.map .lose)
  | .deed d => ((s.change d).1, (s.change d).2.reverse.map .lose)
theorem bufMap_snoc {ns : List Nat} {m : Nat} : bufMap ns ++ [.int m] = bufMap (ns ++ [m]) := by simp [bufMap]
theorem heldBy_len {s : S} {n : Nat} : (s.heldBy n).length ≤ (s.cell n).slots.length + 2 := by
  unfold S.heldBy
  rw [List.length_append, List.length_map]
  have : (List.filterMap (fun i => dget (s.tab i) (n : Int)) [0, 1]).length ≤ 2 := List.length_filterMap_le _ _
  walk_at "om"
theorem ddel_cells {ids : List Nat} {n : Nat} : ddel (cellMap ids) n = cellMap (ids.filter (· ≠ n)) := by
  unfold ddel cellMap
  rw [List.filter_map]
  congr 1
  apply List.filter_congr
  intro m _
  simp only [Function.comp, ne_eq, decide_eq_decide]
  walk_at "om"
theorem buf_erase {ns : List Nat} {n : Nat} (h : n ∈ ns) : ∃ i, (ns.map fun (m : Nat) => (m : Int))[i]? = some (n : Int) ∧ (∀ j, j < i → (ns.map fun (m : Nat) => (m : Int))[j]? ≠ some (n : Int)) ∧ ((ns.map fun (m : Nat) => (m : Int)).eraseIdx i).map V.int = bufMap (ns.erase n) := by
  induction ns with
  | nil => cases h
  | cons a r ih =>
    by_cases q : a = n
    · subst q
      refine ⟨0, by simp, fun j hj => absurd hj (Nat.not_lt_zero j), ?_⟩
      simp [bufMap]
    · obtain ⟨i, h1, h2, h3⟩ := ih ((List.mem_cons.mp h).resolve_left fun z => q z.symm)
      refine ⟨i + 1, by simpa using h1, fun j hj => ?_, ?_⟩
      · cases j with
        | zero => simp; walk_at "om"
        | succ j => simpa using h2 j (by walk_at "om")
      · have e : (a :: r).erase n = a :: r.erase n := by simp [List.erase_cons, q]
        rw [e]
        simp only [List.map_cons, List.eraseIdx_cons_succ]
        rw [h3]; simp [bufMap]
section
variable {W : Wd} {n : Nat} {st : St} {Q : V → St → Prop} {x : Nat} {s : S} {N : Nat} {QU : Unit → St → Prop} {m : Nat}
theorem c_suspect (G : Gd W) (R : Rep s N st) (w : Wf 90000 s) (hm : m ∈ s.ids) (q : ∀ st', Rep (s.suspect m) N st' → Keep N st st' → Q .none st') : CallOK W (n + 2) "suspect" [.ref .heap, .ref (.cell m)] Q st := by
  refine fn_intro G.ok G.fns (mem_rec (i := 32) rfl (by kernel_rfl)) (ps := ["heap", "cell"]) (fun pm code doc ws h => by obtain ⟨a, b, rfl⟩ := len2 h; kernel_rfl) (by decide) (by kernel_rfl) rfl rfl rfl ?_
  intro env henv
  refine ts_cons (TS.mono (Q := fun f ρ' st' => f = .next ∧ ρ' "heap" = some (.ref .heap) ∧ ρ' "cell" = some (cv (s.target m)) ∧ st' = st) ?_ ?_)
  · by_cases hs : (s.cell m).sort = .rf
    · have e1 : decide ((s.cell m).sort = .rf) = true := by simpa using hs
      obtain ⟨u, hu⟩ := w.ref m hm hs
      have hsl : s.slot0 m = u := by simp only [S.slot0, hu]; rfl
      walk_at "mm"
      refine d_item (p := .slots m) R hm (fun n e => R.ne (by cases e; exact hm)) (w := u) hu ?_
      walk_at "mm"
      refine c_cell_of G R u ?_
      have ht : s.cellOf u = s.target m := by unfold S.target; rw [if_pos hs, hsl]
      rw [ht]
      walk_at "mm"
      exact ⟨rfl, rfl, rfl, rfl⟩
    · have e1 : decide ((s.cell m).sort = .rf) = false := by simpa using hs
      have ht : s.target m = some m := by unfold S.target; rw [if_neg hs]
      walk_at "mm"
      exact ⟨rfl, rfl, by rw [ht]; rfl, rfl⟩
  · rintro f ρ' st' ⟨rfl, h1, h2, rfl⟩
    unfold S.suspect at q
    cases ht : s.target m with
    | none =>
      rw [ht] at q h2
      walk_at "mm"
      exact q _ R Keep.refl
    | some t =>
      rw [ht] at q h2
      have htm : t ∈ s.ids := by
        unfold S.target at ht
        split at ht
        · exact (S.cellOf_some ht).2
        · cases ht; exact hm
      dsimp only at q
      walk_at "mm"
      cases hb : (s.cell t).buf with
      | true => rw [hb, if_pos rfl] at q; walk_at "mm"; exact q _ R Keep.refl
      | false =>
        rw [hb, if_neg Bool.false_ne_true] at q
        walk_at "mm"
        refine d_setcol G R htm (i := .purple) rfl fun st1 R1 K1 => ?_
        walk_at "mm"
        refine d_setbuf G R1 (i := true) htm fun st2 R2 K2 => ?_
        have hbuf := R2.buffer
        walk_at "mm"
        refine ⟨_, hbuf, by unfold bufMap; rw [List.length_map]; exact Nat.le_trans w.buf (by decide), ?_⟩
        rw [bufMap_snoc]
        have R3 := R2.setBuf (ns := s.buffer ++ [t])
        walk_at "mm"
        exact q _ R3 ((K1.trans K2).trans (Keep.set (N := N) rfl))
theorem c_cleared (G : Gd W) (R : Rep s N st) (w : Wf 90000 s) {k : Nat} (q : ∀ N' st', N < N' → Rep (s.cleared k) N' st' → Keep N st st' → Q (.ref (.tmp N)) st') : CallOK W (n + 2) "cleared" [.ref .heap, .int k] Q st := by
  refine fn_intro G.ok G.fns (mem_rec (i := 33) rfl (by kernel_rfl)) (ps := ["heap", "number"]) (fun pm code doc ws h => by obtain ⟨a, b, rfl⟩ := len2 h; kernel_rfl) (by decide) (by kernel_rfl) rfl rfl rfl ?_
  intro env henv
  walk_at "mm"
  refine te_list G.ok (.tmp N) ?_
  walk_at "mm"
  refine ⟨R.tmp (Nat.le_refl N), ?_⟩
  have R1 : Rep s (N + 1) (st.set (.tmp N) (.list [])) := R.tmpset
  refine ts_cons (tx_for0 G.ok (.inl (kof henv rfl)) (ti_list G.ok ?_))
  walk_at "mm"
  let sj : Nat → S := fun j => if j = 0 then s else if j = 1 then s.put (.ent 0) (ddel (s.tab 0) k) else s.cleared k
  refine ⟨_, _, rfl, R1.tabs, fun j st' => ∃ N' xs, N < N' ∧ Rep (sj j) N' st' ∧ Keep N st st' ∧ st' (.tmp N) = some (.list xs) ∧ xs.length ≤ j, ⟨N + 1, [], Nat.lt_succ_self N, R1, Keep.set_tmp (Nat.le_refl N), St.set_same, Nat.le_refl 0⟩, ?_, ?_⟩
  · rintro j st' v ⟨N', xs, hN, R', K', hl, hx⟩ hv
    refine ⟨R'.tabs, ?_⟩
    have hv2 : (j = 0 ∧ v = .ref (.tab 0)) ∨ (j = 1 ∧ v = .ref (.tab 1)) := by
      rcases j with _ | _ | j
      · exact .inl ⟨rfl, by simpa [Src.items] using hv.symm⟩
      · exact .inr ⟨rfl, by simpa [Src.items] using hv.symm⟩
      · simp [Src.items] at hv
    rcases hv2 with ⟨rfl, rfl⟩ | ⟨rfl, rfl⟩
    · have R2 : Rep s N' st' := R'
      have h2 : 0 < 2 := by decide
      walk_at "mm"
      refine c_taken_out (p := .ent 0) G R2 h2 (Nat.le_trans (w.tab 0 h2) (by decide)) fun j2 N2 st2 hj2 hj2' R3 K3 hl3 => ?_
      have hl4 := K3.tmp.trans hl
      have z := toList_len (dget (s.at (.ent 0)) (k : Int))
      refine ⟨_, _, _, hl4, rfl, hl3, by rw [List.length_map]; walk_at "om", ?_⟩
      walk_at "mm"
      refine ⟨Sub.upd rfl Sub.refl, N2, _, by walk_at "om", R3.tmpupd (by walk_at "om"), (K'.trans K3).trans (Keep.set_tmp (Nat.le_refl N)), St.set_same, ?_⟩
      rw [List.length_append, List.length_map]; walk_at "om"
    · have R2 : Rep (s.put (.ent 0) (ddel (s.tab 0) k)) N' st' := R'
      have h2 : 1 < 2 := by decide
      walk_at "mm"
      refine c_taken_out (p := .ent 1) G R2 h2 (Nat.le_trans (w.tab 1 h2) (by decide)) fun j2 N2 st2 hj2 hj2' R3 K3 hl3 => ?_
      have hl4 := K3.tmp.trans hl
      have z := toList_len (dget ((s.put (.ent 0) (ddel (s.tab 0) k)).at (.ent 1)) (k : Int))
      refine ⟨_, _, _, hl4, rfl, hl3, by rw [List.length_map]; walk_at "om", ?_⟩
      walk_at "mm"
      refine ⟨Sub.upd rfl Sub.refl, N2, _, by walk_at "om", R3.tmpupd (by walk_at "om"), (K'.trans K3).trans (Keep.set_tmp (Nat.le_refl N)), St.set_same, ?_⟩
      rw [List.length_append, List.length_map]; walk_at "om"
  · rintro st' ⟨N', xs, hN, R', K', hl, hx⟩
    refine ⟨R'.tabs, ?_⟩
    walk_at "mm"
    exact q N' st' hN R' K'
end
end
section
section
variable {W : Wd} {n : Nat} {st : St} {Q : V → St → Prop} {x : Nat} {s : S} {N : Nat} {QU : Unit → St → Prop} {m : Nat}
theorem cleared_props (s : S) (k : Nat) : (s.cleared k).ids = s.ids ∧ (s.cleared k).cell = s.cell ∧ (s.cleared k).vars = s.vars ∧ (s.cleared k).buffer = s.buffer ∧ (s.cleared k).bk = s.bk ∧ (s.cleared k).last = s.last ∧ (s.cleared k).freed = s.freed ∧ (s.cleared k).logn = s.logn := ⟨rfl, rfl, rfl, rfl, rfl, rfl, rfl, rfl⟩
theorem op_attr_raw (G : Gd W) {k : Nat} {f : Str} {fs : List (Str × V)} {v : V} (hr : st (.cell k) = some (.inst "Cell" fs)) (hx : lk fs f = some v) (hf : f ∈ fields) (q : Q v st) : OP W n VR (op1 fun v => getAttr v f true) [.ref (.cell k)] Q st :=
  op_attr G.ok G.cell hr hx hf q
theorem c_free_cell (G : Gd W) (R : Rep s N st) (w : Wf 90000 s) (hm : m ∈ s.ids) (hb : (s.cell m).buf = true → m ∈ s.buffer)
    (q : ∀ N' st', N < N' → Rep (s.free m) N' st' → Keep N st st' → st' (.tmp N) = some (.list ((s.heldBy m).map Val.v)) → Q (.ref (.tmp N)) st') : CallOK W (n + 3) "free_cell" [.ref .heap, .ref (.cell m)] Q st := by
  refine fn_intro G.ok G.fns (mem_rec (i := 34) rfl (by kernel_rfl)) (ps := ["heap", "cell"]) (fun pm code doc ws h => by obtain ⟨a, b, rfl⟩ := len2 h; kernel_rfl) (by decide) (by kernel_rfl) rfl rfl rfl ?_
  intro env henv
  walk_at "mm"
  refine c_held_by G R hm (w.nd m hm) (Nat.le_trans (w.slots m hm) (by decide)) fun st1 R1 K1 hl => ?_
  walk_at "mm"
  refine c_cleared G R1 w fun N2 st2 hN2 R2 K2 => ?_
  have hm2 : m ∈ (s.cleared m).ids := hm
  obtain ⟨fs, hc, F⟩ := R2.cellX hm2 (R2.ne hm2)
  have hl2 := K2.tmp.trans hl
  have hle : m ≤ (s.cleared m).last := (R.range m hm).2
  have R3 := R2.hide m
  have K3 := K1.trans K2
  walk_at "mm"
  refine d_raw G R3 (.inr rfl) hle hc (by decide) (Nat.le_trans F.len (by decide)) fun st4 R4 K4 hc4 _ => ?_
  walk_at "mm"
  refine te_dict G.ok (.tmp N2) (R4.tmp (Nat.le_refl N2)) ?_
  have R5 : RepX m (s.cleared m) (N2 + 1) (st4.set (.tmp N2) (.dict [] 0)) := R4.tmpset
  have K5 : Keep N2 st4 (st4.set (.tmp N2) (.dict [] 0)) := Keep.set_tmp (Nat.le_refl N2)
  have hc5 : (st4.set (.tmp N2) (.dict [] 0)) (.cell m) = _ := St.get_ne hc4
  generalize (st4.set (.tmp N2) (.dict [] 0)) = st5 at R5 K5 hc5
  walk_at "mm"
  have fl : ∀ {f : Str} {v : V} {g : List (Str × V)}, g.length ≤ 30 → (setF g f v).length ≤ 31 := fun h => by rw [setF_length]; split <;> walk_at "om"
  have fl1 : ∀ {f : Str} {v : V} {g : List (Str × V)} {k : Nat}, g.length ≤ k → (setF g f v).length ≤ k + 1 := fun h => by rw [setF_length]; split <;> walk_at "om"
  have z0 : fs.length ≤ 20 := F.len
  refine d_raw G R5 (.inr rfl) hle hc5 (by decide) (Nat.le_trans (fl1 z0) (by decide)) fun st6 R6 K6 hc6 _ => ?_
  have K7 : Keep N st st6 := ((K3.trans K4).trans K5).trans K6
  have hl7 : st6 (.tmp N) = some (.list ((s.heldBy m).map Val.v)) := (K6.tmp (by walk_at "om")).trans ((K5.tmp (by walk_at "om")).trans ((K4.tmp (by walk_at "om")).trans hl2))
  have hz6 : (setF (setF fs "weak" V.none) "slots" (V.ref (Role.tmp N2))).length ≤ 22 := fl1 (fl1 z0)
  have hnum : lk (setF (setF fs "weak" V.none) "slots" (V.ref (Role.tmp N2))) "number" = some (.int m) := by repeat first | exact F.number | refine lk_set (by decide) ?_
  have hbuf6 : lk (setF (setF fs "weak" V.none) "slots" (V.ref (Role.tmp N2))) "is_buffered" = some (.bool (s.cell m).buf) := by repeat first | exact F.buf | refine lk_set (by decide) ?_
  generalize (setF (setF fs "weak" V.none) "slots" (V.ref (Role.tmp N2))) = fs6 at hc6 hz6 hnum hbuf6
  clear fl hc5 hc4 hc F hl2 hl
  refine ts_cons (TS.mono (Q := fun f ρ' st' => f = .next ∧ ρ' = ((Loc.ofL [("heap", .ref .heap), ("cell", .ref (.cell m))]).upd "losses" (.ref (.tmp N))) ∧ ∃ fs', RepX m { s.cleared m with buffer := if (s.cell m).buf then s.buffer.erase m else s.buffer } (N2 + 1) st' ∧ Keep N st st' ∧ st' (.tmp N) = some (.list ((s.heldBy m).map Val.v)) ∧ st' (.cell m) = some (.inst "Cell" fs') ∧ lk fs' "number" = some (.int m) ∧ fs'.length ≤ 500) ?_ ?_)
  · walk_at "mm"
    refine op_attr_raw G hc6 hbuf6 (by decide) ?_
    walk_at "mm"
    cases hbb : (s.cell m).buf with
    | false =>
      walk_at "mm"
      exact ⟨rfl, rfl, fs6, R6, K7, hl7, hc6, hnum, Nat.le_trans hz6 (by decide)⟩
    | true =>
      walk_at "mm"
      refine d_raw G R6 (.inr rfl) hle hc6 (by decide) (Nat.le_trans hz6 (by decide)) fun st8 R8 K8 hc8 _ => ?_
      have hbl := R8.buffer
      walk_at "mm"
      refine ⟨_, isMeth_list hbl PySem.F.slot_list_remove PySem.F.type_list_remove, ?_⟩
      walk_at "mm"
      refine op_attr_raw G hc8 (v := .int m) (lk_set (by decide) hnum) (by decide) ?_
      walk_at "mm"
      obtain ⟨i, h1, h2, h3⟩ := buf_erase (hb hbb)
      have hbl' : st8 (.buf (s.cleared m).bk) = some (.list ((s.buffer.map fun (k : Nat) => (k : Int)).map V.int)) := by rw [hbl]; unfold bufMap; rw [List.map_map]; rfl
      refine op_remove hbl' (by rw [List.length_map]; exact Nat.le_trans w.buf (by decide)) h1 h2 ?_
      rw [h3]
      have R9 := R8.setBuf (ns := s.buffer.erase m)
      walk_at "mm"
      refine ⟨rfl, rfl, _, R9, (K7.trans K8).trans (Keep.set (N := N) rfl), St.get_ne ((K8.tmp (by walk_at "om")).trans hl7), St.get_ne hc8, lk_set (by decide) hnum, Nat.le_trans (fl1 hz6) (by decide)⟩
  · rintro f ρ' st8 ⟨rfl, rfl, fs8, R8, K8, hl8, hc8, hn8, hz8⟩
    generalize hs8 : ({ s.cleared m with buffer := if (s.cell m).buf then s.buffer.erase m else s.buffer } : S) = s8 at R8
    have hids : s8.ids = s.ids := by rw [← hs8]; rfl
    have hlog : s8.logn = s.logn := by rw [← hs8]; rfl
    have hfr : s8.freed = s.freed := by rw [← hs8]; rfl
    have hle8 : m ≤ s8.last := by rw [← hs8]; exact hle
    walk_at "mm"
    refine d_raw G R8 (.inr rfl) hle8 hc8 (by decide) (Nat.le_trans hz8 (by decide)) fun st9 R9 K9 hc9 _ => ?_
    walk_at "mm"
    refine op_attr_raw G hc9 (v := .int m) (lk_set (by decide) hn8) (by decide) ?_
    obtain ⟨ep, hcd⟩ := R9.cells
    rw [hids] at hcd
    refine op_delitem hcd (by unfold cellMap; rw [List.length_map]; exact Nat.le_trans w.ids (by decide)) (by rw [dget_cell hm]; rfl) fun ep' => ?_
    rw [ddel_cells]
    have RA : Rep { s8 with ids := s.ids.filter (· ≠ m) } (N2 + 1) (st9.set .cells (.dict (cellMap (s.ids.filter (· ≠ m))) ep')) := by
      refine R9.setCells (fun k hk => ?_) (R.nodup.filter _) fun k hk hk0 => ?_
      · exact R9.range k (by rw [hids]; exact (List.mem_filter.mp hk).1)
      · have hk1 : k ∈ s8.ids := by rw [hids]; exact (List.mem_filter.mp hk).1
        have hkm : k ≠ m := by have := (List.mem_filter.mp hk).2; simpa using this
        exact ⟨R9.cellX hk1 hkm, R9.slotsX hk1 hkm⟩
    have KA : Keep N st (st9.set .cells (.dict (cellMap (s.ids.filter (· ≠ m))) ep')) := (K8.trans K9).trans (Keep.set (N := N) rfl)
    have hlA : (st9.set .cells (.dict (cellMap (s.ids.filter (· ≠ m))) ep')) (.tmp N) = some (.list ((s.heldBy m).map Val.v)) := St.get_ne ((K9.tmp (by walk_at "om")).trans hl8)
    have hcA : (st9.set .cells (.dict (cellMap (s.ids.filter (· ≠ m))) ep')) (.cell m) = _ := St.get_ne hc9
    generalize (st9.set .cells (.dict (cellMap (s.ids.filter (· ≠ m))) ep')) = stA at RA KA hlA hcA
    walk_at "mm"
    have e1 : ((s8.freed : Int) + 1) = ((s8.freed + 1 : Nat) : Int) := by walk_at "om"
    show OP W _ RU _ [_, .int ((s8.freed : Int) + 1)] _ _
    rw [e1]
    obtain ⟨fsH, hH, FH⟩ := RA.heap
    refine op_setattr G.ok G.counted hH (by decide) (Nat.le_trans FH.len (by decide)) ?_
    have RB := RA.setFreed (FH.setFreed (d := s8.freed + 1))
    have KB := KA.trans (Keep.set (N := N) (st := stA) (r := .heap) (o := .inst "Counted" (setF fsH "freed" (.int ((s8.freed + 1 : Nat) : Int)))) rfl)
    have hlB : (stA.set .heap (.inst "Counted" (setF fsH "freed" (.int ((s8.freed + 1 : Nat) : Int))))) (.tmp N) = _ := St.get_ne hlA
    have hcB : (stA.set .heap (.inst "Counted" (setF fsH "freed" (.int ((s8.freed + 1 : Nat) : Int))))) (.cell m) = _ := St.get_ne hcA
    generalize (stA.set .heap (.inst "Counted" (setF fsH "freed" (.int ((s8.freed + 1 : Nat) : Int))))) = stB at RB KB hlB hcB
    obtain ⟨xs, hxs, hxl⟩ := RB.log
    walk_at "mm"
    refine op_attr_raw G hcB (v := .int m) (lk_set (by decide) hn8) (by decide) ?_
    walk_at "mm"
    have hxl2 : xs.length = s.logn := hxl.trans hlog
    refine ⟨_, hxs, by rw [hxl2]; exact Nat.le_trans w.log (by decide), ?_⟩
    have RC := RB.setLog (xs := xs ++ [.tup [.str "free", .int m]]) (m := s.logn + 1) (by simp [hxl2])
    have KC := KB.trans (Keep.set (N := N) (st := stB) (r := .log) (o := .list (xs ++ [.tup [.str "free", .int m]])) rfl)
    walk_at "mm"
    refine q (N2 + 1) _ (by walk_at "om") ?_ KC (St.get_ne hlB)
    have : s.free m = ({ ({ ({ s8 with ids := s.ids.filter (· ≠ m) } : S) with freed := s8.freed + 1 } : S) with logn := s.logn + 1 } : S) := by
      rw [← hs8]; rfl
    rw [this]; exact RC
end
end
section
section
variable {W : Wd} {n : Nat} {st : St} {Q : V → St → Prop} {x : Nat} {s : S} {N : Nat} {QU : Unit → St → Prop} {m : Nat}
theorem c_wants (G : Gd W) (R : Rep s N st) (hm : m ∈ s.ids) (q : Q (.bool false) st) : CallOK W (n + 1) "wants_destructor" [.ref (.cell m)] Q st := by
  refine fn_intro G.ok G.fns (mem_rec (i := 35) rfl (by kernel_rfl)) (ps := ["cell"]) (fun pm code doc ws h => by obtain ⟨a, rfl⟩ := len1 h; kernel_rfl) (by decide) (by kernel_rfl) rfl rfl rfl ?_
  intro env henv
  walk_at "mm"
  exact q
theorem c_losing (G : Gd W) (R : Rep s N st) {r : Role} {ls : List Val} (hr : st r = some (.list (ls.map Val.v))) (hz : ls.length ≤ 1000000) (q : ∀ st', Rep s (N + 1) st' → Keep N st st' → st' (.tmp N) = some (.list (ls.reverse.map fun v => (Task.lose v).v)) → Q (.ref (.tmp N)) st') : CallOK W (n + 1) "losing" [.ref r] Q st := by
  refine fn_intro G.ok G.fns (mem_rec (i := 37) rfl (by kernel_rfl)) (ps := ["values"]) (fun pm code doc ws h => by obtain ⟨a, rfl⟩ := len1 h; kernel_rfl) (by decide) (by kernel_rfl) rfl rfl rfl ?_
  intro env henv
  refine ts_cons (tx_return ?_)
  refine te_comp G.ok (.tmp N) (CompOk.of henv (by kernel_rfl)) ?_
  refine ti_rev G.ok (G.bi _ (by decide +kernel)) (kof henv rfl) (by decide +kernel) ?_
  walk_at "mm"
  refine ⟨r, _, rfl, hr, by simp [Src.items]; exact Nat.le_trans hz (by decide), ls.reverse.map (fun v => (v.v, some (Task.lose v).v)), by simp [Src.items, Function.comp_def], ?_, R.tmp (Nat.le_refl N), ?_⟩
  · intro z hz cenv hc
    rw [henv] at hc
    obtain ⟨v, hv, rfl⟩ := List.mem_map.mp hz
    refine tf_nil ⟨rfl, rfl, fun y hy => ?_⟩
    cases hy
    walk_at "mm"
    exact ⟨rfl, rfl⟩
  · refine q _ R.tmpset (Keep.set_tmp (Nat.le_refl N)) ?_
    rw [St.set_same]
    simp [List.filterMap_map, Function.comp_def]
noncomputable def S.BufOk (s : S) : Prop := ∀ n ∈ s.ids, (s.cell n).buf = true → n ∈ s.buffer
theorem Wf.addCount {b : Nat} {s : S} (w : Wf b s) (m : Nat) (d : Int) : Wf b (s.addCount m d) := by
  have hs : ∀ k, ((s.addCount m d).cell k).slots = (s.cell k).slots := fun k => by
    show ((if k = m then _ else s.cell k) : Cel).slots = _
    split
    · rename_i h; rw [h]
    · rfl
  have ht : ∀ k, ((s.addCount m d).cell k).sort = (s.cell k).sort := fun k => by
    show ((if k = m then _ else s.cell k) : Cel).sort = _
    split
    · rename_i h; rw [h]
    · rfl
  exact ⟨fun k hk hr => by rw [ht] at hr; rw [hs]; exact w.ref k hk hr, fun k hk => by rw [hs]; exact w.nd k hk, w.ids, w.vars, fun k hk => by rw [hs]; exact w.slots k hk, w.tab, w.buf, w.log, w.le⟩
theorem addCount_buf {s : S} {m k : Nat} {d : Int} : ((s.addCount m d).cell k).buf = (s.cell k).buf := by
  show ((if k = m then _ else s.cell k) : Cel).buf = _
  split
  · rename_i h; rw [h]
  · rfl
theorem c_lose (G : Gd W) (R : Rep s N st) (w : Wf 80000 s) (hb : s.BufOk) (v : Val) (q : ∀ j N' st', N ≤ j → j < N' → Rep (s.lose v).1 N' st' → Keep N st st' → st' (.tmp j) = some (.list ((s.lose v).2.map fun v => (Task.lose v).v)) → Q (.ref (.tmp j)) st') : CallOK W (n + 4) "lose" [.ref .heap, v.v] Q st := by
  refine fn_intro G.ok G.fns (mem_rec (i := 38) rfl (by kernel_rfl)) (ps := ["heap", "value"]) (fun pm code doc ws h => by obtain ⟨a, b, rfl⟩ := len2 h; kernel_rfl) (by decide) (by kernel_rfl) rfl rfl rfl ?_
  intro env henv
  walk_at "mm"
  refine c_cell_of G R v ?_
  unfold S.lose at q
  cases h : s.cellOf v with
  | none =>
    rw [h] at q
    walk_at "mm"
    refine te_list G.ok (.tmp N) ?_
    walk_at "mm"
    refine ⟨R.tmp (Nat.le_refl N), ?_⟩
    exact q N (N + 1) _ (Nat.le_refl N) (Nat.lt_succ_self N) R.tmpset (Keep.set_tmp (Nat.le_refl N)) St.set_same
  | some k =>
    obtain ⟨rfl, hk⟩ := S.cellOf_some h
    rw [h] at q
    dsimp only at q
    walk_at "mm"
    refine d_setcount G R hk (i := (s.cell k).count - 1) fun st1 R1 K1 => ?_
    have e1 : (s.upd k fun c => { c with count := (s.cell k).count - 1 }) = s.addCount k (-1) := by
      unfold S.addCount S.upd; rw [Int.sub_eq_add_neg]
    rw [e1] at R1
    have w1 := w.addCount k (-1)
    have hk1 : k ∈ (s.addCount k (-1)).ids := hk
    have hb1 : (s.addCount k (-1)).BufOk := fun j hj hbj => by rw [addCount_buf] at hbj; exact hb j hj hbj
    generalize s.addCount k (-1) = s1 at R1 w1 hk1 q hb1
    walk_at "mm"
    by_cases hc : (s1.cell k).count > 0
    · have e2 : decide ((s1.cell k).count > 0) = true := by simpa using hc
      rw [if_pos hc] at q
      walk_at "mm"
      refine c_suspect G R1 (w1.up (by decide)) hk1 fun st2 R2 K2 => ?_
      walk_at "mm"
      refine te_list G.ok (.tmp N) ?_
      walk_at "mm"
      refine ⟨R2.tmp (Nat.le_refl N), ?_⟩
      exact q N (N + 1) _ (Nat.le_refl N) (Nat.lt_succ_self N) R2.tmpset ((K1.trans K2).trans (Keep.set_tmp (Nat.le_refl N))) St.set_same
    · have e2 : decide ((s1.cell k).count > 0) = false := by simpa using hc
      rw [if_neg hc] at q
      walk_at "mm"
      refine c_wants G R1 hk1 ?_
      walk_at "mm"
      refine c_free_cell G R1 (w1.up (by decide)) hk1 (hb1 k hk1) fun N2 st2 hN2 R2 K2 hl => ?_
      walk_at "mm"
      refine c_losing G R2 hl (Nat.le_trans heldBy_len (by have := w1.slots k hk1; walk_at "om")) fun st3 R3 K3 hl3 => ?_
      walk_at "mm"
      exact q N2 (N2 + 1) _ (by walk_at "om") (Nat.lt_succ_self _) R3 ((K1.trans K2).trans K3) hl3
end
end
section
/-! ## settle -/
noncomputable def S.taskOk (s : S) : Task → Prop | .lose _ => s.BufOk | .deed d => s.deedOk d
/-- an invariant of the settling, with its measure -/
structure Settles (I : Nat → S → List Task → Prop) : Prop where
  small : ∀ m s ts, I m s ts → Wf 80000 s ∧ ts.length ≤ 100000
  ok : ∀ m s ts t, I m s (ts ++ [t]) → s.taskOk t
  step : ∀ m s ts t, I m s (ts ++ [t]) → ∃ j, j < m ∧ I j (s.step t).1 (ts ++ (s.step t).2)
section
variable {W : Wd} {n : Nat} {st : St} {Q : V → St → Prop} {x : Nat} {s : S} {N : Nat} {QU : Unit → St → Prop} {m : Nat}
theorem Loses.mono {s' : S} {ls : List Val} {Q' : V → St → Prop} (h : Loses s' ls N st Q) (hq : ∀ v st', Q v st' → Q' v st') : Loses s' ls N st Q' := fun j N' st' a b c d e => hq _ _ (h j N' st' a b c d e)
theorem c_settle (G : Gd W) (R : Rep s N st) {k : Nat} (hk : k < N) {I : Nat → S → List Task → Prop} (SI : Settles I) {ts : List Task} (hts : st (.tmp k) = some (.list (ts.map Task.v))) {m0 : Nat} (h0 : I m0 s ts)
    (q : ∀ m' s' N' st', I m' s' [] → N ≤ N' → Rep s' N' st' → Keep k st st' → Q .none st') : CallOK W (n + 9) "settle" [.ref .heap, .ref (.tmp k)] Q st := by
  refine fn_intro G.ok G.fns (mem_rec (i := 39) rfl (by kernel_rfl)) (ps := ["heap", "tasks"]) (fun pm code doc ws h => by obtain ⟨a, b, rfl⟩ := len2 h; kernel_rfl) (by decide) (by kernel_rfl) rfl rfl rfl ?_
  intro env henv
  refine ts_cons (tx_while0 (fun m => LpA (I m) N k st (.tmp k) (List.map Task.v)) m0 ⟨s, N, ts, h0, Nat.le_refl N, R, Keep.refl, hts⟩ ?_)
  rintro m st' ⟨s', N', ts', hI, hN, R', K', hl⟩
  obtain ⟨w, hz⟩ := SI.small _ _ _ hI
  walk_at "mm"
  refine op_truthl hl (by rw [List.length_map]; walk_at "om") ?_
  rcases List.eq_nil_or_concat ts' with rfl | ⟨ts1, t, rfl⟩
  · walk_at "mm"
    exact q m s' N' st' hI hN R' K'
  · have e0 : (!((ts1.concat t).map Task.v).isEmpty) = true := by simp
    refine if_t e0 ?_
    rw [List.concat_eq_append] at hI hl hz
    rw [List.map_append] at hl
    simp only [List.length_append] at hz
    obtain ⟨j, hj, hI2⟩ := SI.step _ _ _ _ hI
    have hok := SI.ok _ _ _ _ hI
    walk_at "mm"
    refine ⟨_, _, _, rfl, hl, by rw [List.length_map]; walk_at "om", ?_⟩
    have R2 : Rep s' N' (st'.set (.tmp k) (.list (ts1.map Task.v))) := R'.tmpupd (by walk_at "om")
    have K2 : Keep k st (st'.set (.tmp k) (.list (ts1.map Task.v))) := K'.trans (Keep.set_tmp (Nat.le_refl k))
    have hl2 : (st'.set (.tmp k) (.list (ts1.map Task.v))) (.tmp k) = some (.list (ts1.map Task.v)) := St.set_same
    generalize (st'.set (.tmp k) (.list (ts1.map Task.v))) = st2 at R2 K2 hl2
    have hz2 := (SI.small _ _ _ hI2).2
    simp only [List.length_append] at hz2
    cases t with
    | lose v =>
      refine tt_tuple rfl rfl ?_
      walk_at "mm"
      refine op_streq (by decide +kernel) (by decide +kernel) ⟨_, rfl, ?_⟩
      walk_at "mm"
      refine c_lose G R2 w hok v fun j2 N3 st3 hj2 hj2' R3 K3 hl3 => ?_
      have hl4 := (K3.tmp (by walk_at "om")).trans hl2
      simp only [S.step, List.length_map] at hz2
      refine ⟨_, _, _, hl4, rfl, hl3, by simp only [List.length_map]; walk_at "om", ?_⟩
      walk_at "mm"
      refine ⟨(Sub.upd rfl (Sub.upd rfl Sub.refl)), j, hj, _, N3, _, hI2, by walk_at "om", R3.tmpupd (by walk_at "om"), (K2.trans (K3.le (by walk_at "om"))).trans (Keep.set_tmp (Nat.le_refl k)), ?_⟩
      rw [St.set_same]; simp [S.step, Function.comp_def]
    | deed d =>
      refine tt_tuple rfl rfl ?_
      walk_at "mm"
      refine op_streq (by decide +kernel) (by decide +kernel) ⟨_, rfl, ?_⟩
      walk_at "mm"
      refine op_tupitem0 ?_
      walk_at "mm"
      refine op_tupitem1 ?_
      walk_at "mm"
      refine c_change G R2 w hok fun j2 N3 st3 hj2 hj2' R3 K3 hl3 => ?_
      simp only [S.step, List.length_map, List.length_reverse] at hz2
      walk_at "mm"
      refine c_losing G R3 hl3 (by walk_at "om") fun st4 R4 K4 hl4 => ?_
      have hl5 := (K4.tmp (by walk_at "om")).trans ((K3.tmp (by walk_at "om")).trans hl2)
      refine ⟨_, _, _, hl5, rfl, hl4, by simp only [List.length_map, List.length_reverse]; walk_at "om", ?_⟩
      walk_at "mm"
      refine ⟨(Sub.upd rfl (Sub.upd rfl Sub.refl)), j, hj, _, N3 + 1, _, hI2, by walk_at "om", R4.tmpupd (by walk_at "om"), ((K2.trans (K3.le (M := k) (by walk_at "om"))).trans (K4.le (M := k) (by walk_at "om"))).trans (Keep.set_tmp (Nat.le_refl k)), ?_⟩
      rw [St.set_same]; simp [S.step, Function.comp_def]
theorem c_release (G : Gd W) (R : Rep s N st) {I : Nat → S → List Task → Prop} (SI : Settles I) {v : Val} {m0 : Nat} (h0 : I m0 s [.lose v])
    (q : ∀ m' s' N' st', I m' s' [] → N ≤ N' → Rep s' N' st' → Keep N st st' → Q .none st') : CallOK W (n + 10) "release" [.ref .heap, v.v] Q st := by
  refine fn_intro G.ok G.fns (mem_rec (i := 40) rfl (by kernel_rfl)) (ps := ["heap", "value"]) (fun pm code doc ws h => by obtain ⟨a, b, rfl⟩ := len2 h; kernel_rfl) (by decide) (by kernel_rfl) rfl rfl rfl ?_
  intro env henv
  walk_at "mm"
  refine te_list G.ok (.tmp N) ?_
  walk_at "mm"
  refine ⟨R.tmp (Nat.le_refl N), ?_⟩
  walk_at "mm"
  refine c_settle (k := N) (ts := [.lose v]) G R.tmpset (Nat.lt_succ_self N) SI St.set_same h0 fun m' s' N' st' hI hN R' K' => ?_
  walk_at "mm"
  exact q m' s' N' st' hI (by walk_at "om") R' (Keep.trans (N := N) (M := N) (Keep.set_tmp (Nat.le_refl N)) K' (Nat.le_refl N))
theorem c_do_deed (G : Gd W) (R : Rep s N st) {I : Nat → S → List Task → Prop} (SI : Settles I) {d : Deed} {m0 : Nat} (h0 : I m0 s [.deed d])
    (q : ∀ m' s' N' st', I m' s' [] → N ≤ N' → Rep s' N' st' → Keep N st st' → Q .none st') : CallOK W (n + 10) "do_deed" [.ref .heap, d.v] Q st := by
  refine fn_intro G.ok G.fns (mem_rec (i := 41) rfl (by kernel_rfl)) (ps := ["heap", "deed"]) (fun pm code doc ws h => by obtain ⟨a, b, rfl⟩ := len2 h; kernel_rfl) (by decide) (by kernel_rfl) rfl rfl rfl ?_
  intro env henv
  walk_at "mm"
  refine te_list G.ok (.tmp N) ?_
  walk_at "mm"
  refine ⟨R.tmp (Nat.le_refl N), ?_⟩
  walk_at "mm"
  refine c_settle (k := N) (ts := [.deed d]) G R.tmpset (Nat.lt_succ_self N) SI St.set_same h0 fun m' s' N' st' hI hN R' K' => ?_
  walk_at "mm"
  exact q m' s' N' st' hI (by walk_at "om") R' (Keep.trans (N := N) (M := N) (Keep.set_tmp (Nat.le_refl N)) K' (Nat.le_refl N))
end
end
section
/-! ## the counts looked at -/
noncomputable def S.allHeld (s : S) : List Val := s.vars.map (·.2) ++ s.ids.flatMap (fun n => (s.cell n).slots.map (·.2)) ++ (s.tab 0).map (·.2) ++ (s.tab 1).map (·.2)
theorem St.set_set {st : St} {r : Role} {a b : O} : (st.set r a).set r b = st.set r b := by
  funext x; unfold St.set; split <;> rfl
structure Nd (s : S) : Prop where
  vars : (s.vars.map (·.1)).Nodup
  tab : ∀ i, i < 2 → ((s.tab i).map (·.1)).Nodup
noncomputable def cntMap (ids : List Nat) (f : Nat → Int) : List (Int × V) := ids.map fun (n : Nat) => ((n : Int), V.int (f n))
theorem dget_cnt {ids : List Nat} {f : Nat → Int} {k : Nat} : dget (cntMap ids f) k = if k ∈ ids then some (.int (f k)) else none := by
  unfold dget cntMap
  induction ids with
  | nil => simp
  | cons a r ih =>
    simp only [List.map_cons, List.find?_cons]
    by_cases q : a = k
    · subst q; simp
    · have : ¬ ((a : Int) = k) := by walk_at "om"
      simp only [decide_eq_false this]
      rw [ih]
      have q' : ¬ k = a := fun z => q z.symm
      simp [q']
theorem dput_cnt_new {ids : List Nat} {f : Nat → Int} {k : Nat} (h : k ∉ ids) : dput (cntMap ids f) k (.int (f k)) = cntMap (ids ++ [k]) f := by
  unfold dput
  have e : (cntMap ids f).any (fun e => decide (e.1 = (k : Int))) = false := by
    rw [List.any_eq_false]
    intro e he
    unfold cntMap at he
    obtain ⟨m, hm, rfl⟩ := List.mem_map.mp he
    simp only [decide_eq_true_eq]
    intro q
    exact h (by have : m = k := by walk_at "om"
                rw [← this]; exact hm)
  rw [e, if_neg Bool.false_ne_true]
  simp [cntMap]
theorem dput_cnt {ids : List Nat} {f : Nat → Int} {k : Nat} {c : Int} (h : k ∈ ids) : dput (cntMap ids f) k (.int c) = cntMap ids (fun n => if n = k then c else f n) := by
  unfold dput
  have e : (cntMap ids f).any (fun e => decide (e.1 = (k : Int))) = true := by
    rw [List.any_eq_true]
    exact ⟨((k : Int), .int (f k)), List.mem_map.mpr ⟨k, h, rfl⟩, by simp⟩
  rw [if_pos e]
  unfold cntMap
  rw [List.map_map]
  apply List.map_congr_left
  intro n _
  simp only [Function.comp]
  by_cases q : n = k
  · subst q; simp
  · have : ¬ ((n : Int) = k) := by walk_at "om"
    simp [q, this]
theorem cntMap_congr {ids : List Nat} {f g : Nat → Int} (h : ∀ n ∈ ids, f n = g n) : cntMap ids f = cntMap ids g := List.map_congr_left fun n hn => by rw [h n hn]
section
variable {W : Wd} {n : Nat} {st : St} {Q : V → St → Prop} {x : Nat} {s : S} {N : Nat} {QU : Unit → St → Prop} {m : Nat}
theorem flat_len {s : S} {b : Nat} (w : Wf b s) : ∀ (l : List Nat), (∀ n ∈ l, n ∈ s.ids) → (l.flatMap fun n => (s.cell n).slots.map (·.2)).length ≤ l.length * b
  | [], _ => by simp
  | a :: r, h => by
    have := flat_len w r fun n hn => h n (List.mem_cons_of_mem _ hn)
    have h2 := w.slots a (h a List.mem_cons_self)
    rw [List.flatMap_cons, List.length_append, List.length_map, List.length_cons, Nat.succ_mul]
    walk_at "om"
theorem c_all_held (G : Gd W) (R : Rep s N st) (w : Wf 1000 s) (nd : Nd s) (q : Rep s (N + 1) (st.set (.tmp N) (.list (s.allHeld.map Val.v))) → Q (.ref (.tmp N)) (st.set (.tmp N) (.list (s.allHeld.map Val.v)))) : CallOK W (n + 1) "all_held" [.ref .heap] Q st := by
  refine fn_intro G.ok G.fns (mem_rec (i := 42) rfl (by kernel_rfl)) (ps := ["heap"]) (fun pm code doc ws h => by obtain ⟨a, rfl⟩ := len1 h; kernel_rfl) (by decide) (by kernel_rfl) rfl rfl rfl ?_
  intro env henv
  obtain ⟨epv, hv⟩ := R.vars
  refine ts_cons (tx_name_comp G.ok (.tmp N) (CompOk.of henv (by kernel_rfl)) (.inl (kof henv rfl)) (sw_true henv (by kernel_rfl)) (ti_dict G.ok ?_))
  walk_at "mm"
  refine ⟨_, _, _, rfl, hv, by simp only [Src.items, List.length_map, dmap_length]; exact Nat.le_trans w.vars (by decide), s.vars.map (fun e => (.int e.1, some e.2.v)), by simp [Src.items, dmap, Function.comp_def], ?_, R.tmp (Nat.le_refl N), ?_⟩
  · intro z hz cenv hc
    rw [henv] at hc
    obtain ⟨e, he, rfl⟩ := List.mem_map.mp hz
    refine tf_nil ⟨rfl, rfl, fun y hy => ?_⟩
    cases hy
    walk_at "mm"
    exact d_item (p := .vars) R trivial nofun (w := e.2) (dget_mem nd.vars (k := e.1) (u := e.2) he) ⟨rfl, rfl⟩
  · have e1 : (s.vars.map (fun e => (V.int e.1, some e.2.v))).filterMap (·.2) = (s.vars.map (·.2)).map Val.v := by simp [List.filterMap_map, Function.comp_def]
    rw [e1]
    generalize hvv : s.vars.map (·.2) = vv
    have hvl : vv.length ≤ 1000 := by rw [← hvv, List.length_map]; exact w.vars
    have R1 : ∀ xs, Rep s (N + 1) (st.set (.tmp N) (.list xs)) := fun xs => R.tmpset
    obtain ⟨epc, hcs⟩ := R.cells
    have ff := fun j => flat_len w (s.ids.take j) fun n hn => List.mem_of_mem_take hn
    have fl : ∀ j, ((s.ids.take j).flatMap fun n => (s.cell n).slots.map (·.2)).length ≤ 1000000 := fun j => by
      refine Nat.le_trans (ff j) ?_
      have : (s.ids.take j).length ≤ 1000 := by rw [List.length_take]; have := w.ids; walk_at "om"
      exact Nat.le_trans (Nat.mul_le_mul_right 1000 this) (by decide)
    refine ts_cons (tx_for0 G.ok (.inl (kof henv rfl)) (ti_dict G.ok ?_))
    walk_at "mm"
    have R1' := R1 (vv.map Val.v)
    walk_at "mm"
    refine ⟨_, _, _, rfl, St.get_ne hcs, fun j st' => st' = st.set (.tmp N) (.list ((vv ++ (s.ids.take j).flatMap fun n => (s.cell n).slots.map (·.2)).map Val.v)), by simp, ?_, ?_⟩
    · rintro j st' v rfl hv
      have hj : ∃ k, s.ids[j]? = some k ∧ v = .int k := by
        simp only [Src.items, cellMap, List.map_map, List.getElem?_map, Option.map_eq_some_iff] at hv
        obtain ⟨k, h1, h2⟩ := hv
        exact ⟨k, h1, h2.symm⟩
      obtain ⟨k, hk, rfl⟩ := hj
      have hkm : k ∈ s.ids := List.mem_of_getElem? hk
      refine ⟨St.get_ne hcs, ?_⟩
      have hnext : (s.ids.take (j + 1)).flatMap (fun n => (s.cell n).slots.map (·.2)) = (s.ids.take j).flatMap (fun n => (s.cell n).slots.map (·.2)) ++ (s.cell k).slots.map (·.2) := by
        rw [List.take_add_one, hk]; simp [List.flatMap_append]
      have f1 := fl j
      generalize (s.ids.take j).flatMap (fun n => (s.cell n).slots.map (·.2)) = fj at hnext f1 ⊢
      have R2 := R1 ((vv ++ fj).map Val.v)
      obtain ⟨eps, hsl⟩ := R.slotsX hkm (R.ne hkm)
      walk_at "mm"
      refine d_cellitem R2 hkm ?_
      refine ts_cons (tx_for0 G.ok (.inl (kof henv rfl)) (ti_dict G.ok ?_))
      walk_at "mm"
      refine ⟨_, _, _, rfl, St.get_ne hsl, fun i st' => st' = st.set (.tmp N) (.list ((vv ++ fj ++ ((s.cell k).slots.take i).map (·.2)).map Val.v)), by simp, ?_, ?_⟩
      · rintro i st' v rfl hv
        simp only [Src.items, dmap_keys, List.getElem?_map, Option.map_eq_some_iff] at hv
        obtain ⟨⟨k', u⟩, hi, rfl⟩ := hv
        refine ⟨St.get_ne hsl, ?_⟩
        have R3 := R1 ((vv ++ fj ++ ((s.cell k).slots.take i).map (·.2)).map Val.v)
        have hl3 : (st.set (.tmp N) (.list ((vv ++ fj ++ ((s.cell k).slots.take i).map (·.2)).map Val.v))) (.tmp N) = some (.list ((vv ++ fj ++ ((s.cell k).slots.take i).map (·.2)).map Val.v)) := St.set_same
        walk_at "mm"
        refine d_item (p := .slots k) R3 hkm (fun n e => R.ne (by cases e; exact hkm)) (w := u) (dget_mem (w.nd k hkm) (List.mem_of_getElem? hi)) ?_
        refine ⟨_, hl3, by have := w.slots k hkm; simp only [List.length_map, List.length_append, List.length_take]; walk_at "om", ?_⟩
        walk_at "mm"
        refine ⟨Sub.upd rfl Sub.refl, ?_⟩
        show St.set _ _ _ = _
        rw [St.set_set, List.take_add_one, hi]
        simp
      · rintro st' rfl
        refine ⟨St.get_ne hsl, ?_⟩
        have e : (s.cell k).slots.take (Src.dict (.slots k) (dmap (s.cell k).slots) eps).items.length = (s.cell k).slots := by simp [Src.items, dmap_length]
        walk_at "mm"
        refine ⟨Sub.upd rfl (Sub.upd rfl Sub.refl), ?_⟩
        show St.set _ _ _ = _
        rw [e, hnext, List.append_assoc]
    · rintro st' rfl
      refine ⟨St.get_ne hcs, ?_⟩
      have e : s.ids.take (Src.dict .cells (cellMap s.ids) epc).items.length = s.ids := by simp [Src.items, cellMap]
      rw [e]
      generalize hfj : s.ids.flatMap (fun n => (s.cell n).slots.map (·.2)) = fj
      have f1 : fj.length ≤ 1000000 := by have := fl s.ids.length; rw [List.take_length, hfj] at this; exact this
      refine ts_cons (tx_for0 G.ok (.inl (kof henv rfl)) (ti_list G.ok ?_))
      have R2 := R1 ((vv ++ fj).map Val.v)
      walk_at "mm"
      let tj : Nat → List Val := fun j => if j = 0 then [] else if j = 1 then (s.tab 0).map (·.2) else (s.tab 0).map (·.2) ++ (s.tab 1).map (·.2)
      refine ⟨_, _, rfl, R2.tabs, fun j st' => st' = st.set (.tmp N) (.list ((vv ++ fj ++ tj j).map Val.v)), by simp [tj], ?_, ?_⟩
      · rintro j st' v rfl hv
        have hv2 : ∃ i, i < 2 ∧ v = .ref (.tab i) ∧ tj (j + 1) = tj j ++ (s.tab i).map (·.2) ∧ (tj j).length ≤ 1000 := by
          rcases j with _ | _ | j
          · exact ⟨0, by decide, by simpa [Src.items] using hv.symm, by simp [tj], by simp [tj]⟩
          · exact ⟨1, by decide, by simpa [Src.items] using hv.symm, by simp [tj], by simp [tj]; exact w.tab 0 (by decide)⟩
          · simp [Src.items] at hv
        obtain ⟨i, hi, rfl, hnext, hjl⟩ := hv2
        refine ⟨(R1 _).tabs, ?_⟩
        generalize tj j = tc at hnext hjl
        obtain ⟨epe, hen⟩ := R.ent hi
        have R3 := R1 ((vv ++ fj ++ tc).map Val.v)
        refine ts_cons (tx_for0 G.ok (.inl (kof henv rfl)) (ti_dict G.ok ?_))
        walk_at "mm"
        refine ⟨_, _, _, rfl, St.get_ne hen, fun i' st' => st' = st.set (.tmp N) (.list ((vv ++ fj ++ tc ++ ((s.tab i).take i').map (·.2)).map Val.v)), by simp, ?_, ?_⟩
        · rintro i' st' v rfl hv
          simp only [Src.items, dmap_keys, List.getElem?_map, Option.map_eq_some_iff] at hv
          obtain ⟨⟨k', u⟩, hi', rfl⟩ := hv
          refine ⟨St.get_ne hen, ?_⟩
          have R4 := R1 ((vv ++ fj ++ tc ++ ((s.tab i).take i').map (·.2)).map Val.v)
          have hl3 : (st.set (.tmp N) (.list ((vv ++ fj ++ tc ++ ((s.tab i).take i').map (·.2)).map Val.v))) (.tmp N) = some (.list ((vv ++ fj ++ tc ++ ((s.tab i).take i').map (·.2)).map Val.v)) := St.set_same
          walk_at "mm"
          refine d_item (p := .ent i) R4 hi nofun (w := u) (dget_mem (nd.tab i hi) (List.mem_of_getElem? hi')) ?_
          refine ⟨_, hl3, by have := w.tab i hi; simp only [List.length_map, List.length_append, List.length_take]; walk_at "om", ?_⟩
          walk_at "mm"
          refine ⟨Sub.upd rfl Sub.refl, ?_⟩
          show St.set _ _ _ = _
          rw [St.set_set, List.take_add_one, hi']
          simp
        · rintro st' rfl
          refine ⟨St.get_ne hen, ?_⟩
          have e : (s.tab i).take (Src.dict (.ent i) (dmap (s.tab i)) epe).items.length = s.tab i := by simp [Src.items, dmap_length]
          walk_at "mm"
          refine ⟨Sub.upd rfl Sub.refl, ?_⟩
          show St.set _ _ _ = _
          rw [e, hnext, List.append_assoc]
      · rintro st' rfl
        refine ⟨(R1 _).tabs, ?_⟩
        have e2 : vv ++ fj ++ tj (Src.list .tabs [.ref (.tab 0), .ref (.tab 1)]).items.length = s.allHeld := by
          show vv ++ fj ++ ((s.tab 0).map (·.2) ++ (s.tab 1).map (·.2)) = _
          unfold S.allHeld; rw [hvv, hfj]; simp
        rw [e2]
        walk_at "mm"
        exact q (R1 _)
end
end
section
section
variable {W : Wd} {n : Nat} {st : St} {Q : V → St → Prop} {x : Nat} {s : S} {N : Nat} {QU : Unit → St → Prop} {m : Nat}
theorem Keep.two {st : St} {a b : O} : Keep N st ((st.set (.tmp N) a).set (.tmp (N + 1)) b) := Keep.trans (N := N) (M := N) (Keep.set_tmp (Nat.le_refl N)) (Keep.set_tmp (Nat.le_succ N)) (Nat.le_refl N)
theorem c_counts_right (G : Gd W) (R : Rep s N st) (w : Wf 1000 s) (nd : Nd s) (hA : ∀ k, Val.cell k ∈ s.allHeld → k ∈ s.ids) (hC : ∀ k ∈ s.ids, (s.cell k).count = (s.allHeld.count (.cell k) : Int))
    (q : ∀ N' st', N ≤ N' → Rep s N' st' → Keep N st st' → Q (.bool true) st') : CallOK W (n + 2) "counts_right" [.ref .heap] Q st := by
  refine fn_intro G.ok G.fns (mem_rec (i := 43) rfl (by kernel_rfl)) (ps := ["heap"]) (fun pm code doc ws h => by obtain ⟨a, rfl⟩ := len1 h; kernel_rfl) (by decide) (by kernel_rfl) rfl rfl rfl ?_
  intro env henv
  walk_at "mm"
  refine te_dict G.ok (.tmp N) (R.tmp (Nat.le_refl N)) ?_
  obtain ⟨epc, hcs⟩ := R.cells
  have R1 : ∀ o, Rep s (N + 1) (st.set (.tmp N) o) := fun o => R.tmpset
  have R2 : ∀ o o', Rep s (N + 2) ((st.set (.tmp N) o).set (.tmp (N + 1)) o') := fun o o' => (R1 o).tmpset
  have R1' := R1 (.dict [] 0)
  refine ts_cons (tx_for0 G.ok (.inl (kof henv rfl)) (ti_dict G.ok ?_))
  walk_at "mm"
  refine ⟨_, _, _, rfl, St.get_ne hcs, fun j st' => ∃ ep, st' = st.set (.tmp N) (.dict (cntMap (s.ids.take j) fun _ => 0) ep), ⟨0, by simp [cntMap]⟩, ?_, ?_⟩
  · rintro j st' v ⟨ep, rfl⟩ hv
    have hj : ∃ k, s.ids[j]? = some k ∧ v = .int k := by
      simp only [Src.items, cellMap, List.map_map, List.getElem?_map, Option.map_eq_some_iff] at hv
      obtain ⟨k, h1, h2⟩ := hv
      exact ⟨k, h1, h2.symm⟩
    obtain ⟨k, hk, rfl⟩ := hj
    refine ⟨St.get_ne hcs, ?_⟩
    have hnm : k ∉ s.ids.take j := fun hm => by
      obtain ⟨i, hi, e⟩ := List.getElem_of_mem hm
      rw [List.getElem_take] at e
      have h1 : i < j := by rw [List.length_take] at hi; walk_at "om"
      have hjl := (List.getElem?_eq_some_iff.mp hk).1
      have e2 : s.ids[j] = k := (List.getElem?_eq_some_iff.mp hk).2
      have := (List.getElem_inj R.nodup).mp (e.trans e2.symm)
      walk_at "om"
    walk_at "mm"
    refine op_setitem St.set_same (by unfold cntMap; rw [List.length_map, List.length_take]; have := w.ids; walk_at "om") fun ep' => ?_
    rw [St.set_set, dput_cnt_new (f := fun _ => 0) hnm]
    walk_at "mm"
    refine ⟨Sub.upd rfl Sub.refl, ep', ?_⟩
    rw [List.take_add_one, hk]; rfl
  · rintro st' ⟨ep, rfl⟩
    refine ⟨St.get_ne hcs, ?_⟩
    have e : s.ids.take (Src.dict .cells (cellMap s.ids) epc).items.length = s.ids := by simp [Src.items, cellMap]
    rw [e]
    refine ts_cons (tx_for0 G.ok (.inl (kof henv rfl)) (ti_list G.ok ?_))
    walk_at "mm"
    refine c_all_held G (R1 _) w nd fun R3 => ?_
    refine ⟨_, _, rfl, St.set_same, fun j st' => ∃ ep, st' = (st.set (.tmp N) (.dict (cntMap s.ids fun k => ((s.allHeld.take j).count (.cell k) : Int)) ep)).set (.tmp (N + 1)) (.list (s.allHeld.map Val.v)), ⟨ep, by simp⟩, ?_, ?_⟩
    · rintro j st' v ⟨ep, rfl⟩ hv
      simp only [Src.items, List.getElem?_map, Option.map_eq_some_iff] at hv
      obtain ⟨u, hu, rfl⟩ := hv
      refine ⟨St.set_same, ?_⟩
      have R4 := R2 (.dict (cntMap s.ids fun k => ((s.allHeld.take j).count (.cell k) : Int)) ep) (.list (s.allHeld.map Val.v))
      have hnext : ∀ k, (((s.allHeld.take (j + 1)).count (.cell k) : Nat) : Int) = ((s.allHeld.take j).count (.cell k) : Int) + (if u = .cell k then 1 else 0) := fun k => by
        rw [List.take_add_one, hu]
        simp only [Option.toList_some, List.count_append, List.count_singleton, Int.natCast_add]
        congr 1
        by_cases q : u = .cell k <;> simp [q]
      walk_at "mm"
      cases u with
      | int i =>
        walk_at "mm"
        refine ⟨Sub.upd rfl Sub.refl, ep, ?_⟩
        rw [cntMap_congr (g := fun k => ((s.allHeld.take (j + 1)).count (.cell k) : Int)) fun k _ => by rw [hnext k]; simp]
      | cell k =>
        have hk : k ∈ s.ids := hA k (List.mem_of_getElem? hu)
        walk_at "mm"
        have hdict : ((st.set (.tmp N) (.dict (cntMap s.ids fun k => ((s.allHeld.take j).count (.cell k) : Int)) ep)).set (.tmp (N + 1)) (.list (s.allHeld.map Val.v))) (.tmp N) = some (.dict (cntMap s.ids fun k => ((s.allHeld.take j).count (.cell k) : Int)) ep) := St.get_ne St.set_same
        refine op_notin G.ok (i := (k : Int)) hdict ⟨_, rfl, ?_⟩
        have e2 : (!(dget (cntMap s.ids fun k => ((s.allHeld.take j).count (.cell k) : Int)) (k : Int)).isSome) = false := by rw [dget_cnt, if_pos hk]; rfl
        walk_at "mm"
        refine op_getitem (i := (k : Int)) hdict (by rw [dget_cnt, if_pos hk]) ?_
        walk_at "mm"
        refine op_setitem (i := (k : Int)) hdict (by unfold cntMap; rw [List.length_map]; have := w.ids; walk_at "om") fun ep' => ?_
        rw [dput_cnt hk]
        walk_at "mm"
        refine ⟨Sub.upd rfl Sub.refl, ep', ?_⟩
        have hcc : cntMap s.ids (fun n => if n = k then ((s.allHeld.take j).count (.cell k) : Int) + 1 else ((s.allHeld.take j).count (.cell n) : Int)) = cntMap s.ids (fun k => ((s.allHeld.take (j + 1)).count (.cell k) : Int)) := cntMap_congr fun k' _ => by
          rw [hnext k']
          by_cases q : k' = k
          · subst q; simp
          · have q' : ¬ k = k' := fun z => q z.symm
            simp [q, q']
        rw [hcc]
        funext r
        by_cases h1 : r = .tmp N
        · subst h1; simp [St.set]
        · simp [St.set, h1]
    · rintro st' ⟨ep, rfl⟩
      refine ⟨St.set_same, ?_⟩
      have e : s.allHeld.take (Src.list (.tmp (N + 1)) (s.allHeld.map Val.v)).items.length = s.allHeld := by simp [Src.items]
      rw [e]
      have hdict : ((st.set (.tmp N) (.dict (cntMap s.ids fun k => (s.allHeld.count (.cell k) : Int)) ep)).set (.tmp (N + 1)) (.list (s.allHeld.map Val.v))) (.tmp N) = some (.dict (cntMap s.ids fun k => (s.allHeld.count (.cell k) : Int)) ep) := St.get_ne St.set_same
      have R5 := R2 (.dict (cntMap s.ids fun k => (s.allHeld.count (.cell k) : Int)) ep) (.list (s.allHeld.map Val.v))
      have K5 : Keep N st ((st.set (.tmp N) (.dict (cntMap s.ids fun k => (s.allHeld.count (.cell k) : Int)) ep)).set (.tmp (N + 1)) (.list (s.allHeld.map Val.v))) := Keep.two
      generalize ((st.set (.tmp N) (.dict (cntMap s.ids fun k => (s.allHeld.count (.cell k) : Int)) ep)).set (.tmp (N + 1)) (.list (s.allHeld.map Val.v))) = st5 at hdict R5 K5
      refine ts_cons (tx_for0 G.ok (.inl (kof henv rfl)) (ti_dict G.ok ?_))
      walk_at "mm"
      refine ⟨_, _, _, rfl, hdict, fun j st' => st' = st5, rfl, ?_, ?_⟩
      · rintro j st' v rfl hv
        have hj : ∃ k, s.ids[j]? = some k ∧ v = .int k := by
          simp only [Src.items, cntMap, List.map_map, List.getElem?_map, Option.map_eq_some_iff] at hv
          obtain ⟨k, h1, h2⟩ := hv
          exact ⟨k, h1, h2.symm⟩
        obtain ⟨k, hk, rfl⟩ := hj
        have hkm := List.mem_of_getElem? hk
        refine ⟨hdict, ?_⟩
        walk_at "mm"
        refine d_cellitem R5 hkm ?_
        walk_at "mm"
        refine op_dictitem (i := (k : Int)) hdict (by rw [dget_cnt, if_pos hkm]) ?_
        walk_at "mm"
        have e3 : (!decide ((s.cell k).count = (s.allHeld.count (.cell k) : Int))) = false := by rw [hC k hkm]; simp
        walk_at "mm"
        exact ⟨Sub.upd rfl Sub.refl, rfl⟩
      · rintro st' rfl
        refine ⟨hdict, ?_⟩
        walk_at "mm"
        exact q (N + 2) _ (by walk_at "om") R5 K5
end
end
section
/-! ## weak tables -/
noncomputable def S.objIn (s : S) (a : Int) : Option Nat := match s.cellOf (s.valueOf a) with | some n => if (s.cell n).sort = .obj then some n else none | none => none
noncomputable def S.setWeak (s : S) (k : Nat) : S := s.upd k fun c => { c with weak := true }
noncomputable def S.weakOf (s : S) (a : Int) : S := match s.objIn a with | some k => s.setWeak k | none => s
@[reducible] noncomputable def ov : Option Val → V | none => .none | some v => v.v
@[reducible] noncomputable def oi : Option Nat → V | none => .none | some n => .int n
noncomputable def S.weakGet (s : S) (k : Nat) : Option Val := if k ∈ s.ids then if (s.cell k).weak then some (.cell k) else none else none
noncomputable def S.weakPut1 (s : S) (i k : Nat) (b : Int) : S := (s.gain (s.valueOf b)).put (.ent i) (dput ((s.gain (s.valueOf b)).tab i) k (s.valueOf b))
noncomputable def S.weakRead (s : S) (i : Nat) (a : Int) : Option Val := (s.objIn a).bind fun k => dget (s.tab i) k
theorem S.objIn_mem {s : S} {a : Int} {k : Nat} (h : s.objIn a = some k) : k ∈ s.ids ∧ (s.cell k).sort = .obj := by
  unfold S.objIn at h
  split at h
  · rename_i n e
    split at h
    · rename_i hs; cases h; exact ⟨(S.cellOf_some e).2, hs⟩
    · cases h
  · cases h
section
variable {W : Wd} {n : Nat} {st : St} {Q : V → St → Prop} {x : Nat} {s : S} {N : Nat} {QU : Unit → St → Prop} {m : Nat}
theorem c_object_in (G : Gd W) (R : Rep s N st) (H : s.RefOk) (a : Int) (q : Q (cv (s.objIn a)) st) : CallOK W (n + 5) "object_in" [.ref .heap, .int a] Q st := by
  refine fn_intro G.ok G.fns (mem_rec (i := 46) rfl (by kernel_rfl)) (ps := ["heap", "var"]) (fun pm code doc ws h => by obtain ⟨a, b, rfl⟩ := len2 h; kernel_rfl) (by decide) (by kernel_rfl) rfl rfl rfl ?_
  intro env henv
  walk_at "mm"
  refine c_value_of G R H a ?_
  walk_at "mm"
  refine c_cell_of G R _ ?_
  unfold S.objIn at q
  cases h : s.cellOf (s.valueOf a) with
  | none => rw [h] at q; walk_at "mm"; exact q
  | some k =>
    obtain ⟨e, hk⟩ := S.cellOf_some h
    rw [h] at q; dsimp only at q
    by_cases hs : (s.cell k).sort = .obj
    · have e1 : decide ((s.cell k).sort = .obj) = true := by simpa using hs
      rw [if_pos hs] at q
      walk_at "mm"
      exact q
    · have e1 : decide ((s.cell k).sort = .obj) = false := by simpa using hs
      rw [if_neg hs] at q
      walk_at "mm"
      exact q
theorem c_weak_of (G : Gd W) (R : Rep s N st) (H : s.RefOk) (a : Int) (q : ∀ st', Rep (s.weakOf a) N st' → Keep N st st' → Q (oi (s.objIn a)) st') : CallOK W (n + 6) "weak_of" [.ref .heap, .int a] Q st := by
  refine fn_intro G.ok G.fns (mem_rec (i := 47) rfl (by kernel_rfl)) (ps := ["heap", "var"]) (fun pm code doc ws h => by obtain ⟨a, b, rfl⟩ := len2 h; kernel_rfl) (by decide) (by kernel_rfl) rfl rfl rfl ?_
  intro env henv
  walk_at "mm"
  refine c_object_in G R H a ?_
  unfold S.weakOf at q
  cases h : s.objIn a with
  | none => rw [h] at q; walk_at "mm"; exact q _ R Keep.refl
  | some k =>
    have hk := (S.objIn_mem h).1
    rw [h] at q; dsimp only at q
    walk_at "mm"
    refine d_setweak G R hk fun st1 R1 K1 => ?_
    have hw : ((s.upd k fun c => { c with weak := true }).cell k).weak = true := by rw [S.upd_cell, if_pos rfl]
    walk_at "mm"
    rw [hw]
    exact q _ R1 K1
theorem c_weak_get (G : Gd W) (R : Rep s N st) (k : Nat) (q : Q (ov (s.weakGet k)) st) : CallOK W (n + 1) "weak_get" [.ref .heap, .int k] Q st := by
  refine fn_intro G.ok G.fns (mem_rec (i := 48) rfl (by kernel_rfl)) (ps := ["heap", "weak"]) (fun pm code doc ws h => by obtain ⟨a, b, rfl⟩ := len2 h; kernel_rfl) (by decide) (by kernel_rfl) rfl rfl rfl ?_
  intro env henv
  obtain ⟨ep, ha⟩ := R.cells
  walk_at "mm"
  refine ⟨_, _, _, rfl, ha, ?_⟩
  walk_at "mm"
  refine ⟨_, rfl, rfl, ?_⟩
  unfold S.weakGet at q
  have e0 := dget_cells (ids := s.ids) (i := (k : Int))
  by_cases hk : k ∈ s.ids
  · rw [dget_cell hk]
    rw [if_pos hk] at q
    cases hw : (s.cell k).weak with
    | true =>
      rw [hw, if_pos rfl] at q
      walk_at "mm"
      rw [hw]
      walk_at "mm"
      exact q
    | false =>
      rw [hw, if_neg Bool.false_ne_true] at q
      walk_at "mm"
      rw [hw]
      walk_at "mm"
      exact q
  · rw [if_neg hk] at q
    rw [if_neg (by simpa using hk)] at e0
    rw [e0]
    walk_at "mm"
    exact q
theorem c_weak_read (G : Gd W) (R : Rep s N st) (H : s.RefOk) {i : Nat} (hi : i < 2) (a : Int) (q : Q (ov (s.weakRead i a)) st) : CallOK W (n + 6) "weak_read" [.ref .heap, .ref (.tab i), .int a] Q st := by
  refine fn_intro G.ok G.fns (mem_rec (i := 51) rfl (by kernel_rfl)) (ps := ["heap", "table", "var"]) (fun pm code doc ws h => by obtain ⟨a, b, c, rfl⟩ := len3 h; kernel_rfl) (by decide) (by kernel_rfl) rfl rfl rfl ?_
  intro env henv
  walk_at "mm"
  refine c_object_in G R H a ?_
  unfold S.weakRead at q
  cases h : s.objIn a with
  | none => rw [h] at q; walk_at "mm"; exact q
  | some k =>
    have hk := (S.objIn_mem h).1
    rw [h] at q
    obtain ⟨ep, ha⟩ := R.ent hi
    walk_at "mm"
    refine ⟨_, _, _, rfl, ha, ?_⟩
    walk_at "mm"
    refine ⟨_, rfl, rfl, ?_⟩
    rw [dget_dmap]
    have e : ((dget (s.tab i) (k : Int)).map Val.v).getD .none = ov ((some k).bind fun k => dget (s.tab i) k) := by
      show _ = ov (dget (s.tab i) (k : Int))
      cases dget (s.tab i) (k : Int) <;> rfl
    rw [e]; exact q
theorem c_weak_keys (G : Gd W) (R : Rep s N st) {i : Nat} (hi : i < 2) (hz : (s.tab i).length ≤ 100000) (q : Rep s (N + 1) (st.set (.tmp N) (.list ((s.tab i).map fun e => .int e.1))) → Q (.ref (.tmp N)) (st.set (.tmp N) (.list ((s.tab i).map fun e => .int e.1)))) : CallOK W (n + 1) "weak_keys" [.ref (.tab i)] Q st := by
  refine fn_intro G.ok G.fns (mem_rec (i := 53) rfl (by kernel_rfl)) (ps := ["table"]) (fun pm code doc ws h => by obtain ⟨a, rfl⟩ := len1 h; kernel_rfl) (by decide) (by kernel_rfl) rfl rfl rfl ?_
  intro env henv
  obtain ⟨ep, ha⟩ := R.ent hi
  refine ts_cons (tx_return ?_)
  refine te_bfun (v := .type "list") G.ok (G.bi "list" (by decide +kernel)) (kof henv rfl) (by decide +kernel) ?_
  walk_at "mm"
  refine op_listd G.ok ha (R.tmp (Nat.le_refl N)) (by rw [dmap_length]; exact Nat.le_trans hz (by decide)) ?_
  rw [dmap_keys]
  exact q R.tmpset
theorem c_weak_put (G : Gd W) (R : Rep s N st) (w : Wf 1000 s) {I : Nat → S → List Task → Prop} (SI : Settles I) {i : Nat} (hi : i < 2) (a b : Int)
    (h0 : ∀ k, s.objIn a = some k → ∃ m0, I m0 (s.weakPut1 i k b) ((dget (s.tab i) k).toList.map .lose))
    (q0 : s.objIn a = none → Q (.bool false) st)
    (q : ∀ k m' s' N' st', s.objIn a = some k → I m' s' [] → N ≤ N' → Rep s' N' st' → Keep N st st' → Q (.bool true) st') : CallOK W (n + 11) "weak_put" [.ref .heap, .ref (.tab i), .int a, .int b] Q st := by
  refine fn_intro G.ok G.fns (mem_rec (i := 50) rfl (by kernel_rfl)) (ps := ["heap", "table", "var", "other"]) (fun pm code doc ws h => by obtain ⟨a, b, c, d, rfl⟩ := len4 h; kernel_rfl) (by decide) (by kernel_rfl) rfl rfl rfl ?_
  intro env henv
  walk_at "mm"
  refine c_object_in G R w.ref a ?_
  cases h : s.objIn a with
  | none => walk_at "mm"; exact q0 h
  | some k =>
    have hk := (S.objIn_mem h).1
    obtain ⟨m0, hI⟩ := h0 k h
    walk_at "mm"
    refine c_value_of G R w.ref b ?_
    walk_at "mm"
    refine c_gain G R (s.valueOf b) fun st1 R1 K1 => ?_
    have hk1 : k ∈ (s.gain (s.valueOf b)).ids := by rw [S.gain_ids]; exact hk
    obtain ⟨ep, ha⟩ := R1.ent hi
    walk_at "mm"
    refine ⟨_, _, _, rfl, ha, ?_⟩
    walk_at "mm"
    refine ⟨_, rfl, rfl, ?_⟩
    rw [dget_dmap]
    have ht : (s.gain (s.valueOf b)).tab i = s.tab i := by rw [S.gain_tab]
    rw [ht]
    walk_at "mm"
    refine d_put (p := .ent i) R1 hi nofun (by show ((s.gain (s.valueOf b)).tab i).length ≤ _; rw [ht]; exact Nat.le_trans (w.tab i hi) (by decide)) fun st2 R2 K2 => ?_
    have R2' : Rep (s.weakPut1 i k b) N st2 := R2
    have K3 := K1.trans K2
    cases ho : dget (s.tab i) (k : Int) with
    | none =>
      rw [ho] at hI
      walk_at "mm"
      exact q k m0 _ N st2 h hI (Nat.le_refl N) R2' K3
    | some u =>
      rw [ho] at hI
      have eu : ((some u).map Val.v).getD V.none = u.v := rfl
      have en : u.v.isNone = false := by cases u <;> rfl
      rw [eu]
      refine ts_cons (tx_if ?_)
      walk_at "mm"
      refine if_t (b := !u.v.isNone) (by rw [en]; rfl) ?_
      walk_at "mm"
      refine c_release G R2' SI hI fun m' s' N' st' hI' hN R' K' => ?_
      walk_at "mm"
      exact q k m' s' N' st' h hI' hN R' (K3.trans K')
theorem c_weak_drop (G : Gd W) (R : Rep s N st) (w : Wf 1000 s) {I : Nat → S → List Task → Prop} (SI : Settles I) {i : Nat} (hi : i < 2) (a : Int)
    (h0 : ∀ k v, s.objIn a = some k → dget (s.tab i) k = some v → ∃ m0, I m0 (s.put (.ent i) (ddel (s.tab i) k)) [.lose v])
    (q0 : s.weakRead i a = none → Q (.bool false) st)
    (q : ∀ k v m' s' N' st', s.objIn a = some k → dget (s.tab i) k = some v → I m' s' [] → N ≤ N' → Rep s' N' st' → Keep N st st' → Q (.bool true) st') : CallOK W (n + 11) "weak_drop" [.ref .heap, .ref (.tab i), .int a] Q st := by
  refine fn_intro G.ok G.fns (mem_rec (i := 52) rfl (by kernel_rfl)) (ps := ["heap", "table", "var"]) (fun pm code doc ws h => by obtain ⟨a, b, c, rfl⟩ := len3 h; kernel_rfl) (by decide) (by kernel_rfl) rfl rfl rfl ?_
  intro env henv
  walk_at "mm"
  refine c_object_in G R w.ref a ?_
  unfold S.weakRead at q0
  cases h : s.objIn a with
  | none => rw [h] at q0; walk_at "mm"; exact q0 rfl
  | some k =>
    have hk := (S.objIn_mem h).1
    rw [h] at q0
    walk_at "mm"
    refine d_notin (p := .ent i) G R hi nofun ⟨_, rfl, ?_⟩
    cases ho : dget (s.at (.ent i)) (k : Int) with
    | none => walk_at "mm"; exact q0 ho
    | some u =>
      obtain ⟨m0, hI⟩ := h0 k u h ho
      walk_at "mm"
      obtain ⟨ep, ha⟩ := R.ent hi
      refine ⟨_, _, _, rfl, ha, ?_⟩
      walk_at "mm"
      refine ⟨_, u.v, rfl, rfl, by rw [dmap_length]; exact Nat.le_trans (w.tab i hi) (by decide), by rw [dget_dmap]; exact congrArg (Option.map Val.v) ho, fun ep' => ?_⟩
      rw [ddel_dmap]
      have R1 := R.putPlace (p := .ent i) hi (es := ddel (s.tab i) k) (ep := ep')
      walk_at "mm"
      refine c_release G R1 SI hI fun m' s' N' st' hI' hN R' K' => ?_
      walk_at "mm"
      exact q k u m' s' N' st' h ho hI' hN R' (Keep.trans (N := N) (M := N) (Keep.set rfl) K' (Nat.le_refl N))
end
end
section
/-! ## children -/
noncomputable def S.kids (s : S) (n : Nat) : List Nat := (s.heldBy n).filterMap fun v => match v with | .cell k => some k | .int _ => none
noncomputable def cl (ks : List Nat) : List V := ks.map fun k => .ref (.cell k)
noncomputable def S.Alive (s : S) : Prop := ∀ n ∈ s.ids, ∀ k ∈ s.kids n, k ∈ s.ids
noncomputable def S.setCol (s : S) (n : Nat) (c : Col) : S := s.upd n fun x => { x with col := c }
theorem kids_len {s : S} {n : Nat} : (s.kids n).length ≤ (s.cell n).slots.length + 2 := Nat.le_trans (List.length_filterMap_le _ _) heldBy_len
theorem S.addCount_kids {s : S} {m : Nat} {d : Int} {k : Nat} : (s.addCount m d).kids k = s.kids k := by
  unfold S.kids S.heldBy
  have : ((s.addCount m d).cell k).slots = (s.cell k).slots := by
    show ((if k = m then _ else s.cell k) : Cel).slots = _
    split
    · rename_i h; rw [h]
    · rfl
  rw [this]; rfl
theorem S.setCol_slots {s : S} {m : Nat} {c : Col} {k : Nat} : ((s.setCol m c).cell k).slots = (s.cell k).slots := by
  show ((if k = m then _ else s.cell k) : Cel).slots = _
  split
  · rename_i h; rw [h]
  · rfl
theorem S.setCol_kids {s : S} {m : Nat} {c : Col} {k : Nat} : (s.setCol m c).kids k = s.kids k := by
  unfold S.kids S.heldBy
  rw [S.setCol_slots]; rfl
theorem Wf.setCol {b : Nat} {s : S} (w : Wf b s) (m : Nat) (c : Col) : Wf b (s.setCol m c) := by
  have ht : ∀ k, ((s.setCol m c).cell k).sort = (s.cell k).sort := fun k => by
    show ((if k = m then _ else s.cell k) : Cel).sort = _
    split
    · rename_i h; rw [h]
    · rfl
  exact ⟨fun k hk hr => by rw [ht] at hr; rw [S.setCol_slots]; exact w.ref k hk hr, fun k hk => by rw [S.setCol_slots]; exact w.nd k hk, w.ids, w.vars, fun k hk => by rw [S.setCol_slots]; exact w.slots k hk, w.tab, w.buf, w.log, w.le⟩
/-- a list of a list -/
theorem op_listl {W : Wd} {n : Nat} {st : St} {Q : V → St → Prop} {r r' : Role} {xs : List V} (ok : W.Ok) (hr : st r = some (.list xs)) (hr' : st r' = none) (hz : xs.length ≤ 16777216) (q : Q (.ref r') (st.set r' (.list xs))) : OP W n VR (fun ws => call (.type "list") ws) [.ref r] Q st := by
  intro A s k vs hA R rr
  obtain ⟨_, rfl, ra⟩ := rr.one
  obtain ⟨a, rfl, e⟩ := ra.ref_inv
  obtain ⟨us, m, hl, rs⟩ := R.listAt e hr
  refine call_list_seq a (.inl rfl) hl rfl rfl (fun h' c' hk hl' => ?_) (by rw [List.size_toArray, rs.length]; exact Nat.le_trans hz (by decide))
  obtain ⟨R', l⟩ := R.grow (h' := h') (tk := s.toks) hk
  have nt : NoTup nob s.heap := fun _ _ _ p => p.elim
  obtain ⟨k', R2, l2, r2⟩ := R.adoptList (tk := s.toks) (xs := xs) ok hk hl' fresh_none (R.lo ok (Nat.le_refl _)).2 (rs.le l) hr'
  exact ⟨k', _, _, R2, l2, r2, q⟩
section
variable {W : Wd} {n : Nat} {st : St} {Q : V → St → Prop} {x : Nat} {s : S} {N : Nat} {QU : Unit → St → Prop} {m : Nat}
theorem c_children (G : Gd W) (R : Rep s N st) (w : Wf 90000 s) (hm : m ∈ s.ids) (ha : ∀ k ∈ s.kids m, k ∈ s.ids)
    (q : ∀ st', Rep s (N + 2) st' → Keep N st st' → st' (.tmp (N + 1)) = some (.list (cl (s.kids m))) → Q (.ref (.tmp (N + 1))) st') : CallOK W (n + 2) "children" [.ref .heap, .ref (.cell m)] Q st := by
  refine fn_intro G.ok G.fns (mem_rec (i := 55) rfl (by kernel_rfl)) (ps := ["heap", "cell"]) (fun pm code doc ws h => by obtain ⟨a, b, rfl⟩ := len2 h; kernel_rfl) (by decide) (by kernel_rfl) rfl rfl rfl ?_
  intro env henv
  refine ts_cons (tx_return ?_)
  refine te_comp G.ok (.tmp (N + 1)) (CompOk.of henv (by kernel_rfl)) (ti_list G.ok ?_)
  walk_at "mm"
  refine c_held_by G R hm (w.nd m hm) (Nat.le_trans (w.slots m hm) (by decide)) fun st1 R1 K1 hl => ?_
  refine ⟨_, _, rfl, hl, by simp only [Src.items, List.length_map]; exact Nat.le_trans heldBy_len (by have := w.slots m hm; walk_at "om"), (s.heldBy m).map (fun v => (v.v, match v with | .cell k => some (.ref (.cell k)) | .int _ => none)), by simp [Src.items, Function.comp_def], ?_, R1.tmp (Nat.le_refl _), ?_⟩
  · intro z hz cenv hc
    rw [henv] at hc
    obtain ⟨v, hv, rfl⟩ := List.mem_map.mp hz
    cases v with
    | int i =>
      refine tf_one ?_
      walk_at "mm"
      exact ⟨rfl, rfl, fun y hy => by cases hy⟩
    | cell k =>
      have hk : k ∈ s.ids := ha k (List.mem_filterMap.mpr ⟨_, hv, rfl⟩)
      refine tf_one ?_
      walk_at "mm"
      refine ⟨rfl, rfl, fun y hy => ?_⟩
      cases hy
      walk_at "mm"
      exact d_cellitem R1 hk ⟨rfl, rfl⟩
  · have e1 : (((s.heldBy m).map (fun v => (v.v, (match v with | .cell k => some (V.ref (.cell k)) | .int _ => none : Option V)))).filterMap (·.2)) = cl (s.kids m) := by
      rw [List.filterMap_map]
      unfold cl S.kids
      rw [List.map_filterMap]
      congr 1
      funext v
      cases v <;> rfl
    rw [e1]
    exact q _ R1.tmpset (K1.trans (Keep.set_tmp (Nat.le_succ N))) St.set_same
end
end
section
/-! ## the three colours -/
noncomputable def S.adds (s : S) (ks : List Nat) (d : Int) : S := ks.foldl (fun s k => s.addCount k d) s
noncomputable def S.markStep (s : S) (h : Nat) : S × List Nat := if (s.cell h).col = .grey then (s, []) else ((s.setCol h .grey).adds (s.kids h) (-1), s.kids h)
noncomputable def S.blackOne (p : S × List Nat) (k : Nat) : S × List Nat := if ((p.1.addCount k 1).cell k).col = .black then (p.1.addCount k 1, p.2) else ((p.1.addCount k 1).setCol k .black, p.2 ++ [k])
noncomputable def S.blackStep (s : S) (h : Nat) : S × List Nat := (s.kids h).foldl S.blackOne (s, [])
structure Run (f : S → Nat → S × List Nat) (I : Nat → S → List Nat → Prop) : Prop where
  small : ∀ m s ts, I m s ts → Wf 80000 s ∧ ts.length ≤ 100000 ∧ s.Alive ∧ ∀ t ∈ ts, t ∈ s.ids
  step : ∀ m s ts t, I m s (ts ++ [t]) → ∃ j, j < m ∧ I j (f s t).1 (ts ++ (f s t).2)
structure Scans (I : Nat → S → List Nat → Prop) : Prop where
  small : ∀ m s ts, I m s ts → Wf 80000 s ∧ ts.length ≤ 100000 ∧ s.Alive ∧ ∀ t ∈ ts, t ∈ s.ids
  other : ∀ m s ts t, I m s (ts ++ [t]) → (s.cell t).col ≠ .grey → ∃ j, j < m ∧ I j s ts
  white : ∀ m s ts t, I m s (ts ++ [t]) → (s.cell t).col = .grey → ¬ (s.cell t).count > 0 → ∃ j, j < m ∧ I j (s.setCol t .white) (ts ++ s.kids t)
  black : ∀ m s ts t, I m s (ts ++ [t]) → (s.cell t).col = .grey → (s.cell t).count > 0 → ∃ J b0, Run S.blackStep J ∧ J b0 (s.setCol t .black) [t] ∧ ∀ b' s', J b' s' [] → ∃ j, j < m ∧ I j s' ts
structure Gathers (I : Nat → S → List Nat → List Nat → Prop) : Prop where
  small : ∀ m s fs ts, I m s fs ts → Wf 80000 s ∧ ts.length ≤ 100000 ∧ s.Alive ∧ (∀ t ∈ ts, t ∈ s.ids) ∧ fs.length < 64
  other : ∀ m s fs ts t, I m s fs (ts ++ [t]) → (s.cell t).col ≠ .white → ∃ j, j < m ∧ I j s fs ts
  white : ∀ m s fs ts t, I m s fs (ts ++ [t]) → (s.cell t).col = .white → ∃ j, j < m ∧ I j ((s.setCol t .black).adds (s.kids t) 1) (fs ++ [t]) (ts ++ s.kids t)
theorem adds_ids {ks : List Nat} {d : Int} : ∀ {s : S}, (s.adds ks d).ids = s.ids := by
  induction ks with
  | nil => intro s; rfl
  | cons a r ih => intro s; exact ih
theorem adds_snoc {s : S} {ks : List Nat} {k : Nat} {d : Int} : s.adds (ks ++ [k]) d = (s.adds ks d).addCount k d := by unfold S.adds; rw [List.foldl_append]; rfl
theorem blackOnes_ids {ks : List Nat} : ∀ {p : S × List Nat}, (ks.foldl S.blackOne p).1.ids = p.1.ids := by
  induction ks with
  | nil => intro p; rfl
  | cons a r ih =>
    intro p
    rw [List.foldl_cons, ih]
    unfold S.blackOne
    split <;> rfl
theorem blackOnes_len {ks : List Nat} : ∀ {p : S × List Nat}, (ks.foldl S.blackOne p).2.length ≤ p.2.length + ks.length := by
  induction ks with
  | nil => intro p; simp
  | cons a r ih =>
    intro p
    rw [List.foldl_cons]
    refine Nat.le_trans ih ?_
    unfold S.blackOne
    split <;> simp only [List.length_append, List.length_cons, List.length_nil] <;> walk_at "om"
theorem cl_append {a b : List Nat} : cl (a ++ b) = cl a ++ cl b := by simp [cl]
theorem cl_length {a : List Nat} : (cl a).length = a.length := by simp [cl]
section
variable {W : Wd} {n : Nat} {st : St} {Q : V → St → Prop} {x : Nat} {s : S} {N : Nat} {QU : Unit → St → Prop} {m : Nat} {c : Nat}
theorem c_mark_grey (G : Gd W) (R : Rep s N st) {I : Nat → S → List Nat → Prop} (SI : Run S.markStep I) {m0 : Nat} (h0 : I m0 s [c])
    (q : ∀ m' s' N' st', I m' s' [] → N ≤ N' → Rep s' N' st' → Keep N st st' → Q .none st') : CallOK W (n + 3) "mark_grey" [.ref .heap, .ref (.cell c)] Q st := by
  refine fn_intro G.ok G.fns (mem_rec (i := 56) rfl (by kernel_rfl)) (ps := ["heap", "cell"]) (fun pm code doc ws h => by obtain ⟨a, b, rfl⟩ := len2 h; kernel_rfl) (by decide) (by kernel_rfl) rfl rfl rfl ?_
  intro env henv
  walk_at "mm"
  refine te_list G.ok (.tmp N) ?_
  walk_at "mm"
  refine ⟨R.tmp (Nat.le_refl N), ?_⟩
  walk_at "mm"
  refine tx_while0 (fun m => LpA (I m) (N + 1) N st (.tmp N) cl) m0 ⟨s, N + 1, [c], h0, Nat.lt_succ_self N, R.tmpset, Keep.set_tmp (Nat.le_refl N), St.set_same⟩ ?_
  rintro m st' ⟨s', N', ts', hI, hN, R', K', hl⟩
  obtain ⟨w, hz, ha, hts⟩ := SI.small _ _ _ hI
  walk_at "mm"
  refine op_truthl hl (by rw [cl_length]; walk_at "om") ?_
  rcases List.eq_nil_or_concat ts' with rfl | ⟨ts1, t, rfl⟩
  · walk_at "mm"
    exact q m s' N' st' hI (by walk_at "om") R' K'
  · have e0 : (!(cl (ts1.concat t)).isEmpty) = true := by simp [cl]
    refine if_t e0 ?_
    rw [List.concat_eq_append] at hI hl hz hts
    rw [cl_append] at hl
    simp only [List.length_append] at hz
    have htm : t ∈ s'.ids := hts t (by simp)
    obtain ⟨j, hj, hI2⟩ := SI.step _ _ _ _ hI
    walk_at "mm"
    refine ⟨_, _, _, rfl, hl, by rw [cl_length]; walk_at "om", ?_⟩
    have R2 : Rep s' N' (st'.set (.tmp N) (.list (cl ts1))) := R'.tmpupd hN
    have K2 : Keep N st (st'.set (.tmp N) (.list (cl ts1))) := K'.trans (Keep.set_tmp (Nat.le_refl N))
    have hl2 : (st'.set (.tmp N) (.list (cl ts1))) (.tmp N) = some (.list (cl ts1)) := St.set_same
    generalize (st'.set (.tmp N) (.list (cl ts1))) = st2 at R2 K2 hl2
    walk_at "mm"
    unfold S.markStep at hI2
    by_cases hg : (s'.cell t).col = .grey
    · have e1 : (!decide ((s'.cell t).col = .grey)) = false := by simp [hg]
      rw [if_pos hg] at hI2
      walk_at "mm"
      exact ⟨Sub.upd rfl Sub.refl, j, hj, s', N', ts1, by simpa using hI2, hN, R2, K2, hl2⟩
    · have e1 : (!decide ((s'.cell t).col = .grey)) = true := by simp [hg]
      rw [if_neg hg] at hI2
      dsimp only at hI2
      walk_at "mm"
      refine d_setcol G R2 htm (i := .grey) rfl fun st3 R3 K3 => ?_
      have hl3 := (K3.tmp hN).trans hl2
      have R3' : Rep (s'.setCol t .grey) N' st3 := R3
      have w3 := w.setCol t .grey
      have hk3 : (s'.setCol t .grey).kids t = s'.kids t := S.setCol_kids
      have hkl : (s'.kids t).length ≤ 100000 := Nat.le_trans kids_len (by have := w.slots t htm; walk_at "om")
      have hal : ∀ k ∈ s'.kids t, k ∈ (s'.setCol t .grey).ids := ha t htm
      refine ts_cons (tx_for0 G.ok (.inl (kof henv rfl)) (ti_list G.ok ?_))
      walk_at "mm"
      refine c_children G R3' (w3.up (by decide)) htm (by rw [hk3]; exact hal) fun st4 R4 K4 hl4 => ?_
      rw [hk3] at hl4
      generalize s'.kids t = ks at hI2 hl4 hkl hal
      generalize hs3 : s'.setCol t .grey = s3 at R4 w3 hI2 hal
      refine ⟨_, _, rfl, hl4, fun j st' => Rep (s3.adds (ks.take j) (-1)) (N' + 2) st' ∧ Keep N st st' ∧ st' (.tmp N) = some (.list (cl (ts1 ++ ks.take j))) ∧ st' (.tmp (N' + 1)) = some (.list (cl ks)),
        ⟨R4, (K2.trans K3).trans K4, by rw [List.take_zero, List.append_nil]; exact (K4.tmp hN).trans hl3, hl4⟩, ?_, ?_⟩
      · rintro i st5 v ⟨R5, K5, hl5, hl6⟩ hv
        simp only [Src.items, cl, List.getElem?_map, Option.map_eq_some_iff] at hv
        obtain ⟨k, hi, rfl⟩ := hv
        have hkm : k ∈ (s3.adds (ks.take i) (-1)).ids := by rw [adds_ids]; exact hal k (List.mem_of_getElem? hi)
        refine ⟨hl6, ?_⟩
        walk_at "mm"
        refine d_setcount G R5 hkm fun st6 R6 K6 => ?_
        have R6' : Rep (s3.adds (ks.take (i + 1)) (-1)) (N' + 2) st6 := by
          rw [List.take_add_one, hi]
          show Rep (s3.adds (ks.take i ++ [k]) (-1)) (N' + 2) st6
          rw [adds_snoc]; exact R6
        have hl7 := (K6.tmp (by walk_at "om" : N < N' + 2)).trans hl5
        walk_at "mm"
        refine ⟨_, hl7, by rw [cl_length, List.length_append, List.length_take]; walk_at "om", ?_⟩
        walk_at "mm"
        refine ⟨Sub.upd rfl Sub.refl, R6'.tmpupd (by walk_at "om"), (K5.trans K6).trans (Keep.set_tmp (Nat.le_refl N)), ?_, St.get_ne ((K6.tmp (k := N' + 1) (by walk_at "om")).trans hl6)⟩
        rw [St.set_same, List.take_add_one, hi]
        simp [cl]
      · rintro st5 ⟨R5, K5, hl5, hl6⟩
        refine ⟨hl6, ?_⟩
        have e : ks.take (Src.list (.tmp (N' + 1)) (cl ks)).items.length = ks := by simp [Src.items, cl]
        rw [e] at R5 hl5
        walk_at "mm"
        exact ⟨Sub.upd rfl Sub.refl, j, hj, _, N' + 2, _, hI2, by walk_at "om", R5, K5, hl5⟩
end
end
section
section
variable {W : Wd} {n : Nat} {st : St} {Q : V → St → Prop} {x : Nat} {s : S} {N : Nat} {QU : Unit → St → Prop} {m : Nat} {c : Nat}
theorem c_scan_black (G : Gd W) (R : Rep s N st) (hc : c ∈ s.ids) {I : Nat → S → List Nat → Prop} (SI : Run S.blackStep I) {m0 : Nat} (h0 : I m0 (s.setCol c .black) [c])
    (q : ∀ m' s' N' st', I m' s' [] → N ≤ N' → Rep s' N' st' → Keep N st st' → Q .none st') : CallOK W (n + 3) "scan_black" [.ref .heap, .ref (.cell c)] Q st := by
  refine fn_intro G.ok G.fns (mem_rec (i := 57) rfl (by kernel_rfl)) (ps := ["heap", "cell"]) (fun pm code doc ws h => by obtain ⟨a, b, rfl⟩ := len2 h; kernel_rfl) (by decide) (by kernel_rfl) rfl rfl rfl ?_
  intro env henv
  walk_at "mm"
  refine d_setcol G R hc (i := .black) rfl fun st1 R1 K1 => ?_
  have R1' : Rep (s.setCol c .black) N st1 := R1
  walk_at "mm"
  refine te_list G.ok (.tmp N) ?_
  walk_at "mm"
  refine ⟨R1'.tmp (Nat.le_refl N), ?_⟩
  walk_at "mm"
  refine tx_while0 (fun m => LpA (I m) (N + 1) N st (.tmp N) cl) m0 ⟨_, N + 1, [c], h0, Nat.lt_succ_self N, R1'.tmpset, K1.trans (Keep.set_tmp (Nat.le_refl N)), St.set_same⟩ ?_
  rintro m st' ⟨s', N', ts', hI, hN, R', K', hl⟩
  obtain ⟨w, hz, ha, hts⟩ := SI.small _ _ _ hI
  walk_at "mm"
  refine op_truthl hl (by rw [cl_length]; walk_at "om") ?_
  rcases List.eq_nil_or_concat ts' with rfl | ⟨ts1, t, rfl⟩
  · walk_at "mm"
    exact q m s' N' st' hI (by walk_at "om") R' K'
  · have e0 : (!(cl (ts1.concat t)).isEmpty) = true := by simp [cl]
    refine if_t e0 ?_
    rw [List.concat_eq_append] at hI hl hz hts
    rw [cl_append] at hl
    simp only [List.length_append] at hz
    have htm : t ∈ s'.ids := hts t (by simp)
    obtain ⟨j, hj, hI2⟩ := SI.step _ _ _ _ hI
    refine ts_cons (tx_for0 G.ok (.inl (kof henv rfl)) (ti_list G.ok ?_))
    walk_at "mm"
    refine ⟨_, _, _, rfl, hl, by rw [cl_length]; walk_at "om", ?_⟩
    have R2 : Rep s' N' (st'.set (.tmp N) (.list (cl ts1))) := R'.tmpupd hN
    have K2 : Keep N st (st'.set (.tmp N) (.list (cl ts1))) := K'.trans (Keep.set_tmp (Nat.le_refl N))
    have hl2 : (st'.set (.tmp N) (.list (cl ts1))) (.tmp N) = some (.list (cl ts1)) := St.set_same
    generalize (st'.set (.tmp N) (.list (cl ts1))) = st2 at R2 K2 hl2
    walk_at "mm"
    have hkl : (s'.kids t).length ≤ 100000 := Nat.le_trans kids_len (by have := w.slots t htm; walk_at "om")
    have hal : ∀ k ∈ s'.kids t, k ∈ s'.ids := ha t htm
    refine c_children G R2 (w.up (by decide)) htm hal fun st4 R4 K4 hl4 => ?_
    unfold S.blackStep at hI2
    generalize s'.kids t = ks at hI2 hl4 hkl hal
    refine ⟨_, _, rfl, hl4, fun j st' => Rep ((ks.take j).foldl S.blackOne (s', [])).1 (N' + 2) st' ∧ Keep N st st' ∧ st' (.tmp N) = some (.list (cl (ts1 ++ ((ks.take j).foldl S.blackOne (s', [])).2))) ∧ st' (.tmp (N' + 1)) = some (.list (cl ks)),
      ⟨R4, K2.trans K4, by simpa using (K4.tmp hN).trans hl2, hl4⟩, ?_, ?_⟩
    · rintro i st5 v ⟨R5, K5, hl5, hl6⟩ hv
      simp only [Src.items, cl, List.getElem?_map, Option.map_eq_some_iff] at hv
      obtain ⟨k, hi, rfl⟩ := hv
      have hnext : (ks.take (i + 1)).foldl S.blackOne (s', []) = S.blackOne ((ks.take i).foldl S.blackOne (s', [])) k := by
        rw [List.take_add_one, hi]; simp [List.foldl_append]
      have hpl := blackOnes_len (ks := ks.take i) (p := (s', []))
      have hkm : k ∈ ((ks.take i).foldl S.blackOne (s', [])).1.ids := by rw [blackOnes_ids]; exact hal k (List.mem_of_getElem? hi)
      simp only [List.length_nil, List.length_take] at hpl
      generalize (ks.take i).foldl S.blackOne (s', []) = p at R5 hl5 hkm hpl hnext
      refine ⟨hl6, ?_⟩
      walk_at "mm"
      refine d_setcount G R5 hkm fun st6 R6 K6 => ?_
      have R6' : Rep (p.1.addCount k 1) (N' + 2) st6 := R6
      have hkm6 : k ∈ (p.1.addCount k 1).ids := hkm
      have hl7 := (K6.tmp (by walk_at "om" : N < N' + 2)).trans hl5
      have hl8 := (K6.tmp (k := N' + 1) (by walk_at "om")).trans hl6
      generalize hs6 : p.1.addCount k 1 = s6 at R6' hkm6
      walk_at "mm"
      by_cases hb : (s6.cell k).col = .black
      · have e1 : (!decide ((s6.cell k).col = .black)) = false := by simp [hb]
        have hb1 : S.blackOne p k = (s6, p.2) := by unfold S.blackOne; rw [hs6, if_pos hb]
        rw [hb1] at hnext
        walk_at "mm"
        refine ⟨Sub.upd rfl Sub.refl, ?_⟩
        show Rep (List.foldl S.blackOne (s', []) (ks.take (i + 1))).1 _ _ ∧ Keep _ _ _ ∧ _ = some (O.list (cl (ts1 ++ (List.foldl S.blackOne (s', []) (ks.take (i + 1))).2))) ∧ _
        rw [hnext]
        exact ⟨R6', K5.trans K6, hl7, hl8⟩
      · have e1 : (!decide ((s6.cell k).col = .black)) = true := by simp [hb]
        have hb1 : S.blackOne p k = (s6.setCol k .black, p.2 ++ [k]) := by unfold S.blackOne; rw [hs6, if_neg hb]
        rw [hb1] at hnext
        walk_at "mm"
        refine d_setcol G R6' hkm6 (i := .black) rfl fun st8 R8 K8 => ?_
        have R8' : Rep (s6.setCol k .black) (N' + 2) st8 := R8
        have hl9 := (K8.tmp (k := N) (by walk_at "om")).trans hl7
        walk_at "mm"
        refine ⟨_, hl9, by rw [cl_length, List.length_append]; walk_at "om", ?_⟩
        walk_at "mm"
        refine ⟨Sub.upd rfl Sub.refl, ?_⟩
        show Rep (List.foldl S.blackOne (s', []) (ks.take (i + 1))).1 _ _ ∧ Keep _ _ _ ∧ _ = some (O.list (cl (ts1 ++ (List.foldl S.blackOne (s', []) (ks.take (i + 1))).2))) ∧ _
        rw [hnext]
        refine ⟨R8'.tmpupd (by walk_at "om"), ((K5.trans K6).trans K8).trans (Keep.set_tmp (Nat.le_refl N)), ?_, St.get_ne ((K8.tmp (k := N' + 1) (by walk_at "om")).trans hl8)⟩
        rw [St.set_same]
        simp [cl]
    · rintro st5 ⟨R5, K5, hl5, hl6⟩
      refine ⟨hl6, ?_⟩
      have e : ks.take (Src.list (.tmp (N' + 1)) (cl ks)).items.length = ks := by simp [Src.items, cl]
      rw [e] at R5 hl5
      walk_at "mm"
      exact ⟨Sub.refl, j, hj, _, N' + 2, _, hI2, by walk_at "om", R5, K5, hl5⟩
theorem c_scan (G : Gd W) (R : Rep s N st) {I : Nat → S → List Nat → Prop} (SI : Scans I) {m0 : Nat} (h0 : I m0 s [c])
    (q : ∀ m' s' N' st', I m' s' [] → N ≤ N' → Rep s' N' st' → Keep N st st' → Q .none st') : CallOK W (n + 4) "scan" [.ref .heap, .ref (.cell c)] Q st := by
  refine fn_intro G.ok G.fns (mem_rec (i := 58) rfl (by kernel_rfl)) (ps := ["heap", "cell"]) (fun pm code doc ws h => by obtain ⟨a, b, rfl⟩ := len2 h; kernel_rfl) (by decide) (by kernel_rfl) rfl rfl rfl ?_
  intro env henv
  walk_at "mm"
  refine te_list G.ok (.tmp N) ?_
  walk_at "mm"
  refine ⟨R.tmp (Nat.le_refl N), ?_⟩
  walk_at "mm"
  refine tx_while0 (fun m => LpA (I m) (N + 1) N st (.tmp N) cl) m0 ⟨_, N + 1, [c], h0, Nat.lt_succ_self N, R.tmpset, Keep.set_tmp (Nat.le_refl N), St.set_same⟩ ?_
  rintro m st' ⟨s', N', ts', hI, hN, R', K', hl⟩
  obtain ⟨w, hz, ha, hts⟩ := SI.small _ _ _ hI
  walk_at "mm"
  refine op_truthl hl (by rw [cl_length]; walk_at "om") ?_
  rcases List.eq_nil_or_concat ts' with rfl | ⟨ts1, t, rfl⟩
  · walk_at "mm"
    exact q m s' N' st' hI (by walk_at "om") R' K'
  · have e0 : (!(cl (ts1.concat t)).isEmpty) = true := by simp [cl]
    refine if_t e0 ?_
    rw [List.concat_eq_append] at hI hl hz hts
    rw [cl_append] at hl
    simp only [List.length_append] at hz
    have htm : t ∈ s'.ids := hts t (by simp)
    walk_at "mm"
    refine ⟨_, _, _, rfl, hl, by rw [cl_length]; walk_at "om", ?_⟩
    have R2 : Rep s' N' (st'.set (.tmp N) (.list (cl ts1))) := R'.tmpupd hN
    have K2 : Keep N st (st'.set (.tmp N) (.list (cl ts1))) := K'.trans (Keep.set_tmp (Nat.le_refl N))
    have hl2 : (st'.set (.tmp N) (.list (cl ts1))) (.tmp N) = some (.list (cl ts1)) := St.set_same
    generalize (st'.set (.tmp N) (.list (cl ts1))) = st2 at R2 K2 hl2
    walk_at "mm"
    by_cases hg : (s'.cell t).col = .grey
    · have e1 : decide ((s'.cell t).col = .grey) = true := by simp [hg]
      walk_at "mm"
      by_cases hct : (s'.cell t).count > 0
      · have e2 : decide ((s'.cell t).count > 0) = true := by simpa using hct
        obtain ⟨J, b0, SJ, hJ, hend⟩ := SI.black _ _ _ _ hI hg hct
        walk_at "mm"
        refine c_scan_black G R2 htm SJ hJ fun b' s3 N3 st3 hJ3 hN3 R3 K3 => ?_
        obtain ⟨j, hj, hI3⟩ := hend _ _ hJ3
        walk_at "mm"
        exact ⟨Sub.upd rfl Sub.refl, j, hj, s3, N3, ts1, hI3, by walk_at "om", R3, K2.trans K3, (K3.tmp hN).trans hl2⟩
      · have e2 : decide ((s'.cell t).count > 0) = false := by simpa using hct
        obtain ⟨j, hj, hI2⟩ := SI.white _ _ _ _ hI hg hct
        walk_at "mm"
        refine d_setcol G R2 htm (i := .white) rfl fun st3 R3 K3 => ?_
        have hl3 := (K3.tmp hN).trans hl2
        have R3' : Rep (s'.setCol t .white) N' st3 := R3
        have w3 := w.setCol t .white
        have hk3 : (s'.setCol t .white).kids t = s'.kids t := S.setCol_kids
        have hkl : (s'.kids t).length ≤ 100000 := Nat.le_trans kids_len (by have := w.slots t htm; walk_at "om")
        have hal : ∀ k ∈ s'.kids t, k ∈ (s'.setCol t .white).ids := ha t htm
        walk_at "mm"
        refine c_children G R3' (w3.up (by decide)) htm (by rw [hk3]; exact hal) fun st4 R4 K4 hl4 => ?_
        rw [hk3] at hl4
        refine ⟨_, _, _, (K4.tmp hN).trans hl3, rfl, hl4, by simp only [cl_length]; walk_at "om", ?_⟩
        walk_at "mm"
        refine ⟨Sub.upd rfl Sub.refl, j, hj, _, N' + 2, _, hI2, by walk_at "om", R4.tmpupd (by walk_at "om"), ((K2.trans K3).trans K4).trans (Keep.set_tmp (Nat.le_refl N)), ?_⟩
        rw [St.set_same, cl_append]
    · have e1 : decide ((s'.cell t).col = .grey) = false := by simp [hg]
      obtain ⟨j, hj, hI2⟩ := SI.other _ _ _ _ hI hg
      walk_at "mm"
      exact ⟨Sub.upd rfl Sub.refl, j, hj, s', N', ts1, hI2, hN, R2, K2, hl2⟩
end
end
section
theorem nat_perm {ns : List Int} {fs : List Nat} (h : ns.Perm (fs.map fun (k : Nat) => (k : Int))) : ∃ ks : List Nat, ns = ks.map (fun (k : Nat) => (k : Int)) ∧ ks.Perm fs := by
  have e : (fs.map fun (k : Nat) => (k : Int)).map Int.toNat = fs := by simp [Function.comp_def]
  refine ⟨ns.map Int.toNat, ?_, ?_⟩
  · rw [List.map_map]
    have : ∀ n ∈ ns, ((fun (k : Nat) => (k : Int)) ∘ Int.toNat) n = n := fun n hn => by
      obtain ⟨k, _, rfl⟩ := List.mem_map.mp (h.mem_iff.mp hn)
      rfl
    conv => lhs; rw [← List.map_id ns]
    apply List.map_congr_left
    intro a ha; exact (this a ha).symm
  · have := h.map Int.toNat
    rwa [e] at this
theorem bufMap_int {fs : List Nat} : bufMap fs = (fs.map fun (k : Nat) => (k : Int)).map V.int := by unfold bufMap; rw [List.map_map]; rfl
section
variable {W : Wd} {n : Nat} {st : St} {Q : V → St → Prop} {x : Nat} {s : S} {N : Nat} {QU : Unit → St → Prop} {m : Nat} {c : Nat}
theorem c_gather (G : Gd W) (R : Rep s N st) {k0 : Nat} {cs : List Nat} (hk0 : k0 < N) (hcs : st (.tmp k0) = some (.list (cl cs))) (hcz : cs.length ≤ 100000) {I : Nat → S → List Nat → List Nat → Prop} (SI : Gathers I) {m0 : Nat} (h0 : I m0 s [] cs)
    (q : ∀ m' s' fs ns N' j st', I m' s' fs [] → ns.Perm fs → ns.Pairwise (· ≤ ·) → N ≤ j → j < N' → Rep s' N' st' → Keep N st st' → st' (.tmp j) = some (.list (bufMap ns)) → Q (.ref (.tmp j)) st') : CallOK W (n + 3) "gather" [.ref .heap, .ref (.tmp k0)] Q st := by
  refine fn_intro G.ok G.fns (mem_rec (i := 59) rfl (by kernel_rfl)) (ps := ["heap", "cells"]) (fun pm code doc ws h => by obtain ⟨a, b, rfl⟩ := len2 h; kernel_rfl) (by decide) (by kernel_rfl) rfl rfl rfl ?_
  intro env henv
  walk_at "mm"
  refine te_list G.ok (.tmp N) ?_
  walk_at "mm"
  refine ⟨R.tmp (Nat.le_refl N), ?_⟩
  have Ra : Rep s (N + 1) (st.set (.tmp N) (.list [])) := R.tmpset
  have Ka : Keep N st (st.set (.tmp N) (.list [])) := Keep.set_tmp (Nat.le_refl N)
  have hfa : (st.set (.tmp N) (.list [])) (.tmp N) = some (.list (bufMap [])) := St.set_same
  have hca : (st.set (.tmp N) (.list [])) (.tmp k0) = some (.list (cl cs)) := St.get_ne hcs
  generalize (st.set (.tmp N) (.list [])) = sta at Ra Ka hfa hca
  refine ts_cons (tx_name (.inl (kof henv rfl)) ?_)
  refine te_bfun (v := .type "list") G.ok (G.bi "list" (by decide +kernel)) (kof henv rfl) (by decide +kernel) ?_
  walk_at "mm"
  refine op_listl G.ok hca (Ra.tmp (Nat.le_refl _)) (by rw [cl_length]; walk_at "om") ?_
  have Kb : Keep N st (sta.set (.tmp (N + 1)) (.list (cl cs))) := Ka.trans (Keep.set_tmp (Nat.le_succ N))
  refine ts_cons (tx_while0 (fun m => LpD (I m) (N + 2) N st (.tmp (N + 1)) (.tmp N) cl bufMap) m0 ⟨_, N + 2, [], cs, h0, Nat.lt_succ_self _, Ra.tmpset, Kb, St.set_same, St.get_ne hfa⟩ ?_)
  rintro m st' ⟨s', N', fs, ts', hI, hN, R', K', hl, hf⟩
  obtain ⟨w, hz, ha, hts, hfz⟩ := SI.small _ _ _ _ hI
  walk_at "mm"
  refine op_truthl hl (by rw [cl_length]; walk_at "om") ?_
  rcases List.eq_nil_or_concat ts' with rfl | ⟨ts1, t, rfl⟩
  · refine if_f rfl ?_
    refine ts_cons (tx_return ?_)
    refine te_bfun (v := .builtin "sorted") G.ok (G.bi "sorted" (by decide +kernel)) (kof henv rfl) (by decide +kernel) ?_
    walk_at "mm"
    refine op_sortl (ns := fs.map fun (k : Nat) => (k : Int)) G.ok (by rw [hf, bufMap_int]) (R'.tmp (Nat.le_refl N')) (by rw [List.length_map]; exact hfz) fun ns hp hs => ?_
    obtain ⟨ks, rfl, hp2⟩ := nat_perm hp
    rw [← bufMap_int]
    refine q m s' fs ks (N' + 1) N' _ hI hp2 ?_ (by walk_at "om") (by walk_at "om") R'.tmpset (K'.trans (Keep.set_tmp (Nat.le_refl N'))) St.set_same
    refine (List.pairwise_map.mp hs).imp fun h => ?_
    exact Int.ofNat_le.mp h
  · have e0 : (!(cl (ts1.concat t)).isEmpty) = true := by simp [cl]
    refine if_t e0 ?_
    rw [List.concat_eq_append] at hI hl hz hts
    rw [cl_append] at hl
    simp only [List.length_append] at hz
    have htm : t ∈ s'.ids := hts t (by simp)
    walk_at "mm"
    refine ⟨_, _, _, rfl, hl, by rw [cl_length]; walk_at "om", ?_⟩
    have R2 : Rep s' N' (st'.set (.tmp (N + 1)) (.list (cl ts1))) := R'.tmpupd hN
    have K2 : Keep N st (st'.set (.tmp (N + 1)) (.list (cl ts1))) := K'.trans (Keep.set_tmp (Nat.le_succ N))
    have hl2 : (st'.set (.tmp (N + 1)) (.list (cl ts1))) (.tmp (N + 1)) = some (.list (cl ts1)) := St.set_same
    have hf2 : (st'.set (.tmp (N + 1)) (.list (cl ts1))) (.tmp N) = some (.list (bufMap fs)) := St.get_ne hf
    generalize (st'.set (.tmp (N + 1)) (.list (cl ts1))) = st2 at R2 K2 hl2 hf2
    walk_at "mm"
    by_cases hg : (s'.cell t).col = .white
    · have e1 : decide ((s'.cell t).col = .white) = true := by simp [hg]
      obtain ⟨j, hj, hI2⟩ := SI.white _ _ _ _ _ hI hg
      walk_at "mm"
      refine d_setcol G R2 htm (i := .black) rfl fun st3 R3 K3 => ?_
      have R3' : Rep (s'.setCol t .black) N' st3 := R3
      have hl3 := (K3.tmp (k := N + 1) hN).trans hl2
      have hf3 := (K3.tmp (k := N) (by walk_at "om")).trans hf2
      have htm3 : t ∈ (s'.setCol t .black).ids := htm
      walk_at "mm"
      refine ⟨_, hf3, by unfold bufMap; rw [List.length_map]; walk_at "om", ?_⟩
      rw [bufMap_snoc]
      have R4 : Rep (s'.setCol t .black) N' (st3.set (.tmp N) (.list (bufMap (fs ++ [t])))) := R3'.tmpupd (by walk_at "om")
      have K4 : Keep N st (st3.set (.tmp N) (.list (bufMap (fs ++ [t])))) := (K2.trans K3).trans (Keep.set_tmp (Nat.le_refl N))
      have hl4 : (st3.set (.tmp N) (.list (bufMap (fs ++ [t])))) (.tmp (N + 1)) = some (.list (cl ts1)) := St.get_ne hl3
      have hf4 : (st3.set (.tmp N) (.list (bufMap (fs ++ [t])))) (.tmp N) = some (.list (bufMap (fs ++ [t]))) := St.set_same
      generalize (st3.set (.tmp N) (.list (bufMap (fs ++ [t])))) = st4 at R4 K4 hl4 hf4
      have w3 := w.setCol t .black
      have hk3 : (s'.setCol t .black).kids t = s'.kids t := S.setCol_kids
      have hkl : (s'.kids t).length ≤ 100000 := Nat.le_trans kids_len (by have := w.slots t htm; walk_at "om")
      have hal : ∀ k ∈ s'.kids t, k ∈ (s'.setCol t .black).ids := ha t htm
      refine ts_cons (tx_for0 G.ok (.inl (kof henv rfl)) (ti_list G.ok ?_))
      walk_at "mm"
      refine c_children G R4 (w3.up (by decide)) htm (by rw [hk3]; exact hal) fun st5 R5 K5 hl5 => ?_
      rw [hk3] at hl5
      generalize s'.kids t = ks at hI2 hl5 hkl hal
      generalize hs3 : s'.setCol t .black = s3 at R5 w3 hI2 hal
      refine ⟨_, _, rfl, hl5, fun j st' => Rep (s3.adds (ks.take j) 1) (N' + 2) st' ∧ Keep N st st' ∧ st' (.tmp (N + 1)) = some (.list (cl (ts1 ++ ks.take j))) ∧ st' (.tmp (N' + 1)) = some (.list (cl ks)) ∧ st' (.tmp N) = some (.list (bufMap (fs ++ [t]))),
        ⟨R5, K4.trans K5, by rw [List.take_zero, List.append_nil]; exact (K5.tmp hN).trans hl4, hl5, (K5.tmp (k := N) (by walk_at "om")).trans hf4⟩, ?_, ?_⟩
      · rintro i st5 v ⟨R5, K5, hl5, hl6, hf6⟩ hv
        simp only [Src.items, cl, List.getElem?_map, Option.map_eq_some_iff] at hv
        obtain ⟨k, hi, rfl⟩ := hv
        have hkm : k ∈ (s3.adds (ks.take i) 1).ids := by rw [adds_ids]; exact hal k (List.mem_of_getElem? hi)
        refine ⟨hl6, ?_⟩
        walk_at "mm"
        refine d_setcount G R5 hkm fun st6 R6 K6 => ?_
        have R6' : Rep (s3.adds (ks.take (i + 1)) 1) (N' + 2) st6 := by
          rw [List.take_add_one, hi]
          show Rep (s3.adds (ks.take i ++ [k]) 1) (N' + 2) st6
          rw [adds_snoc]; exact R6
        have hl7 := (K6.tmp (by walk_at "om" : N + 1 < N' + 2)).trans hl5
        walk_at "mm"
        refine ⟨_, hl7, by rw [cl_length, List.length_append, List.length_take]; walk_at "om", ?_⟩
        walk_at "mm"
        refine ⟨Sub.upd rfl Sub.refl, R6'.tmpupd (by walk_at "om"), (K5.trans K6).trans (Keep.set_tmp (Nat.le_succ N)), ?_, St.get_ne ((K6.tmp (k := N' + 1) (by walk_at "om")).trans hl6), St.get_ne ((K6.tmp (k := N) (by walk_at "om")).trans hf6)⟩
        rw [St.set_same, List.take_add_one, hi]
        simp [cl]
      · rintro st5 ⟨R5, K5, hl5, hl6, hf6⟩
        refine ⟨hl6, ?_⟩
        have e : ks.take (Src.list (.tmp (N' + 1)) (cl ks)).items.length = ks := by simp [Src.items, cl]
        rw [e] at R5 hl5
        walk_at "mm"
        exact ⟨Sub.upd rfl Sub.refl, j, hj, _, N' + 2, _, _, hI2, by walk_at "om", R5, K5, hl5, hf6⟩
    · have e1 : decide ((s'.cell t).col = .white) = false := by simp [hg]
      obtain ⟨j, hj, hI2⟩ := SI.other _ _ _ _ _ hI hg
      walk_at "mm"
      exact ⟨Sub.upd rfl Sub.refl, j, hj, s', N', fs, ts1, hI2, hN, R2, K2, hl2, hf2⟩
end
end
section
/-! ## sums over the values held -/
noncomputable def lsum (vs : List Val) (g : Val → Nat) : Nat := (vs.map g).sum
noncomputable def vsum (es : List (Int × Val)) (g : Val → Nat) : Nat := lsum (es.map (·.2)) g
noncomputable def S.sum (s : S) (g : Val → Nat) : Nat := lsum s.allHeld g
theorem lsum_append {a b : List Val} {g : Val → Nat} : lsum (a ++ b) g = lsum a g + lsum b g := by simp [lsum]
theorem lsum_nil {g : Val → Nat} : lsum [] g = 0 := rfl
theorem lsum_cons {a : Val} {b : List Val} {g : Val → Nat} : lsum (a :: b) g = g a + lsum b g := by simp [lsum]
theorem lsum_flat {l : List Nat} {h : Nat → List Val} {g : Val → Nat} : lsum (l.flatMap h) g = (l.map fun n => lsum (h n) g).sum := by
  induction l with
  | nil => rfl
  | cons a r ih => rw [List.flatMap_cons, lsum_append, ih]; simp
theorem S.sum_eq {s : S} {g : Val → Nat} : s.sum g = vsum s.vars g + (s.ids.map fun n => vsum (s.cell n).slots g).sum + vsum (s.tab 0) g + vsum (s.tab 1) g := by
  unfold S.sum S.allHeld; rw [lsum_append, lsum_append, lsum_append, lsum_flat]; rfl
theorem vsum_cons {e : Int × Val} {r : List (Int × Val)} {g : Val → Nat} : vsum (e :: r) g = g e.2 + vsum r g := by simp [vsum, lsum]
theorem vsum_nil {g : Val → Nat} : vsum [] g = 0 := rfl
theorem vsum_append {a b : List (Int × Val)} {g : Val → Nat} : vsum (a ++ b) g = vsum a g + vsum b g := by unfold vsum; rw [List.map_append, lsum_append]
theorem dget_cons {α : Type} {e : Int × α} {r : List (Int × α)} {i : Int} : dget (e :: r) i = if e.1 = i then some e.2 else dget r i := by
  unfold dget; rw [List.find?_cons]
  by_cases q : e.1 = i
  · simp [q]
  · simp [q]
theorem dget_nil {α : Type} {i : Int} : dget ([] : List (Int × α)) i = none := rfl
theorem ddel_cons {α : Type} {e : Int × α} {r : List (Int × α)} {i : Int} : ddel (e :: r) i = if e.1 = i then ddel r i else e :: ddel r i := by
  unfold ddel; rw [List.filter_cons]
  by_cases q : e.1 = i <;> simp [q]
theorem dput_ne {α : Type} {e : Int × α} {r : List (Int × α)} {i : Int} {x : α} (q : ¬ e.1 = i) : dput (e :: r) i x = e :: dput r i x := by
  unfold dput; simp only [List.any_cons, decide_eq_false q, Bool.false_or]
  split <;> simp [q]
theorem dput_absent {α : Type} {es : List (Int × α)} {i : Int} {x : α} (h : dget es i = none) : dput es i x = es ++ [(i, x)] := by
  have : es.any (fun e => decide (e.1 = i)) = false := by
    rw [List.any_eq_false]
    unfold dget at h
    simp only [Option.map_eq_none_iff, List.find?_eq_none] at h
    exact h
  unfold dput; rw [this]; rfl
theorem dget_none {α : Type} {es : List (Int × α)} {i : Int} (h : i ∉ es.map (·.1)) : dget es i = none := by
  unfold dget
  simp only [Option.map_eq_none_iff, List.find?_eq_none, decide_eq_true_eq]
  exact fun e he q => h (List.mem_map.mpr ⟨e, he, q⟩)
theorem dput_eq {α : Type} {e : Int × α} {r : List (Int × α)} {i : Int} {x : α} (q : e.1 = i) (h : i ∉ r.map (·.1)) : dput (e :: r) i x = (i, x) :: r := by
  have hr : r.map (fun e => if e.1 = i then (e.1, x) else e) = r := by
    conv => rhs; rw [← List.map_id r]
    apply List.map_congr_left
    intro a ha
    have : ¬ a.1 = i := fun z => h (List.mem_map.mpr ⟨a, ha, z⟩)
    simp [this]
  have ha : (e :: r).any (fun e => decide (e.1 = i)) = true := by simp [q]
  unfold dput; rw [ha, if_pos rfl, List.map_cons, if_pos q, hr, q]
theorem dget_some {α : Type} {es : List (Int × α)} {i : Int} {v : α} (h : dget es i = some v) : (i, v) ∈ es := by
  induction es with
  | nil => cases h
  | cons e r ih =>
    rw [dget_cons] at h
    split at h
    · rename_i q; cases h; subst q; exact List.mem_cons_self
    · exact List.mem_cons_of_mem _ (ih h)
theorem ddel_absent {α : Type} {es : List (Int × α)} {i : Int} (h : i ∉ es.map (·.1)) : ddel es i = es := ddel_none (dget_none h)
theorem vsum_dput {es : List (Int × Val)} {i : Int} {x : Val} {g : Val → Nat} (hn : (es.map (·.1)).Nodup) : vsum (dput es i x) g + lsum (dget es i).toList g = vsum es g + g x := by
  induction es with
  | nil => simp [dput, dget, vsum, lsum]
  | cons e r ih =>
    rw [List.map_cons, List.nodup_cons] at hn
    by_cases q : e.1 = i
    · have h := hn.1
      rw [q] at h
      rw [dput_eq q h, dget_cons, if_pos q, vsum_cons, vsum_cons]
      simp [lsum]; walk_at "om"
    · rw [dput_ne q, dget_cons, if_neg q, vsum_cons, vsum_cons]
      have := ih hn.2; walk_at "om"
theorem vsum_ddel {es : List (Int × Val)} {i : Int} {g : Val → Nat} (hn : (es.map (·.1)).Nodup) : vsum (ddel es i) g + lsum (dget es i).toList g = vsum es g := by
  induction es with
  | nil => simp [ddel, dget, vsum, lsum]
  | cons e r ih =>
    rw [List.map_cons, List.nodup_cons] at hn
    by_cases q : e.1 = i
    · have h := hn.1
      rw [q] at h
      rw [ddel_cons, if_pos q, dget_cons, if_pos q, vsum_cons, ddel_absent h]
      simp [lsum]; walk_at "om"
    · rw [ddel_cons, if_neg q, dget_cons, if_neg q, vsum_cons, vsum_cons]
      have := ih hn.2; walk_at "om"
theorem mem_dput {α : Type} {es : List (Int × α)} {i : Int} {x : α} {e : Int × α} (h : e ∈ dput es i x) : e = (i, x) ∨ (e ∈ es ∧ e.1 ≠ i) := by
  unfold dput at h
  split at h
  · obtain ⟨a, ha, rfl⟩ := List.mem_map.mp h
    split
    · rename_i q; left; rw [q]
    · rename_i q; exact .inr ⟨ha, q⟩
  · rename_i hn
    rcases List.mem_append.mp h with h | h
    · exact .inr ⟨h, fun q => hn (List.any_eq_true.mpr ⟨e, h, by simpa using q⟩)⟩
    · exact .inl (List.mem_singleton.mp h)
theorem mem_ddel {α : Type} {es : List (Int × α)} {i : Int} {e : Int × α} : e ∈ ddel es i ↔ e ∈ es ∧ e.1 ≠ i := by
  unfold ddel; rw [List.mem_filter]; simp
theorem mem_dput_of {α : Type} {es : List (Int × α)} {i : Int} {x : α} {e : Int × α} (h : e ∈ es) (q : e.1 ≠ i) : e ∈ dput es i x := by
  unfold dput
  split
  · exact List.mem_map.mpr ⟨e, h, if_neg q⟩
  · exact List.mem_append_left _ h
theorem mem_dput_self {α : Type} {es : List (Int × α)} {i : Int} {x : α} : (i, x) ∈ dput es i x := dget_some (by rw [dget_dput, if_pos rfl])
theorem sum_at {f f' : Nat → Nat} {c : Nat} : ∀ {l : List Nat}, l.Nodup → c ∈ l → (∀ n, n ≠ c → f' n = f n) → (l.map f').sum + f c = (l.map f).sum + f' c
  | [], _, h, _ => by cases h
  | a :: r, hn, hc, h => by
    rw [List.nodup_cons] at hn
    simp only [List.map_cons, List.sum_cons]
    by_cases q : a = c
    · subst q
      have : r.map f' = r.map f := List.map_congr_left fun n hm => h n fun z => hn.1 (z ▸ hm)
      rw [this]; walk_at "om"
    · have := sum_at hn.2 ((List.mem_cons.mp hc).resolve_left fun z => q z.symm) h
      rw [h a q]; walk_at "om"
theorem sum_del {f : Nat → Nat} {c : Nat} : ∀ {l : List Nat}, l.Nodup → c ∈ l → ((l.filter (· ≠ c)).map f).sum + f c = (l.map f).sum
  | [], _, h => by cases h
  | a :: r, hn, hc => by
    rw [List.nodup_cons] at hn
    simp only [List.map_cons, List.sum_cons]
    by_cases q : a = c
    · subst q
      have : r.filter (· ≠ a) = r := List.filter_eq_self.mpr fun n hm => by
        have : n ≠ a := fun z => hn.1 (z ▸ hm)
        simpa using this
      rw [List.filter_cons_of_neg (by simp), this]; walk_at "om"
    · rw [List.filter_cons_of_pos (by simpa using q)]
      have := sum_del (f := f) hn.2 ((List.mem_cons.mp hc).resolve_left fun z => q z.symm)
      simp only [List.map_cons, List.sum_cons]; walk_at "om"
theorem S.put_sum {s : S} {p : Pl} {es : List (Int × Val)} {g : Val → Nat} (hp : p.ok s) (nd : s.ids.Nodup) : (s.put p es).sum g + vsum (s.at p) g = s.sum g + vsum es g := by
  rw [S.sum_eq, S.sum_eq]
  cases p with
  | vars =>
    show vsum es g + (s.ids.map fun n => vsum (s.cell n).slots g).sum + vsum (s.tab 0) g + vsum (s.tab 1) g + vsum s.vars g = _
    walk_at "om"
  | slots c =>
    have h := sum_at (f := fun n => vsum (s.cell n).slots g) (f' := fun n => vsum ((s.put (.slots c) es).cell n).slots g) nd hp fun n hn => by
      show vsum ((s.put (.slots c) es).cell n).slots g = _; rw [S.put_slots_ne hn]
    have e : ((s.put (.slots c) es).cell c).slots = es := S.put_slots_same
    simp only [e] at h
    show vsum s.vars g + (s.ids.map fun n => vsum ((s.put (.slots c) es).cell n).slots g).sum + vsum (s.tab 0) g + vsum (s.tab 1) g + vsum (s.cell c).slots g = _
    walk_at "om"
  | ent i =>
    have hi : i < 2 := hp
    have h0 : (s.put (.ent i) es).tab 0 = if 0 = i then es else s.tab 0 := rfl
    have h1 : (s.put (.ent i) es).tab 1 = if 1 = i then es else s.tab 1 := rfl
    rw [h0, h1]
    show vsum s.vars g + (s.ids.map fun n => vsum (s.cell n).slots g).sum + _ + _ + vsum (s.tab i) g = _
    have : i = 0 ∨ i = 1 := by walk_at "om"
    rcases this with rfl | rfl
    · simp; walk_at "om"
    · simp; walk_at "om"
theorem S.mem_allHeld {s : S} {v : Val} : v ∈ s.allHeld ↔ (∃ e ∈ s.vars, e.2 = v) ∨ (∃ n ∈ s.ids, ∃ e ∈ (s.cell n).slots, e.2 = v) ∨ (∃ i, i < 2 ∧ ∃ e ∈ s.tab i, e.2 = v) := by
  unfold S.allHeld
  simp only [List.mem_append, List.mem_map, List.mem_flatMap]
  constructor
  · rintro (((h | h) | h) | h)
    · exact .inl h
    · exact .inr (.inl h)
    · exact .inr (.inr ⟨0, by decide, h⟩)
    · exact .inr (.inr ⟨1, by decide, h⟩)
  · rintro (h | h | ⟨i, hi, h⟩)
    · exact .inl (.inl (.inl h))
    · exact .inl (.inl (.inr h))
    · have : i = 0 ∨ i = 1 := by walk_at "om"
      rcases this with rfl | rfl
      · exact .inl (.inr h)
      · exact .inr h
noncomputable def one (n : Nat) : Val → Nat := fun u => if u = .cell n then 1 else 0
theorem one_same {n : Nat} : one n (.cell n) = 1 := if_pos rfl
theorem one_ne {n : Nat} {u : Val} (h : u ≠ .cell n) : one n u = 0 := if_neg h
theorem lsum_one {vs : List Val} {n : Nat} : lsum vs (one n) = vs.count (.cell n) := by
  induction vs with
  | nil => rfl
  | cons a r ih =>
    rw [lsum_cons, ih, List.count_cons]
    unfold one
    by_cases q : a = .cell n
    · simp [q]; walk_at "om"
    · simp [q]
theorem lsum_pos {vs : List Val} {n : Nat} : 0 < lsum vs (one n) ↔ Val.cell n ∈ vs := by rw [lsum_one, List.count_pos_iff]
end
section
/-! ## the invariant -/
theorem len_lt : ∀ (b : Nat) (l : List Nat), l.Nodup → (∀ x ∈ l, x < b) → l.length ≤ b
  | 0, l, _, h => by
    cases l with
    | nil => simp
    | cons a r => exact absurd (h a List.mem_cons_self) (Nat.not_lt_zero a)
  | b + 1, l, hn, h => by
    have h1 := len_lt b (l.erase b) (hn.erase b) fun x hx => by
      have hx' := (hn.mem_erase_iff).mp hx
      have := h x hx'.2; have := hx'.1; walk_at "om"
    by_cases q : b ∈ l
    · have := List.length_erase_of_mem q; walk_at "om"
    · rw [List.erase_of_not_mem q] at h1; walk_at "om"
theorem len_keys {α : Type} {b : Nat} {es : List (Int × α)} (hn : (es.map (·.1)).Nodup) (h : ∀ e ∈ es, 0 ≤ e.1 ∧ e.1 < b) : es.length ≤ b := by
  have h2 : ((es.map (·.1)).map Int.toNat).Nodup := by
    unfold List.Nodup at hn ⊢
    rw [List.pairwise_map]
    refine (List.Pairwise.and_mem.mp hn).imp fun {a b} hab => ?_
    obtain ⟨ha, hb, hne⟩ := hab
    obtain ⟨x, hx, rfl⟩ := List.mem_map.mp ha
    obtain ⟨y, hy, rfl⟩ := List.mem_map.mp hb
    have := h x hx; have := h y hy
    walk_at "om"
  have := len_lt b _ h2 fun x hx => by
    rw [List.map_map] at hx
    obtain ⟨e, he, rfl⟩ := List.mem_map.mp hx
    have := h e he
    simp only [Function.comp]; walk_at "om"
  simpa using this
noncomputable def Pl.key (s : S) : Pl → Int → Prop | .vars, i => 0 ≤ i ∧ i < 4 | .slots _, i => 0 ≤ i ∧ i < 2 | .ent _, i => ∃ n ∈ s.ids, i = (n : Nat)
noncomputable def S.plain (s : S) (v : Val) : Prop := ∀ k, v = .cell k → (s.cell k).sort ≠ .rf
structure Ok (s : S) (f : Nat → Int) : Prop where
  nodup : s.ids.Nodup
  pos : ∀ n ∈ s.ids, n ≠ 0 ∧ n ≤ s.last
  vnd : (s.vars.map (·.1)).Nodup
  tnd : ∀ i, i < 2 → ((s.tab i).map (·.1)).Nodup
  snd : ∀ n ∈ s.ids, ((s.cell n).slots.map (·.1)).Nodup
  vkey : ∀ e ∈ s.vars, 0 ≤ e.1 ∧ e.1 < 4
  skey : ∀ n ∈ s.ids, ∀ e ∈ (s.cell n).slots, 0 ≤ e.1 ∧ e.1 < 2
  tkey : ∀ i, i < 2 → ∀ e ∈ s.tab i, ∃ n ∈ s.ids, e.1 = (n : Nat)
  alive : ∀ k, .cell k ∈ s.allHeld → k ∈ s.ids
  cnt : ∀ n ∈ s.ids, (s.cell n).count = (s.sum (one n) : Int) + f n
  rf : ∀ r ∈ s.ids, (s.cell r).sort = .rf → ∃ v, (s.cell r).slots = [(0, v)] ∧ s.plain v
  bnd : s.buffer.Nodup
  bmem : ∀ n, n ∈ s.buffer ↔ n ∈ s.ids ∧ (s.cell n).buf = true
  col : ∀ n ∈ s.ids, (s.cell n).col ≠ .grey ∧ (s.cell n).col ≠ .white
  log : s.logn + s.ids.length ≤ 2 * s.last
  frd : s.freed + s.ids.length = s.last
section
variable {s : S} {f f' : Nat → Int}
theorem Ok.nd (h : Ok s f) {p : Pl} (hp : p.ok s) : ((s.at p).map (·.1)).Nodup := by
  cases p with
  | vars => exact h.vnd
  | slots n => exact h.snd n hp
  | ent i => exact h.tnd i hp
theorem Ok.wf (h : Ok s f) (hl : s.last ≤ 60) : Wf 120 s where
  ref := fun n hn hs => by
    obtain ⟨v, e, _⟩ := h.rf n hn hs
    exact ⟨v, by rw [e]; rfl⟩
  nd := h.snd
  ids := by have := h.log; walk_at "om"
  vars := Nat.le_trans (len_keys (b := 4) h.vnd h.vkey) (by decide)
  slots := fun n hn => Nat.le_trans (len_keys (b := 2) (h.snd n hn) (h.skey n hn)) (by decide)
  tab := fun i hi => Nat.le_trans (len_keys (b := 61) (h.tnd i hi) fun e he => by
    obtain ⟨n, hn, q⟩ := h.tkey i hi e he
    have := (h.pos n hn).2; walk_at "om") (by decide)
  buf := Nat.le_trans (len_lt 61 _ h.bnd fun x hx => by have := (h.pos x ((h.bmem x).mp hx).1).2; walk_at "om") (by decide)
  log := by have := h.log; walk_at "om"
  le := fun n hn => (h.pos n hn).2
theorem Ok.ndd (h : Ok s f) : Nd s := ⟨h.vnd, h.tnd⟩
theorem Ok.held (h : Ok s f) {p : Pl} (hp : p.ok s) {i : Int} {v : Val} (hv : dget (s.at p) i = some v) : v ∈ s.allHeld := by
  have hm := dget_some hv
  rw [S.mem_allHeld]
  cases p with
  | vars => exact .inl ⟨_, hm, rfl⟩
  | slots n => exact .inr (.inl ⟨n, hp, _, hm, rfl⟩)
  | ent i => exact .inr (.inr ⟨i, hp, _, hm, rfl⟩)
/-- the cells' other marks are changed -/
theorem Ok.recell (h : Ok s f) (cell' : Nat → Cel) (bf : List Nat) (hs : ∀ n, (cell' n).sort = (s.cell n).sort) (hl : ∀ n, (cell' n).slots = (s.cell n).slots)
    (hc : ∀ n ∈ s.ids, (cell' n).col ≠ .grey ∧ (cell' n).col ≠ .white) (hcnt : ∀ n ∈ s.ids, (cell' n).count - f' n = (s.cell n).count - f n) (hb1 : bf.Nodup) (hb2 : ∀ n, n ∈ bf ↔ n ∈ s.ids ∧ (cell' n).buf = true) :
    Ok { s with cell := cell', buffer := bf } f' := by
  have hah : ({ s with cell := cell', buffer := bf } : S).allHeld = s.allHeld := by
    show s.vars.map (·.2) ++ s.ids.flatMap (fun n => (cell' n).slots.map (·.2)) ++ (s.tab 0).map (·.2) ++ (s.tab 1).map (·.2) = _
    simp only [hl]; rfl
  have hsum : ∀ g, ({ s with cell := cell', buffer := bf } : S).sum g = s.sum g := fun g => by unfold S.sum; rw [hah]
  refine ⟨h.nodup, h.pos, h.vnd, h.tnd, fun n hn => by rw [hl]; exact h.snd n hn, h.vkey, fun n hn => by rw [hl]; exact h.skey n hn, h.tkey, by rw [hah]; exact h.alive, fun n hn => ?_, fun r hr hrf => ?_, hb1, hb2, hc, h.log, h.frd⟩
  · have := hcnt n hn; have := h.cnt n hn
    rw [hsum]; show (cell' n).count = _; walk_at "om"
  · rw [hs] at hrf; rw [hl]
    obtain ⟨v, e, q⟩ := h.rf r hr hrf
    exact ⟨v, e, fun k hk => by show (cell' k).sort ≠ _; rw [hs]; exact q k hk⟩
theorem Ok.addCount (h : Ok s f) (m : Nat) (d : Int) (hf : ∀ n ∈ s.ids, f' n = f n + (if n = m then d else 0)) : Ok (s.addCount m d) f' := by
  have key : ∀ n, (s.addCount m d).cell n = if n = m then { s.cell m with count := (s.cell m).count + d } else s.cell n := fun n => rfl
  refine h.recell (s.addCount m d).cell s.buffer (fun n => ?_) (fun n => ?_) (fun n hn => ?_) (fun n hn => ?_) h.bnd fun n => ?_
  all_goals rw [key]
  · split <;> simp_all
  · split <;> simp_all
  · split
    · rename_i q; subst q; exact h.col n hn
    · exact h.col n hn
  · have := hf n hn
    split
    · rename_i q; subst q; simp at this ⊢; walk_at "om"
    · rename_i q; rw [if_neg q] at this; walk_at "om"
  · rw [h.bmem n]
    split
    · rename_i q; subst q; rfl
    · rfl
theorem Ok.congr (h : Ok s f) (hf : ∀ n ∈ s.ids, f' n = f n) : Ok s f' := by
  have := h.recell (f' := f') s.cell s.buffer (fun _ => rfl) (fun _ => rfl) h.col (fun n hn => by have := hf n hn; walk_at "om") h.bnd h.bmem
  exact this
theorem Ok.gain (h : Ok s f) (v : Val) (hv : ∀ k, v = .cell k → k ∈ s.ids) : Ok (s.gain v) fun n => f n + (one n v : Nat) := by
  unfold S.gain
  cases v with
  | int i => exact h.congr fun n _ => by rw [one_ne (by simp)]; simp
  | cell k =>
    have hk := hv k rfl
    have : s.cellOf (.cell k) = some k := if_pos hk
    rw [this]
    refine h.addCount k 1 fun n _ => ?_
    by_cases q : n = k
    · subst q; rw [one_same, if_pos rfl]; rfl
    · rw [one_ne (by simpa using fun z => q z.symm), if_neg q]; rfl
theorem Ok.put (h : Ok s f) {p : Pl} (hp : p.ok s) {es : List (Int × Val)} (hnd : (es.map (·.1)).Nodup) (hkey : ∀ e ∈ es, p.key s e.1) (hal : ∀ e ∈ es, ∀ k, e.2 = .cell k → k ∈ s.ids)
    (hrf : ∀ c, p = .slots c → (s.cell c).sort = .rf → ∃ v, es = [(0, v)] ∧ s.plain v) (hf : ∀ n ∈ s.ids, f' n + (vsum es (one n) : Nat) = f n + (vsum (s.at p) (one n) : Nat)) : Ok (s.put p es) f' := by
  have hcnt : ∀ n ∈ s.ids, (s.cell n).count = ((s.put p es).sum (one n) : Int) + f' n := fun n hn => by
    have := S.put_sum (es := es) (g := one n) hp h.nodup
    have := hf n hn
    have := h.cnt n hn
    walk_at "om"
  have halive : ∀ k, .cell k ∈ (s.put p es).allHeld → k ∈ s.ids := fun k hk => by
    rw [S.mem_allHeld] at hk
    cases p with
    | vars =>
      rcases hk with ⟨e, he, q⟩ | hk | hk
      · exact hal e he k q
      · exact h.alive k (S.mem_allHeld.mpr (.inr (.inl hk)))
      · exact h.alive k (S.mem_allHeld.mpr (.inr (.inr hk)))
    | slots c =>
      rcases hk with hk | ⟨n, hn, e, he, q⟩ | hk
      · exact h.alive k (S.mem_allHeld.mpr (.inl hk))
      · by_cases z : n = c
        · subst z; rw [S.put_slots_same] at he; exact hal e he k q
        · rw [S.put_slots_ne z] at he; exact h.alive k (S.mem_allHeld.mpr (.inr (.inl ⟨n, hn, e, he, q⟩)))
      · exact h.alive k (S.mem_allHeld.mpr (.inr (.inr hk)))
    | ent i =>
      rcases hk with hk | hk | ⟨j, hj, e, he, q⟩
      · exact h.alive k (S.mem_allHeld.mpr (.inl hk))
      · exact h.alive k (S.mem_allHeld.mpr (.inr (.inl hk)))
      · have he : e ∈ (if j = i then es else s.tab j) := he
        split at he
        · exact hal e he k q
        · exact h.alive k (S.mem_allHeld.mpr (.inr (.inr ⟨j, hj, e, he, q⟩)))
  cases p with
  | vars => exact { h with vnd := hnd, vkey := hkey, alive := halive, cnt := hcnt }
  | ent i =>
    refine { h with alive := halive, cnt := hcnt, tnd := fun j hj => ?_, tkey := fun j hj e he => ?_ }
    · show ((if j = i then es else s.tab j).map (·.1)).Nodup
      split
      · exact hnd
      · exact h.tnd j hj
    · have he : e ∈ (if j = i then es else s.tab j) := he
      split at he
      · exact hkey e he
      · exact h.tkey j hj e he
  | slots c =>
    have key : ∀ n, (s.put (.slots c) es).cell n = if n = c then { s.cell c with slots := es } else s.cell n := fun n => rfl
    have hsort : ∀ n, ((s.put (.slots c) es).cell n).sort = (s.cell n).sort := fun n => by
      rw [key]; split <;> simp_all
    refine { h with alive := halive, cnt := fun n hn => ?_, snd := fun n hn => ?_, skey := fun n hn => ?_, rf := fun r hr hs => ?_, bmem := fun n => ?_, col := fun n hn => ?_ }
    · rw [key]; split
      · exact hnd
      · exact h.snd n hn
    · rw [key]; split
      · exact hkey
      · exact h.skey n hn
    · rw [← hcnt n hn, key]
      split
      · rename_i q; subst q; rfl
      · rfl
    · rw [hsort] at hs
      have hpl : ∀ v, s.plain v → (s.put (.slots c) es).plain v := fun v hv k hk => by rw [hsort]; exact hv k hk
      rw [key]; split
      · rename_i q; subst q
        obtain ⟨v, e, q⟩ := hrf r rfl hs
        exact ⟨v, e, hpl v q⟩
      · obtain ⟨v, e, q⟩ := h.rf r hr hs
        exact ⟨v, e, hpl v q⟩
    · show n ∈ s.buffer ↔ n ∈ s.ids ∧ _
      rw [h.bmem n, key]; split
      · rename_i q; subst q; rfl
      · rfl
    · rw [key]; split
      · rename_i q; subst q; exact h.col n hn
      · exact h.col n hn
theorem Ok.dput (h : Ok s f) {p : Pl} (hp : p.ok s) {i : Int} {v : Val} (hi : p.key s i) (hv : ∀ k, v = .cell k → k ∈ s.ids) (hrf : ∀ c, p = .slots c → (s.cell c).sort = .rf → i = 0 ∧ s.plain v) :
    Ok (s.put p (Mine.Internal.dput (s.at p) i v)) fun n => f n - (one n v : Nat) + (lsum (dget (s.at p) i).toList (one n) : Nat) := by
  refine h.put hp (dput_nodup (h.nd hp)) (fun e he => ?_) (fun e he k hk => ?_) (fun c hc hs => ?_) fun n hn => ?_
  · rcases mem_dput he with rfl | ⟨he, _⟩
    · exact hi
    · cases p with
      | vars => exact h.vkey e he
      | slots c => exact h.skey c hp e he
      | ent j => exact h.tkey j hp e he
  · rcases mem_dput he with rfl | ⟨he, _⟩
    · exact hv k hk
    · refine h.alive k (S.mem_allHeld.mpr ?_)
      cases p with
      | vars => exact .inl ⟨e, he, hk⟩
      | slots c => exact .inr (.inl ⟨c, hp, e, he, hk⟩)
      | ent j => exact .inr (.inr ⟨j, hp, e, he, hk⟩)
  · subst hc
    obtain ⟨u, hu, _⟩ := h.rf c hp hs
    obtain ⟨rfl, hpl⟩ := hrf c rfl hs
    refine ⟨v, ?_, hpl⟩
    show Mine.Internal.dput (s.cell c).slots 0 v = _
    rw [hu]; rfl
  · have := vsum_dput (i := i) (x := v) (g := one n) (h.nd hp)
    walk_at "om"
theorem Ok.ddel (h : Ok s f) {p : Pl} (hp : p.ok s) {i : Int} (hrf : ∀ c, p = .slots c → (s.cell c).sort ≠ .rf) :
    Ok (s.put p (Mine.Internal.ddel (s.at p) i)) fun n => f n + (lsum (dget (s.at p) i).toList (one n) : Nat) := by
  refine h.put hp (ddel_nodup (h.nd hp)) (fun e he => ?_) (fun e he k hk => ?_) (fun c hc hs => absurd hs (hrf c hc)) fun n hn => ?_
  · have he := (mem_ddel.mp he).1
    cases p with
    | vars => exact h.vkey e he
    | slots c => exact h.skey c hp e he
    | ent j => exact h.tkey j hp e he
  · have he := (mem_ddel.mp he).1
    refine h.alive k (S.mem_allHeld.mpr ?_)
    cases p with
    | vars => exact .inl ⟨e, he, hk⟩
    | slots c => exact .inr (.inl ⟨c, hp, e, he, hk⟩)
    | ent j => exact .inr (.inr ⟨j, hp, e, he, hk⟩)
  · have := vsum_ddel (i := i) (g := one n) (h.nd hp)
    walk_at "om"
end
end
section
section
variable {s s' : S} {f f' : Nat → Int}
/-- a cell added -/
theorem Ok.addCell (h : Ok s f) (hids : s'.ids = s.ids ++ [s.last + 1]) (hcell : ∀ n, n ≠ s.last + 1 → s'.cell n = s.cell n) (hv : s'.vars = s.vars) (ht : s'.tab = s.tab) (hl : s'.last = s.last + 1) (hb : s'.buffer = s.buffer) (hfr : s'.freed = s.freed) (hlog : s'.logn ≤ s.logn + 1)
    (hnd : ((s'.cell (s.last + 1)).slots.map (·.1)).Nodup) (hkey : ∀ e ∈ (s'.cell (s.last + 1)).slots, 0 ≤ e.1 ∧ e.1 < 2) (hal : ∀ e ∈ (s'.cell (s.last + 1)).slots, ∀ k, e.2 = .cell k → k ∈ s.ids)
    (hrf : (s'.cell (s.last + 1)).sort = .rf → ∃ v, (s'.cell (s.last + 1)).slots = [(0, v)] ∧ s.plain v) (hbf : (s'.cell (s.last + 1)).buf = false) (hcol : (s'.cell (s.last + 1)).col = .black)
    (hc : (s'.cell (s.last + 1)).count = f' (s.last + 1)) (hf : ∀ n ∈ s.ids, f' n + (vsum (s'.cell (s.last + 1)).slots (one n) : Nat) = f n) : Ok s' f' := by
  have hni : s.last + 1 ∉ s.ids := fun q => by have := (h.pos _ q).2; walk_at "om"
  have hne : ∀ n ∈ s.ids, n ≠ s.last + 1 := fun n hn q => hni (q ▸ hn)
  have hmem : ∀ n, n ∈ s'.ids ↔ n ∈ s.ids ∨ n = s.last + 1 := fun n => by rw [hids, List.mem_append, List.mem_singleton]
  have hsum : ∀ g, s'.sum g = s.sum g + vsum (s'.cell (s.last + 1)).slots g := fun g => by
    rw [S.sum_eq, S.sum_eq, hv, ht, hids, List.map_append, List.sum_append]
    have : s.ids.map (fun n => vsum (s'.cell n).slots g) = s.ids.map fun n => vsum (s.cell n).slots g := List.map_congr_left fun n hn => by rw [hcell n (hne n hn)]
    rw [this]; simp; walk_at "om"
  have hall : ∀ k, .cell k ∈ s'.allHeld → k ∈ s.ids := fun k hk => by
    rw [S.mem_allHeld, hv, ht] at hk
    rcases hk with hk | ⟨n, hn, e, he, q⟩ | hk
    · exact h.alive k (S.mem_allHeld.mpr (.inl hk))
    · rcases (hmem n).mp hn with hn | rfl
      · rw [hcell n (hne n hn)] at he; exact h.alive k (S.mem_allHeld.mpr (.inr (.inl ⟨n, hn, e, he, q⟩)))
      · exact hal e he k q
    · exact h.alive k (S.mem_allHeld.mpr (.inr (.inr hk)))
  have hpl : ∀ v, (∀ k, v = .cell k → k ∈ s.ids) → s.plain v → s'.plain v := fun v hv hp k hk => by rw [hcell k (hne k (hv k hk))]; exact hp k hk
  refine ⟨?_, fun n hn => ?_, by rw [hv]; exact h.vnd, by rw [ht]; exact h.tnd, fun n hn => ?_, by rw [hv]; exact h.vkey, fun n hn => ?_, fun i hi e he => ?_, fun k hk => (hmem k).mpr (.inl (hall k hk)), fun n hn => ?_, fun r hr hs => ?_, by rw [hb]; exact h.bnd, fun n => ?_, fun n hn => ?_, ?_, ?_⟩
  · rw [hids]; exact List.nodup_append.mpr ⟨h.nodup, by simp, fun a ha b hb => by rw [List.mem_singleton.mp hb]; exact hne a ha⟩
  · rw [hl]
    rcases (hmem n).mp hn with hn | rfl
    · have := h.pos n hn; exact ⟨this.1, by walk_at "om"⟩
    · exact ⟨by walk_at "om", by walk_at "om"⟩
  · rcases (hmem n).mp hn with hn | rfl
    · rw [hcell n (hne n hn)]; exact h.snd n hn
    · exact hnd
  · rcases (hmem n).mp hn with hn | rfl
    · rw [hcell n (hne n hn)]; exact h.skey n hn
    · exact hkey
  · rw [ht] at he
    obtain ⟨n, hn, q⟩ := h.tkey i hi e he
    exact ⟨n, (hmem n).mpr (.inl hn), q⟩
  · rw [hsum]
    rcases (hmem n).mp hn with hn | rfl
    · rw [hcell n (hne n hn)]
      have := hf n hn; have := h.cnt n hn; walk_at "om"
    · have h0 : ∀ es : List Val, Val.cell (s.last + 1) ∉ es → lsum es (one (s.last + 1)) = 0 := fun es q => by
        have := (not_congr (lsum_pos (vs := es) (n := s.last + 1))).mpr q; walk_at "om"
      have e1 : s.sum (one (s.last + 1)) = 0 := h0 _ fun q => hni (h.alive _ q)
      have e2 : vsum (s'.cell (s.last + 1)).slots (one (s.last + 1)) = 0 := h0 _ fun q => by
        obtain ⟨e, he, q⟩ := List.mem_map.mp q
        exact hni (hal e he _ q)
      rw [e1, e2, hc]; simp
  · rcases (hmem r).mp hr with hr | rfl
    · rw [hcell r (hne r hr)] at hs ⊢
      obtain ⟨v, e, q⟩ := h.rf r hr hs
      refine ⟨v, e, hpl v (fun k hk => h.alive k (S.mem_allHeld.mpr (.inr (.inl ⟨r, hr, (0, v), by rw [e]; simp, hk⟩)))) q⟩
    · obtain ⟨v, e, q⟩ := hrf hs
      refine ⟨v, e, hpl v (fun k hk => hal (0, v) (by rw [e]; simp) k hk) q⟩
  · rw [hb, h.bmem n, hmem n]
    by_cases q : n = s.last + 1
    · subst q; simp [hni, hbf]
    · rw [hcell n q]; simp [q]
  · rcases (hmem n).mp hn with hn | rfl
    · rw [hcell n (hne n hn)]; exact h.col n hn
    · rw [hcol]; decide
  · rw [hids, hl]; have := h.log; simp; walk_at "om"
  · rw [hids, hl, hfr]; have := h.frd; simp; walk_at "om"
theorem Ok.newCell (h : Ok s f) {t : Srt} (ht : t ≠ .rf) (h0 : f (s.last + 1) = 0) : Ok (s.newCell t) f := by
  have hc : (s.newCell t).cell (s.last + 1) = Cel.new t := if_pos rfl
  refine h.addCell rfl (fun n hn => if_neg hn) rfl rfl rfl rfl rfl (Nat.le_succ _) ?_ ?_ ?_ ?_ ?_ ?_ ?_ ?_
  all_goals rw [hc]
  · exact List.nodup_nil
  · intro e he; cases he
  · intro e he; cases he
  · intro q; exact absurd q ht
  · rfl
  · rfl
  · exact h0.symm
  · intro n hn; simp [Cel.new, vsum_nil]
theorem Ok.cellOf (h : Ok s f) {v : Val} {k : Nat} (hv : s.cellOf v = some k) : v = .cell k ∧ k ∈ s.ids := S.cellOf_some hv
theorem Ok.slot0 (h : Ok s f) {r : Nat} (hr : r ∈ s.ids) (hs : (s.cell r).sort = .rf) : (s.cell r).slots = [(0, s.slot0 r)] ∧ s.plain (s.slot0 r) ∧ ∀ k, s.slot0 r = .cell k → k ∈ s.ids := by
  obtain ⟨v, e, q⟩ := h.rf r hr hs
  have : s.slot0 r = v := by unfold S.slot0; rw [e]; rfl
  rw [this]
  exact ⟨e, q, fun k hk => h.alive k (S.mem_allHeld.mpr (.inr (.inl ⟨r, hr, (0, v), by rw [e]; simp, hk⟩)))⟩
theorem Ok.var (h : Ok s f) (a : Int) : ∀ k, (dget s.vars a).getD (.int 0) = .cell k → k ∈ s.ids := fun k hk => by
  cases q : dget s.vars a with
  | none => rw [q] at hk; cases hk
  | some v => rw [q] at hk; exact h.alive k (by have := h.held (p := .vars) trivial q; rw [← hk]; exact this)
theorem S.cellOf_cell {s : S} {k : Nat} (h : k ∈ s.ids) : s.cellOf (.cell k) = some k := if_pos h
theorem Ok.inner (h : Ok s f) {v : Val} (hv : ∀ k, v = .cell k → k ∈ s.ids) : s.plain (s.inner v) ∧ ∀ k, s.inner v = .cell k → k ∈ s.ids := by
  unfold S.inner
  cases v with
  | int i => exact ⟨fun k (hk : Val.int i = .cell k) => (nomatch hk), fun k (hk : Val.int i = .cell k) => (nomatch hk)⟩
  | cell k =>
    rw [S.cellOf_cell (hv k rfl)]; dsimp only
    split
    · rename_i q; exact (h.slot0 (hv k rfl) q).2
    · rename_i q; exact ⟨fun j hj => by cases hj; exact q, hv⟩
theorem Ok.valueOf (h : Ok s f) (a : Int) : s.plain (s.valueOf a) ∧ ∀ k, s.valueOf a = .cell k → k ∈ s.ids := h.inner (h.var a)
theorem isRef_iff {s : S} {v : Val} : s.isRef v = true ↔ ∃ r, v = .cell r ∧ r ∈ s.ids ∧ (s.cell r).sort = .rf := by
  constructor
  · exact S.isRef_cell
  · rintro ⟨r, rfl, hr, hs⟩; unfold S.isRef; rw [S.cellOf_cell hr]; simpa using hs
theorem Ok.written (h : Ok s f) {p : Pl} (hp : p.ok s) {i : Int} {v : Val} (hi : p.key s i) (hv : ∀ k, v = .cell k → k ∈ s.ids) (hpl : s.plain v) (hrf : ∀ c, p = .slots c → (s.cell c).sort ≠ .rf) :
    Ok (s.written p i v).1 fun n => f n - (one n v : Nat) + (lsum (s.written p i v).2 (one n) : Nat) := by
  have hd := h.dput hp hi hv fun c hc hs => absurd hs (hrf c hc)
  unfold S.written
  cases q : dget (s.at p) i with
  | none => rw [q] at hd; exact hd
  | some u =>
    rw [q] at hd
    cases u with
    | int k => exact hd
    | cell r =>
      dsimp only
      split
      · rename_i hr
      
        obtain ⟨r', e, hm, hs⟩ := S.isRef_cell hr
        cases e
        exact h.dput (p := .slots r) hm ⟨Int.le_refl 0, by decide⟩ hv fun c hc hs => ⟨rfl, hpl⟩
      · exact hd
theorem Ok.refIn (h : Ok s f) {i : Int} (hi : 0 ≤ i ∧ i < 4) (h0 : f (s.last + 1) = 0) : Ok (s.refIn i).1 f ∧ (∃ r, (s.refIn i).2 = .cell r ∧ r ∈ (s.refIn i).1.ids) := by
  unfold S.refIn
  generalize hh : (dget s.vars i).getD (.int 0) = held
  have hal : ∀ k, held = .cell k → k ∈ s.ids := by rw [← hh]; exact h.var i
  dsimp only
  split
  · rename_i hr
    obtain ⟨r, e, hm, _⟩ := S.isRef_cell hr
    exact ⟨h, r, e, hm⟩
  · rename_i hr
    have hpl : s.plain held := fun k hk hs => hr (isRef_iff.mpr ⟨k, hk, hal k hk, hs⟩)
    have hk : ∀ n, ((s.newCell .rf).put (.slots (s.last + 1)) (Mine.Internal.dput ((s.newCell .rf).at (.slots (s.last + 1))) 0 held)).cell n = if n = s.last + 1 then { Cel.new .rf with slots := [(0, held)] } else s.cell n := fun n => by
      show (if n = s.last + 1 then _ else (if n = s.last + 1 then Cel.new .rf else s.cell n)) = _
      split
      · have e : (s.newCell .rf).cell (s.last + 1) = Cel.new .rf := if_pos rfl
        rw [e]
        have e2 : (s.newCell .rf).at (.slots (s.last + 1)) = [] := by show ((s.newCell .rf).cell (s.last + 1)).slots = []; rw [e]; rfl
        rw [e2]; rfl
      · rfl
    have A : Ok ((s.newCell .rf).put (.slots (s.last + 1)) (Mine.Internal.dput ((s.newCell .rf).at (.slots (s.last + 1))) 0 held)) fun n => f n - (if n = s.last + 1 then 0 else (one n held : Nat)) := by
      refine h.addCell rfl (fun n hn => by rw [hk, if_neg hn]) rfl rfl rfl rfl rfl (Nat.le_succ _) ?_ ?_ ?_ ?_ ?_ ?_ ?_ ?_
      all_goals rw [hk, if_pos rfl]
      · simp
      · intro e he; rw [List.mem_singleton.mp he]; exact ⟨Int.le_refl 0, (by decide : (0 : Int) < 2)⟩
      · intro e he k hk; rw [List.mem_singleton.mp he] at hk; exact hal k hk
      · intro _; exact ⟨held, rfl, hpl⟩
      · rfl
      · rfl
      · rw [if_pos rfl, h0]; rfl
      · intro n hn
        have : n ≠ s.last + 1 := fun q => by have := (h.pos n hn).2; walk_at "om"
        rw [if_neg this]; simp [vsum, lsum]
    have hm : s.last + 1 ∈ ((s.newCell .rf).put (.slots (s.last + 1)) (Mine.Internal.dput ((s.newCell .rf).at (.slots (s.last + 1))) 0 held)).ids := List.mem_append_right _ (by simp)
    have hvars : ((s.newCell .rf).put (.slots (s.last + 1)) (Mine.Internal.dput ((s.newCell .rf).at (.slots (s.last + 1))) 0 held)).vars = s.vars := rfl
    have hids : ((s.newCell .rf).put (.slots (s.last + 1)) (Mine.Internal.dput ((s.newCell .rf).at (.slots (s.last + 1))) 0 held)).ids = s.ids ++ [s.last + 1] := rfl
    generalize ((s.newCell .rf).put (.slots (s.last + 1)) (Mine.Internal.dput ((s.newCell .rf).at (.slots (s.last + 1))) 0 held)) = s1 at A hm hvars hids
    have B := A.gain (.cell (s.last + 1)) fun k hk => by cases hk; exact hm
    have hm2 : s.last + 1 ∈ (s1.gain (.cell (s.last + 1))).ids := by rw [S.gain_ids]; exact hm
    have C := B.dput (p := .vars) (i := i) (v := .cell (s.last + 1)) trivial hi (fun k hk => by cases hk; exact hm2) nofun
    refine ⟨C.congr fun n hn => ?_, _, rfl, hm2⟩
    have hn' : n ∈ s.ids ++ [s.last + 1] := by rw [← hids]; simpa using hn
    have e1 : (s1.gain (.cell (s.last + 1))).at .vars = s.vars := by show (s1.gain _).vars = _; rw [S.gain_vars, hvars]
    rw [e1]
    have e2 : lsum (dget s.vars i).toList (one n) = one n held := by
      rw [← hh]
      cases dget s.vars i with
      | none => rfl
      | some u => simp [lsum]
    rw [e2]
    by_cases q : n = s.last + 1
    · subst q
      have : one (s.last + 1) held = 0 := one_ne fun z => by have := (h.pos _ (hal _ z)).2; walk_at "om"
      rw [if_pos rfl, this]; walk_at "om"
    · rw [if_neg q]; walk_at "om"
end
end
section
section
variable {s s' : S} {f f' : Nat → Int}
theorem Ok.inCopy (h : Ok s f) {c : Nat} {v : Val} (hv : ∀ k, v = .cell k → k ∈ s.ids) : ∀ k, s.inCopy c v = .cell k → k ∈ s.ids := by
  unfold S.inCopy
  split
  · exact hv
  · rename_i r hr
    obtain ⟨rfl, hm⟩ := S.cellOf_some hr
    by_cases h1 : (s.cell r).sort ≠ .rf
    · rw [if_pos h1]; exact hv
    · rw [if_neg h1]
      have h1 : (s.cell r).sort = .rf := Classical.not_not.mp h1
      split
      · exact hv
      · split
        · exact hv
        · exact (h.slot0 hm h1).2.2
theorem Ok.copyOne (h : Ok s f) {c m : Nat} {e : Int × Val} (hm : m ∈ s.ids) (hs : (s.cell m).sort ≠ .rf) (hk : 0 ≤ e.1 ∧ e.1 < 2) (hn : dget (s.cell m).slots e.1 = none) (hv : ∀ k, e.2 = .cell k → k ∈ s.ids) : Ok (s.copyOne c m e) f := by
  unfold S.copyOne
  have hal := h.inCopy (c := c) hv
  generalize s.inCopy c e.2 = u at hal
  have A := h.gain u hal
  have hm' : m ∈ (s.gain u).ids := by rw [S.gain_ids]; exact hm
  have B := A.dput (p := .slots m) hm' hk (v := u) (fun k hk => by rw [S.gain_ids]; exact hal k hk) fun c hc hs' => by
    cases hc; rw [S.gain_sort] at hs'; exact absurd hs' hs
  refine B.congr fun n _ => ?_
  have e1 : (s.gain u).at (.slots m) = (s.cell m).slots := by show ((s.gain u).cell m).slots = _; rw [S.gain_slots]
  rw [e1, hn]; simp [lsum]
theorem copyOne_slots {s : S} {c m : Nat} {e : Int × Val} {i : Int} (hi : i ≠ e.1) : dget ((s.copyOne c m e).cell m).slots i = dget (s.cell m).slots i := by
  unfold S.copyOne
  rw [S.put_slots_same, dget_dput, if_neg hi]
  show dget ((s.gain _).cell m).slots i = _
  rw [S.gain_slots]
theorem Ok.copyFold {c m : Nat} : ∀ (es : List (Int × Val)) {s : S}, Ok s f → m ∈ s.ids → (s.cell m).sort ≠ .rf → (es.map (·.1)).Nodup → (∀ e ∈ es, 0 ≤ e.1 ∧ e.1 < 2) → (∀ e ∈ es, dget (s.cell m).slots e.1 = none) → (∀ e ∈ es, ∀ k, e.2 = .cell k → k ∈ s.ids) → Ok (es.foldl (S.copyOne c m) s) f
  | [], _, h, _, _, _, _, _, _ => h
  | e :: r, s, h, hm, hs, hnd, hk, hn, hv => by
    rw [List.map_cons, List.nodup_cons] at hnd
    have CI := (⟨rfl, rfl, rfl, fun _ => rfl, fun _ _ => rfl⟩ : CopyInv c m s s).step e
    refine Ok.copyFold r (h.copyOne hm hs (hk e List.mem_cons_self) (hn e List.mem_cons_self) (hv e List.mem_cons_self)) (by rw [CI.ids]; exact hm) (by rw [CI.sort]; exact hs) hnd.2 (fun a ha => hk a (List.mem_cons_of_mem _ ha)) (fun a ha => ?_) fun a ha k hk => by rw [CI.ids]; exact hv a (List.mem_cons_of_mem _ ha) k hk
    rw [copyOne_slots fun z => hnd.1 (z ▸ List.mem_map.mpr ⟨a, ha, rfl⟩)]
    exact hn a (List.mem_cons_of_mem _ ha)
theorem Ok.newLog (h : Ok s f) (h0 : f (s.last + 1) = 0) : Ok { s.newCell .arr with logn := s.logn + 1 } f := by
  have hc : ({ s.newCell .arr with logn := s.logn + 1 } : S).cell (s.last + 1) = Cel.new .arr := if_pos rfl
  refine h.addCell rfl (fun n hn => if_neg hn) rfl rfl rfl rfl rfl (Nat.le_refl _) ?_ ?_ ?_ ?_ ?_ ?_ ?_ ?_
  all_goals rw [hc]
  · exact List.nodup_nil
  · intro e he; cases he
  · intro e he; cases he
  · intro q; cases q
  · rfl
  · rfl
  · exact h0.symm
  · intro n hn; simp [Cel.new, vsum_nil]
theorem Ok.copied (h : Ok s f) {c : Nat} (hc : c ∈ s.ids) (h0 : f (s.last + 1) = 0) : Ok (s.copied c) f := by
  have A := h.newLog h0
  have hcell : ({ s.newCell .arr with logn := s.logn + 1 } : S).cell (s.last + 1) = Cel.new .arr := if_pos rfl
  have hids : ({ s.newCell .arr with logn := s.logn + 1 } : S).ids = s.ids ++ [s.last + 1] := rfl
  unfold S.copied
  generalize ({ s.newCell .arr with logn := s.logn + 1 } : S) = s1 at A hcell hids
  refine Ok.copyFold _ A (by rw [hids]; simp) (by rw [hcell]; decide) (h.snd c hc) (h.skey c hc) (fun e he => by rw [hcell]; first | done | rfl) fun e he k hk => by
    rw [hids]; exact List.mem_append_left _ (h.alive k (S.mem_allHeld.mpr (.inr (.inl ⟨c, hc, e, he, hk⟩))))
theorem target_mem (h : Ok s f) {m t : Nat} (hm : m ∈ s.ids) (ht : s.target m = some t) : t ∈ s.ids := by
  unfold S.target at ht
  split at ht
  · exact (S.cellOf_some ht).2
  · cases ht; exact hm
theorem Ok.suspect (h : Ok s f) {m : Nat} (hm : m ∈ s.ids) : Ok (s.suspect m) f := by
  unfold S.suspect
  cases ht : s.target m with
  | none => exact h
  | some t =>
    have htm := target_mem h hm ht
    dsimp only
    split
    · exact h
    · rename_i hb
      have key : ∀ n, ((s.upd t fun c => { c with col := .purple }).upd t fun c => { c with buf := true }).cell n = if n = t then { s.cell t with col := .purple, buf := true } else s.cell n := fun n => by
        show (if n = t then _ else (if n = t then _ else s.cell n)) = _
        by_cases q : n = t
        · subst q; rw [if_pos rfl, if_pos rfl]
          show ({ (if n = n then _ else s.cell n : Cel) with buf := true } : Cel) = _
          rw [if_pos rfl]
        · rw [if_neg q, if_neg q, if_neg q]
      refine h.recell ((s.upd t fun c => { c with col := .purple }).upd t fun c => { c with buf := true }).cell (s.buffer ++ [t]) (fun n => ?_) (fun n => ?_) (fun n hn => ?_) (fun n hn => ?_) ?_ fun n => ?_
      · rw [key]; split
        · rename_i q; rw [q]
        · rfl
      · rw [key]; split
        · rename_i q; rw [q]
        · rfl
      · rw [key]; split
        · exact ⟨by simp, by simp⟩
        · exact h.col n hn
      · rw [key]; split
        · rename_i q; rw [q]
        · rfl
      · exact List.nodup_append.mpr ⟨h.bnd, by simp, fun a ha b hb' => by
          rw [List.mem_singleton.mp hb']
          exact fun q => hb (((h.bmem a).mp ha).2 ▸ q ▸ rfl)⟩
      · rw [key, List.mem_append, List.mem_singleton, h.bmem n]
        by_cases q : n = t
        · subst q; simp [htm]
        · simp [q]
/-- cells gone -/
theorem Ok.drop (h : Ok s f) (dead : Nat → Bool) (L : (Val → Nat) → Nat) (hnd : s'.ids.Nodup) (hids : ∀ n, n ∈ s'.ids ↔ n ∈ s.ids ∧ dead n = false) (hcell : s'.cell = s.cell) (hv : s'.vars = s.vars) (ht : ∀ i, i < 2 → s'.tab i = (s.tab i).filter fun e => !dead e.1.toNat)
    (hl : s'.last = s.last) (hb : s'.buffer.Nodup) (hbm : ∀ n, n ∈ s'.buffer ↔ n ∈ s.buffer ∧ dead n = false) (hsum : ∀ g, s'.sum g + L g = s.sum g) (hf : ∀ n ∈ s'.ids, f' n = f n + (L (one n) : Nat)) (hno : ∀ k, dead k = true → .cell k ∉ s'.allHeld)
    (hlog : s'.logn + s'.ids.length ≤ 2 * s'.last) (hfr : s'.freed + s'.ids.length = s'.last) : Ok s' f' where
  nodup := hnd
  pos := fun n hn => by rw [hl]; exact h.pos n ((hids n).mp hn).1
  vnd := by rw [hv]; exact h.vnd
  tnd := fun i hi => by rw [ht i hi]; exact (h.tnd i hi).sublist (List.filter_sublist.map _)
  snd := fun n hn => by rw [hcell]; exact h.snd n ((hids n).mp hn).1
  vkey := by rw [hv]; exact h.vkey
  skey := fun n hn => by rw [hcell]; exact h.skey n ((hids n).mp hn).1
  tkey := fun i hi e he => by
    rw [ht i hi, List.mem_filter] at he
    obtain ⟨n, hn, q⟩ := h.tkey i hi e he.1
    refine ⟨n, (hids n).mpr ⟨hn, ?_⟩, q⟩
    have := he.2
    rw [q] at this
    simpa using this
  alive := fun k hk => by
    cases q : dead k with
    | true => exact absurd hk (hno k q)
    | false =>
      refine (hids k).mpr ⟨h.alive k ?_, q⟩
      rw [S.mem_allHeld, hv, hcell] at hk
      refine S.mem_allHeld.mpr ?_
      rcases hk with hk | ⟨n, hn, hk⟩ | ⟨i, hi, e, he, hk⟩
      · exact .inl hk
      · exact .inr (.inl ⟨n, ((hids n).mp hn).1, hk⟩)
      · rw [ht i hi, List.mem_filter] at he
        exact .inr (.inr ⟨i, hi, e, he.1, hk⟩)
  cnt := fun n hn => by
    have := h.cnt n ((hids n).mp hn).1; have := hf n hn; have := hsum (one n)
    rw [hcell]; walk_at "om"
  rf := fun r hr hs => by
    rw [hcell] at hs ⊢
    obtain ⟨v, e, q⟩ := h.rf r ((hids r).mp hr).1 hs
    exact ⟨v, e, fun k hk => by rw [hcell]; exact q k hk⟩
  bnd := hb
  bmem := fun n => by rw [hbm, h.bmem, hids, hcell]; constructor <;> (rintro ⟨⟨a, b⟩, c⟩; exact ⟨⟨a, c⟩, b⟩)
  col := fun n hn => by rw [hcell]; exact h.col n ((hids n).mp hn).1
  log := hlog
  frd := hfr
theorem lsum_two {s : S} {n : Nat} {g : Val → Nat} : lsum (s.heldBy n) g = lsum (dget (s.tab 0) n).toList g + lsum (dget (s.tab 1) n).toList g + vsum (s.cell n).slots g := by
  unfold S.heldBy
  rw [lsum_append]
  have : lsum ([0, 1].filterMap fun i => dget (s.tab i) (n : Int)) g = lsum (dget (s.tab 0) n).toList g + lsum (dget (s.tab 1) n).toList g := by
    cases a : dget (s.tab 0) (n : Int) <;> cases b : dget (s.tab 1) (n : Int) <;> simp [List.filterMap_cons, a, b, lsum]
  rw [this]; rfl
theorem free_tab {s : S} {n : Nat} : (s.free n).tab 0 = ddel (s.tab 0) n ∧ (s.free n).tab 1 = ddel (s.tab 1) n := ⟨rfl, rfl⟩
theorem free_sum {s : S} {n : Nat} {g : Val → Nat} (hnd : s.ids.Nodup) (hn : n ∈ s.ids) (ht : ∀ i, i < 2 → ((s.tab i).map (·.1)).Nodup) : (s.free n).sum g + lsum (s.heldBy n) g = s.sum g := by
  rw [S.sum_eq, S.sum_eq, free_tab.1, free_tab.2, lsum_two]
  have h1 := sum_del (f := fun n => vsum (s.cell n).slots g) hnd hn
  have h2 := vsum_ddel (i := (n : Int)) (g := g) (ht 0 (by decide))
  have h3 := vsum_ddel (i := (n : Int)) (g := g) (ht 1 (by decide))
  show vsum s.vars g + ((s.ids.filter (· ≠ n)).map fun n => vsum (s.cell n).slots g).sum + _ + _ + _ = _
  walk_at "om"
theorem ddel_filter {es : List (Int × Val)} {n : Nat} (hk : ∀ e ∈ es, 0 ≤ e.1) : ddel es n = es.filter fun e => !decide (e.1.toNat = n) := by
  unfold ddel
  apply List.filter_congr
  intro e he
  have := hk e he
  by_cases q : e.1 = n
  · have : e.1.toNat = n := by walk_at "om"
    simp [q]
  · have : ¬ e.1.toNat = n := by walk_at "om"
    simp [q, this]
theorem Ok.tpos (h : Ok s f) {i : Nat} (hi : i < 2) : ∀ e ∈ s.tab i, 0 ≤ e.1 := fun e he => by
  obtain ⟨n, _, q⟩ := h.tkey i hi e he; walk_at "om"
theorem sum_zero {s : S} {n : Nat} (h : s.sum (one n) = 0) : .cell n ∉ s.allHeld := fun q => by
  have := lsum_pos.mpr q
  unfold S.sum at h; walk_at "om"
theorem len_del {l : List Nat} {c : Nat} (hn : l.Nodup) (hc : c ∈ l) : (l.filter (· ≠ c)).length + 1 = l.length := by
  have := sum_del (f := fun _ => 1) hn hc
  have e : ∀ l : List Nat, (l.map fun _ => 1).sum = l.length := fun l => by
    induction l with
    | nil => rfl
    | cons a r ih => simp [ih, Nat.add_comm]
  rw [e, e] at this; exact this
theorem Ok.free (h : Ok s f) {n : Nat} (hn : n ∈ s.ids) (h0 : (s.cell n).count ≤ 0) (hf0 : 0 ≤ f n) : Ok (s.free n) fun k => f k + (lsum (s.heldBy n) (one k) : Nat) := by
  have hsum := fun g => free_sum (g := g) h.nodup hn h.tnd
  refine h.drop (fun k => decide (k = n)) (fun g => lsum (s.heldBy n) g) (h.nodup.filter _) (fun k => ?_) rfl rfl (fun i hi => ?_) rfl ?_ (fun k => ?_) hsum (fun k hk => rfl) (fun k hk => ?_) ?_ ?_
  · show k ∈ s.ids.filter _ ↔ _
    rw [List.mem_filter]; simp
  · have : i = 0 ∨ i = 1 := by walk_at "om"
    rcases this with rfl | rfl
    · rw [free_tab.1, ddel_filter (h.tpos hi)]
    · rw [free_tab.2, ddel_filter (h.tpos hi)]
  · show (if (s.cell n).buf = true then s.buffer.erase n else s.buffer).Nodup
    split
    · exact h.bnd.erase n
    · exact h.bnd
  · show k ∈ (if (s.cell n).buf = true then s.buffer.erase n else s.buffer) ↔ _
    split
    · rw [h.bnd.mem_erase_iff]; simp; exact And.comm
    · rename_i q
      constructor
      · intro hk; exact ⟨hk, decide_eq_false fun (z : k = n) => q (by rw [← z]; exact ((h.bmem k).mp hk).2)⟩
      · exact fun hk => hk.1
  · have hk : k = n := by simpa using hk
    subst hk
    have := hsum (one k); have := h.cnt k hn
    exact sum_zero (by walk_at "om")
  · have := h.log; have := len_del h.nodup hn
    show s.logn + 1 + (s.ids.filter (· ≠ n)).length ≤ 2 * s.last
    walk_at "om"
  · have := h.frd; have := len_del h.nodup hn
    show s.freed + 1 + (s.ids.filter (· ≠ n)).length = s.last
    walk_at "om"
end
end
section
/-! ## what a deed leaves -/
structure Ext (k : Nat) (s s' : S) : Prop where
  ids : ∀ n ∈ s.ids, n ∈ s'.ids
  back : ∀ n ∈ s'.ids, n ∈ s.ids ∨ s.last < n
  last : s.last ≤ s'.last ∧ s'.last ≤ s.last + k
  tab : s'.tab = s.tab
  buf : s'.buffer = s.buffer
  sort : ∀ n, n ≤ s.last → (s'.cell n).sort = (s.cell n).sort
  weak : ∀ n, n ≤ s.last → (s'.cell n).weak = (s.cell n).weak
theorem Ext.refl {s : S} : Ext 0 s s := ⟨fun _ h => h, fun _ h => .inl h, ⟨Nat.le_refl _, Nat.le_refl _⟩, rfl, rfl, fun _ _ => rfl, fun _ _ => rfl⟩
theorem Ext.trans {j k : Nat} {a b c : S} (x : Ext j a b) (y : Ext k b c) : Ext (j + k) a c where
  ids := fun n h => y.ids n (x.ids n h)
  back := fun n h => (y.back n h).elim (fun h => x.back n h) fun h => .inr (Nat.lt_of_le_of_lt x.last.1 h)
  last := ⟨Nat.le_trans x.last.1 y.last.1, by have := x.last.2; have := y.last.2; walk_at "om"⟩
  tab := y.tab.trans x.tab
  buf := y.buf.trans x.buf
  sort := fun n h => (y.sort n (Nat.le_trans h x.last.1)).trans (x.sort n h)
  weak := fun n h => (y.weak n (Nat.le_trans h x.last.1)).trans (x.weak n h)
theorem Ext.le {j k : Nat} {a b : S} (x : Ext j a b) (h : j ≤ k) : Ext k a b := { x with last := ⟨x.last.1, by have := x.last.2; walk_at "om"⟩ }
@[simp] theorem S.gain_weak {s : S} {v : Val} {m : Nat} : ((s.gain v).cell m).weak = (s.cell m).weak := by
  unfold S.gain; split
  · show ((if m = _ then _ else s.cell m) : Cel).weak = _
    split
    · rename_i h; rw [h]
    · rfl
  · rfl
@[simp] theorem S.put_weak {s : S} {p : Pl} {es} {k : Nat} : ((s.put p es).cell k).weak = (s.cell k).weak := by
  cases p with
  | slots n =>
    show ((if k = n then _ else s.cell k) : Cel).weak = _
    split
    · rename_i h; rw [h]
    · rfl
  | _ => rfl
theorem Ext.gain {s : S} {v : Val} : Ext 0 s (s.gain v) := ⟨fun n h => by rw [S.gain_ids]; exact h, fun n h => by rw [S.gain_ids] at h; exact .inl h, by simp, by simp, by simp, fun n _ => by simp, fun n _ => by simp⟩
theorem Ext.put {s : S} {p : Pl} {es} (hp : ∀ i, p ≠ .ent i) : Ext 0 s (s.put p es) := ⟨fun n h => by rw [S.put_ids]; exact h, fun n h => by rw [S.put_ids] at h; exact .inl h, by simp, by
  cases p with
  | ent i => exact absurd rfl (hp i)
  | _ => rfl, by cases p <;> rfl, fun n _ => by simp, fun n _ => by simp⟩
theorem Ext.putV {s : S} {es} : Ext 0 s (s.put .vars es) := Ext.put fun i q => by cases q
theorem Ext.putS {s : S} {n : Nat} {es} : Ext 0 s (s.put (.slots n) es) := Ext.put fun i q => by cases q
theorem Ext.newCell {s : S} {t : Srt} {l : Nat} : Ext 1 s { s.newCell t with logn := l } := ⟨fun n h => List.mem_append_left _ h, fun n h => by
  rcases List.mem_append.mp h with h | h
  · exact .inl h
  · rw [List.mem_singleton.mp h]; exact .inr (Nat.lt_succ_self _), ⟨Nat.le_succ _, Nat.le_refl _⟩, rfl, rfl, fun n hn => by
    show (if n = s.last + 1 then Cel.new t else s.cell n).sort = _; rw [if_neg (by walk_at "om")], fun n hn => by
    show (if n = s.last + 1 then Cel.new t else s.cell n).weak = _; rw [if_neg (by walk_at "om")]⟩
theorem Ext.copyOne {s : S} {c m : Nat} {e : Int × Val} : Ext 0 s (s.copyOne c m e) := (Ext.gain).trans Ext.putS
theorem Ext.fold {c m : Nat} : ∀ (es : List (Int × Val)) {s : S}, Ext 0 s (es.foldl (S.copyOne c m) s)
  | [], _ => Ext.refl
  | e :: r, s => (Ext.copyOne).trans (Ext.fold r)
theorem Ext.copied {s : S} {c : Nat} : Ext 1 s (s.copied c) := (Ext.newCell).trans (Ext.fold _)
theorem Ext.written {s : S} {p : Pl} (hp : ∀ i, p ≠ .ent i) {i : Int} {v : Val} : Ext 0 s (s.written p i v).1 := by
  unfold S.written
  split
  · split
    · exact Ext.putS
    · exact Ext.put hp
  · exact Ext.put hp
  · exact Ext.put hp
theorem Ext.refIn {s : S} {i : Int} : Ext 1 s (s.refIn i).1 := by
  unfold S.refIn
  dsimp only
  split
  · exact (Ext.refl).le (by decide)
  · have h1 : Ext 1 s (s.newCell .rf) := Ext.newCell (l := s.logn)
    exact ((h1.trans Ext.putS).trans Ext.gain).trans Ext.putV
/-! ## reachable -/
noncomputable def Closed (s : S) (C : Nat → Prop) : Prop := ∀ n ∈ s.ids, C n → ∀ k ∈ s.kids n, C k
noncomputable def Roots (s : S) (C : Nat → Prop) : Prop := ∀ e ∈ s.vars, ∀ k, e.2 = .cell k → C k
noncomputable def Reach (s : S) (n : Nat) : Prop := ∀ C, Closed s C → Roots s C → C n
noncomputable def Susp (s : S) (X : Nat → Prop) : Prop := ∀ C, Closed s C → Roots s C → (∀ b ∈ s.buffer, C b) → (∀ k, X k → C k) → ∀ n ∈ s.ids, C n
theorem mem_kids {s : S} {n k : Nat} : k ∈ s.kids n ↔ (∃ i, i < 2 ∧ dget (s.tab i) n = some (.cell k)) ∨ ∃ e ∈ (s.cell n).slots, e.2 = .cell k := by
  unfold S.kids S.heldBy
  rw [List.mem_filterMap]
  constructor
  · rintro ⟨v, hv, q⟩
    cases v with
    | int i => cases q
    | cell j =>
      cases q
      rcases List.mem_append.mp hv with hv | hv
      · obtain ⟨i, hi, q⟩ := List.mem_filterMap.mp hv
        simp at hi
        exact .inl ⟨i, by walk_at "om", q⟩
      · obtain ⟨e, he, q⟩ := List.mem_map.mp hv
        exact .inr ⟨e, he, q⟩
  · rintro (⟨i, hi, q⟩ | ⟨e, he, q⟩)
    · refine ⟨_, List.mem_append_left _ (List.mem_filterMap.mpr ⟨i, ?_, q⟩), rfl⟩
      have : i = 0 ∨ i = 1 := by walk_at "om"
      rcases this with rfl | rfl <;> simp
    · exact ⟨_, List.mem_append_right _ (List.mem_map.mpr ⟨e, he, q⟩), rfl⟩
theorem Ok.kids {s : S} {f : Nat → Int} (h : Ok s f) {n k : Nat} (hn : n ∈ s.ids) (hk : k ∈ s.kids n) : k ∈ s.ids := by
  refine h.alive k (S.mem_allHeld.mpr ?_)
  rcases mem_kids.mp hk with ⟨i, hi, q⟩ | ⟨e, he, q⟩
  · exact .inr (.inr ⟨i, hi, _, dget_some q, rfl⟩)
  · exact .inr (.inl ⟨n, hn, e, he, q⟩)
theorem Reach.kid {s : S} {n k : Nat} (h : Reach s n) (hn : n ∈ s.ids) (hk : k ∈ s.kids n) : Reach s k := fun C hc hr => hc n hn (h C hc hr) k hk
theorem Reach.var {s : S} {e : Int × Val} {k : Nat} (he : e ∈ s.vars) (q : e.2 = .cell k) : Reach s k := fun C _ hr => hr e he k q
theorem slot0_kid {s : S} {r k : Nat} (h : s.slot0 r = .cell k) : k ∈ s.kids r := by
  unfold S.slot0 at h
  cases q : dget (s.cell r).slots 0 with
  | none => rw [q] at h; cases h
  | some v => rw [q] at h; exact mem_kids.mpr (.inr ⟨_, dget_some q, h⟩)
theorem valueOf_reach {s : S} {a : Int} {k : Nat} (h : s.valueOf a = .cell k) : Reach s k := by
  unfold S.valueOf S.inner at h
  cases q : dget s.vars a with
  | none => rw [q] at h; cases h
  | some v =>
    rw [q] at h
    simp only [Option.getD_some] at h
    cases v with
    | int i => cases h
    | cell r =>
      have hr : Reach s r := Reach.var (dget_some q) rfl
      cases hc : s.cellOf (.cell r) with
      | none => rw [hc] at h; cases h; exact hr
      | some r' =>
        obtain ⟨e, hm⟩ := S.cellOf_some hc
        cases e
        rw [hc] at h; dsimp only at h
        split at h
        · exact hr.kid hm (slot0_kid h)
        · cases h; exact hr
theorem Reach.of {s s' : S} {n : Nat} (h : Reach s n) (he : ∀ C, Closed s' C → Roots s' C → Closed s C ∧ Roots s C) : Reach s' n := fun C hc hr => h C (he C hc hr).1 (he C hc hr).2
/-- the same edges, the same variables -/
structure Same (s s' : S) : Prop where
  ids : s'.ids = s.ids
  vars : s'.vars = s.vars
  kids : ∀ n, s'.kids n = s.kids n
theorem Same.closed {s s' : S} (h : Same s s') {C : Nat → Prop} : Closed s' C ↔ Closed s C := by unfold Closed; simp only [h.ids, h.kids]
theorem Same.roots {s s' : S} (h : Same s s') {C : Nat → Prop} : Roots s' C ↔ Roots s C := by unfold Roots; rw [h.vars]
theorem Same.reach {s s' : S} (h : Same s s') {n : Nat} : Reach s' n ↔ Reach s n := by unfold Reach; simp only [h.closed, h.roots]
theorem Same.gain {s : S} {v : Val} : Same s (s.gain v) := ⟨by simp, by simp, fun n => by unfold S.kids S.heldBy; simp⟩
theorem Same.susp {s s' : S} {X : Nat → Prop} (h : Same s s') (hb : ∀ b ∈ s.buffer, b ∈ s'.buffer) (x : Susp s X) : Susp s' X := fun C hc hr hB hX n hn => x C (h.closed.mp hc) (h.roots.mp hr) (fun b hb' => hB b (hb b hb')) hX n (by rw [← h.ids]; exact hn)
theorem Susp.mono {s : S} {X Y : Nat → Prop} (h : Susp s X) (q : ∀ k, X k → Y k) : Susp s Y := fun C hc hr hB hY => h C hc hr hB fun k hk => hY k (q k hk)
theorem put_kids {s : S} {c : Nat} {es : List (Int × Val)} {n : Nat} (h : n ≠ c) : (s.put (.slots c) es).kids n = s.kids n := by
  unfold S.kids S.heldBy; rw [S.put_slots_ne h]; rfl
theorem put_kids_vars {s : S} {es : List (Int × Val)} {n : Nat} : (s.put .vars es).kids n = s.kids n := rfl
theorem mem_put_kids {s : S} {c : Nat} {es : List (Int × Val)} {k : Nat} : k ∈ (s.put (.slots c) es).kids c ↔ (∃ i, i < 2 ∧ dget (s.tab i) c = some (.cell k)) ∨ ∃ e ∈ es, e.2 = .cell k := by
  rw [mem_kids, S.put_slots_same]; rfl
section
variable {s : S} {X Y : Nat → Prop} {f : Nat → Int}
/-- what is lost stands in Y; a new value need not -/
theorem Susp.putVars (h : Susp s X) {i : Int} {es : List (Int × Val)} (hX : ∀ k, X k → Y k ∨ ∃ e ∈ es, e.2 = .cell k) (hold : ∀ e ∈ s.vars, (∃ e' ∈ es, e'.2 = e.2) ∨ ∀ k, e.2 = .cell k → Y k) : Susp (s.put .vars es) Y := fun C hc hr hB hY n hn => by
  have hr' : ∀ k, (∃ e ∈ es, e.2 = .cell k) → C k := fun k ⟨e, he, q⟩ => hr e he k q
  refine h C hc (fun e he k hk => ?_) hB (fun k hk => (hX k hk).elim (hY k) (hr' k)) n hn
  rcases hold e he with ⟨e', he', q⟩ | q
  · exact hr' k ⟨e', he', q.trans hk⟩
  · exact hY k (q k hk)
theorem put_closed {c : Nat} {es : List (Int × Val)} {C : Nat → Prop} (hc : Closed (s.put (.slots c) es) C) (hold : C c → ∀ e ∈ (s.cell c).slots, (∃ e' ∈ es, e'.2 = e.2) ∨ ∀ k, e.2 = .cell k → C k) : Closed s C := fun n hn hCn k hk => by
  by_cases q : n = c
  · subst q
    rcases mem_kids.mp hk with h | ⟨e, he, q⟩
    · exact hc n hn hCn k (mem_put_kids.mpr (.inl h))
    · rcases hold hCn e he with ⟨e', he', q'⟩ | q'
      · exact hc n hn hCn k (mem_put_kids.mpr (.inr ⟨e', he', q'.trans q⟩))
      · exact q' k q
  · exact hc n hn hCn k (by rw [put_kids q]; exact hk)
/-- a reachable cell is in each closed set, even when its slots are changed -/
theorem put_reach {c : Nat} {es : List (Int × Val)} {C : Nat → Prop} (hr : Reach s c) (hc : Closed (s.put (.slots c) es) C) (hR : Roots s C) : C c := Classical.byContradiction fun q => q (hr C (put_closed hc fun z => absurd z q) hR)
theorem Susp.putSlots (h : Susp s X) {c : Nat} (hcm : c ∈ s.ids) (hr : Reach s c ∨ Y c) {es : List (Int × Val)} (hX : ∀ k, X k → Y k ∨ ∃ e ∈ es, e.2 = .cell k) (hold : ∀ e ∈ (s.cell c).slots, (∃ e' ∈ es, e'.2 = e.2) ∨ ∀ k, e.2 = .cell k → Y k) : Susp (s.put (.slots c) es) Y := fun C hc hR hB hY n hn => by
  have hC : C c := hr.elim (fun hr => put_reach hr hc hR) (hY c)
  refine h C (put_closed hc fun _ e he => (hold e he).imp_right fun q k hk => hY k (q k hk)) hR hB (fun k hk => (hX k hk).elim (hY k) fun ⟨e, he, q⟩ => hc c hcm hC k (mem_put_kids.mpr (.inr ⟨e, he, q⟩))) n (by simpa using hn)
theorem Susp.putSlots' (h : Susp s X) {c : Nat} {es : List (Int × Val)} (hX : ∀ k, X k → Y k) (hold : ∀ e ∈ (s.cell c).slots, (∃ e' ∈ es, e'.2 = e.2) ∨ ∀ k, e.2 = .cell k → Y k) : Susp (s.put (.slots c) es) Y := fun C hc hR hB hY n hn => by
  refine h C (put_closed hc fun _ e he => (hold e he).imp_right fun q k hk => hY k (q k hk)) hR hB (fun k hk => hY k (hX k hk)) n (by simpa using hn)
theorem dput_old {es : List (Int × Val)} {i : Int} {v : Val} (hn : (es.map (·.1)).Nodup) : ∀ e ∈ es, (∃ e' ∈ dput es i v, e'.2 = e.2) ∨ ∀ k, e.2 = .cell k → .cell k ∈ (dget es i).toList := fun e he => by
  by_cases q : e.1 = i
  · right; intro k hk
    have : dget es i = some e.2 := dget_mem hn (by rw [← q]; exact he)
    rw [this, hk]; simp
  · exact .inl ⟨e, mem_dput_of he q, rfl⟩
theorem ddel_old {es : List (Int × Val)} {i : Int} (hn : (es.map (·.1)).Nodup) : ∀ e ∈ es, (∃ e' ∈ ddel es i, e'.2 = e.2) ∨ ∀ k, e.2 = .cell k → .cell k ∈ (dget es i).toList := fun e he => by
  by_cases q : e.1 = i
  · right; intro k hk
    have : dget es i = some e.2 := dget_mem hn (by rw [← q]; exact he)
    rw [this, hk]; simp
  · exact .inl ⟨e, mem_ddel.mpr ⟨he, q⟩, rfl⟩
theorem Susp.written (h : Susp s X) (ok : Ok s f) {p : Pl} (hp : p.ok s) (hne : ∀ i, p ≠ .ent i) {i : Int} {v : Val} (hr : ∀ c, p = .slots c → Reach s c) (hX : ∀ k, X k → Y k ∨ v = .cell k) (hY : ∀ k, .cell k ∈ (s.written p i v).2 → Y k) : Susp (s.written p i v).1 Y := by
  have base : ∀ (_ : ∀ k, .cell k ∈ (dget (s.at p) i).toList → Y k), Susp (s.put p (Mine.Internal.dput (s.at p) i v)) Y := fun hY => by
    have hX' : ∀ k, X k → Y k ∨ ∃ e ∈ Mine.Internal.dput (s.at p) i v, e.2 = .cell k := fun k hk => (hX k hk).imp_right fun q => ⟨(i, v), mem_dput_self, q⟩
    cases p with
    | vars => exact h.putVars (i := i) hX' fun e he => (dput_old ok.vnd e he).imp_right fun q k hk => hY k (q k hk)
    | slots c => exact h.putSlots hp (.inl (hr c rfl)) hX' fun e he => (dput_old (ok.snd c hp) e he).imp_right fun q k hk => hY k (q k hk)
    | ent i => exact absurd rfl (hne i)
  unfold S.written at hY ⊢
  cases q : dget (s.at p) i with
  | none => rw [q] at hY base; exact base hY
  | some u =>
    rw [q] at hY base
    cases u with
    | int k => exact base hY
    | cell r =>
      dsimp only at hY ⊢
      split
      · rename_i hrf
        rw [if_pos hrf] at hY
        obtain ⟨r', e, hm, hs⟩ := S.isRef_cell hrf
        cases e
        have hrr : Reach s r := by
          have hd := dget_some q
          cases p with
          | vars => exact Reach.var hd rfl
          | slots c => exact (hr c rfl).kid hp (mem_kids.mpr (.inr ⟨_, hd, rfl⟩))
          | ent i => exact absurd rfl (hne i)
        exact h.putSlots hm (.inl hrr) (fun k hk => (hX k hk).imp_right fun q => ⟨(0, v), mem_dput_self, q⟩) fun e he => (dput_old (ok.snd r hm) e he).imp_right fun q k hk => hY k (q k hk)
      · rename_i hrf
        rw [if_neg hrf] at hY
        exact base hY
end
end
section
noncomputable def L (ls : List Val) : Nat → Int := fun n => (lsum ls (one n) : Nat)
theorem L_append {a b : List Val} {n : Nat} : L (a ++ b) n = L a n + L b n := by unfold L; rw [lsum_append]; rfl
section
variable {s s' : S} {X Y : Nat → Prop} {f : Nat → Int}
theorem kids_congr (h1 : s'.tab = s.tab) {n : Nat} (h2 : (s'.cell n).slots = (s.cell n).slots) : s'.kids n = s.kids n := by unfold S.kids S.heldBy; rw [h1, h2]
theorem add_closed {m : Nat} (hids : s'.ids = s.ids ++ [m]) (hk : ∀ n ∈ s.ids, s'.kids n = s.kids n) {C : Nat → Prop} (hc : Closed s' C) : Closed s C := fun n hn hC k hkk => hc n (by rw [hids]; exact List.mem_append_left _ hn) hC k (by rw [hk n hn]; exact hkk)
theorem Susp.addCell {m : Nat} (h : Susp s X) (hids : s'.ids = s.ids ++ [m]) (hv : s'.vars = s.vars) (hb : s'.buffer = s.buffer) (hk : ∀ n ∈ s.ids, s'.kids n = s.kids n) : Susp s' fun k => X k ∨ k = m := fun C hc hr hB hX n hn => by
  rw [hids, List.mem_append, List.mem_singleton] at hn
  rcases hn with hn | rfl
  · exact h C (add_closed hids hk hc) (by unfold Roots at hr ⊢; rw [hv] at hr; exact hr) (by rw [hb] at hB; exact hB) (fun k hk => hX k (.inl hk)) n hn
  · exact hX _ (.inr rfl)
theorem new_kids (ok : Ok s f) {t : Srt} {n : Nat} (hn : n ∈ s.ids) : (s.newCell t).kids n = s.kids n := by
  have := (ok.pos n hn).2
  refine kids_congr (s := s) (s' := s.newCell t) rfl ?_
  show (if n = s.last + 1 then Cel.new t else s.cell n).slots = _; rw [if_neg (by walk_at "om")]
theorem copied_facts (ok : Ok s f) (c : Nat) : (s.copied c).vars = s.vars ∧ (∀ n ∈ s.ids, (s.copied c).kids n = s.kids n) ∧ ((s.copied c).cell (s.last + 1)).sort = .arr := by
  have CI := (⟨rfl, rfl, rfl, fun _ => rfl, fun _ _ => rfl⟩ : CopyInv c (s.last + 1) { s.newCell .arr with logn := s.logn + 1 } { s.newCell .arr with logn := s.logn + 1 }).fold (s.cell c).slots
  refine ⟨CI.vars, fun n hn => kids_congr (Ext.copied).tab ?_, ?_⟩
  · have := (ok.pos n hn).2
    show (((s.cell c).slots.foldl (S.copyOne c (s.last + 1)) _).cell n).slots = _
    rw [CI.slots n (by walk_at "om")]
    show (if n = s.last + 1 then Cel.new .arr else s.cell n).slots = _; rw [if_neg (by walk_at "om")]
  · show (((s.cell c).slots.foldl (S.copyOne c (s.last + 1)) _).cell (s.last + 1)).sort = _
    rw [CI.sort]
    show (if s.last + 1 = s.last + 1 then Cel.new .arr else s.cell (s.last + 1)).sort = _; rw [if_pos rfl]; rfl
@[simp] theorem S.gain_cellOf {s : S} {v u : Val} : (s.gain v).cellOf u = s.cellOf u := by unfold S.cellOf; simp
@[simp] theorem S.gain_slot0 {s : S} {v : Val} {n : Nat} : (s.gain v).slot0 n = s.slot0 n := by unfold S.slot0; simp
theorem S.gain_inner {s : S} {v u : Val} : (s.gain v).inner u = s.inner u := by unfold S.inner; simp
theorem S.gain_valueOf {s : S} {v : Val} {a : Int} : (s.gain v).valueOf a = s.valueOf a := by unfold S.valueOf; rw [S.gain_inner, S.gain_vars]
theorem S.gain_plain {s : S} {v u : Val} (h : s.plain u) : (s.gain v).plain u := fun k hk => by rw [S.gain_sort]; exact h k hk
/-- a value written into a variable is reached -/
theorem written_vars_reach (ok : Ok s f) {a : Int} {m : Nat} : Reach (s.written .vars a (.cell m)).1 m := by
  have base : Reach (s.put .vars (dput (s.at .vars) a (.cell m))) m := Reach.var (e := (a, .cell m)) mem_dput_self rfl
  unfold S.written
  cases q : dget (s.at .vars) a with
  | none => exact base
  | some u =>
    cases u with
    | int k => exact base
    | cell r =>
      dsimp only
      split
      · rename_i hrf
        obtain ⟨r', e, hm, hs⟩ := S.isRef_cell hrf
        cases e
        have h1 : Reach (s.put (.slots r) (dput (s.cell r).slots 0 (.cell m))) r := Reach.var (e := (a, .cell r)) (dget_some q) rfl
        exact h1.kid (by simpa using hm) (mem_put_kids.mpr (.inr ⟨(0, .cell m), mem_dput_self, rfl⟩))
      · exact base
structure Cont (s : S) (f : Nat → Int) (X : Nat → Prop) (c : S × Nat × List Val) : Prop where
  ok : Ok c.1 fun n => f n + L c.2.2 n
  susp : Susp c.1 fun k => X k ∨ .cell k ∈ c.2.2
  ext : Ext 1 s c.1
  mem : c.2.1 ∈ c.1.ids
  arr : (c.1.cell c.2.1).sort ≠ .rf
  reach : Reach c.1 c.2.1
theorem Ok.container (h : Ok s f) (hX : Susp s X) {a : Int} {n : Nat} (ha : 0 ≤ a ∧ a < 4) (hn : s.valueOf a = .cell n) (h0 : f (s.last + 1) = 0) : Cont s f X (s.container a n) := by
  have hv := h.valueOf a
  have hm := hv.2 n hn
  unfold S.container
  split
  · exact ⟨h.congr fun n _ => by simp [L, lsum], hX.mono fun k hk => .inl hk, (Ext.refl).le (by decide), hm, hv.1 n hn, valueOf_reach hn⟩
  · dsimp only
    have hf := copied_facts h n
    have A := h.copied hm h0
    have SA : Susp (s.copied n) fun k => X k ∨ k = s.last + 1 := hX.addCell S.copied_ids' hf.1 (Ext.copied).buf hf.2.1
    have hmA : s.last + 1 ∈ (s.copied n).ids := by rw [S.copied_ids']; simp
    have EA : Ext 1 s (s.copied n) := Ext.copied
    have hsort := hf.2.2
    generalize s.copied n = s1 at A SA hmA EA hsort
    have B := A.gain (.cell (s.last + 1)) fun k hk => by cases hk; exact hmA
    have SB : Susp (s1.gain (.cell (s.last + 1))) fun k => X k ∨ k = s.last + 1 := Same.gain.susp (fun b hb => by simpa using hb) SA
    have EB : Ext 1 s (s1.gain (.cell (s.last + 1))) := EA.trans Ext.gain
    have hmB : s.last + 1 ∈ (s1.gain (.cell (s.last + 1))).ids := by rw [S.gain_ids]; exact hmA
    have hsB : ((s1.gain (.cell (s.last + 1))).cell (s.last + 1)).sort ≠ .rf := by rw [S.gain_sort, hsort]; decide
    generalize s1.gain (.cell (s.last + 1)) = s2 at B SB EB hmB hsB
    have Cc := B.written (p := .vars) trivial (i := a) (v := .cell (s.last + 1)) ha (fun k hk => by cases hk; exact hmB) (fun k hk => by cases hk; exact hsB) nofun
    have SC := SB.written (Y := fun k => X k ∨ .cell k ∈ (s2.written .vars a (.cell (s.last + 1))).2) B (p := .vars) trivial (fun i q => by cases q) (i := a) (v := .cell (s.last + 1)) nofun (fun k hk => hk.elim (fun hk => .inl (.inl hk)) fun hk => .inr (by rw [hk])) fun k hk => .inr hk
    have EC : Ext 1 s (s2.written .vars a (.cell (s.last + 1))).1 := EB.trans (Ext.written fun i q => by cases q)
    refine ⟨Cc.congr fun k _ => ?_, SC, EC, by rw [S.written_ids]; exact hmB, ?_, written_vars_reach B⟩
    · simp only [L]; walk_at "om"
    · have : ∀ k, ((s2.written .vars a (.cell (s.last + 1))).1.cell k).sort = (s2.cell k).sort := fun k => by
        unfold S.written; split
        · split <;> simp
        · simp
        · simp
      rw [this]; exact hsB
structure Done (k : Nat) (s : S) (p : S × List Val) : Prop where
  ok : Ok p.1 (L p.2)
  susp : Susp p.1 fun k => .cell k ∈ p.2
  ext : Ext k s p.1
  len : p.2.length ≤ 2
/-- the state between deeds -/
structure Calm (s : S) : Prop where
  ok : Ok s fun _ => 0
  susp : Susp s fun _ => False
theorem written_done {k : Nat} {s0 : S} (h : Ok s f) (hX : Susp s X) (he : Ext k s0 s) {p : Pl} (hp : p.ok s) (hne : ∀ i, p ≠ .ent i) {i : Int} {v : Val} (hi : p.key s i) (hv : ∀ k, v = .cell k → k ∈ s.ids) (hpl : s.plain v) (hrf : ∀ c, p = .slots c → (s.cell c).sort ≠ .rf) (hr : ∀ c, p = .slots c → Reach s c)
    {ls : List Val} (hf : ∀ n, f n = L ls n + (one n v : Nat)) (hXv : ∀ k, X k → v = .cell k ∨ .cell k ∈ ls) (hl : ls.length ≤ 1) : Done k s0 ((s.written p i v).1, ls ++ (s.written p i v).2) := by
  refine ⟨(h.written hp hi hv hpl hrf).congr fun n _ => ?_, hX.written h hp hne hr (fun k hk => ?_) (fun k hk => List.mem_append_right _ hk), he.trans (Ext.written hne), ?_⟩
  · rw [hf n, L_append]; simp only [L]; walk_at "om"
  · rcases hXv k hk with q | q
    · exact .inr q
    · exact .inl (List.mem_append_left _ q)
  · have := S.written_len (s := s) (p := p) (i := i) (v := v)
    rw [List.length_append]; walk_at "om"
theorem done_setInt (h : Calm s) {a n : Int} (ha : 0 ≤ a ∧ a < 4) : Done 2 s (s.setInt a n) := written_done (ls := []) h.ok h.susp ((Ext.refl).le (by decide)) (p := .vars) trivial (fun i q => by cases q) (v := .int n) ha nofun nofun nofun nofun (fun k => by simp [L, lsum, one_ne]) (fun k hk => hk.elim) (by decide)
theorem done_new (h : Calm s) {a : Int} (ha : 0 ≤ a ∧ a < 4) {t : Srt} (ht : t ≠ .rf) : Done 2 s (((s.newCell t).gain (.cell (s.last + 1))).written .vars a (.cell (s.last + 1))) := by
  have A := h.ok.newCell ht rfl
  have hids : (s.newCell t).ids = s.ids ++ [s.last + 1] := rfl
  have SA : Susp (s.newCell t) fun k => False ∨ k = s.last + 1 := h.susp.addCell hids rfl rfl fun n hn => new_kids h.ok hn
  have EA : Ext 1 s (s.newCell t) := Ext.newCell (l := s.logn)
  have hm : s.last + 1 ∈ (s.newCell t).ids := by rw [hids]; simp
  have hs : ((s.newCell t).cell (s.last + 1)).sort ≠ .rf := by
    show (if s.last + 1 = s.last + 1 then Cel.new t else s.cell (s.last + 1)).sort ≠ _; rw [if_pos rfl]; exact ht
  generalize s.newCell t = s1 at A SA EA hm hs
  refine written_done (ls := []) (A.gain (.cell (s.last + 1)) fun k hk => by cases hk; exact hm) (Same.gain.susp (fun b hb => by simpa using hb) SA) ((EA.trans Ext.gain).le (by decide)) (p := .vars) trivial (fun i q => by cases q) ha (fun k hk => by cases hk; rw [S.gain_ids]; exact hm) (fun k hk => by cases hk; rw [S.gain_sort]; exact hs) nofun nofun (fun n => by simp [L, lsum]) (fun k hk => hk.elim False.elim fun q => .inl (by rw [q])) (by decide)
theorem done_assign (h : Calm s) {a b : Int} (ha : 0 ≤ a ∧ a < 4) : Done 2 s (s.assign a b) := by
  have hv := h.ok.valueOf b
  unfold S.assign
  generalize s.valueOf b = v at hv
  exact written_done (ls := []) (h.ok.gain v hv.2) (Same.gain.susp (fun b hb => by simpa using hb) h.susp) ((Ext.gain).le (by decide)) (p := .vars) trivial (fun i q => by cases q) ha (fun k hk => by rw [S.gain_ids]; exact hv.2 k hk) (S.gain_plain hv.1) nofun nofun (fun n => by simp [L, lsum]) (fun k hk => hk.elim) (by decide)
theorem done_nil (h : Calm s) : Done 2 s (s, []) := ⟨h.ok.congr fun n _ => rfl, h.susp.mono fun k hk => hk.elim, (Ext.refl).le (by decide), Nat.zero_le 2⟩
theorem isCell_iff {v : Val} : v.isCell = true ↔ ∃ k, v = .cell k := by cases v <;> simp [Val.isCell]
theorem done_put (h : Calm s) {a k b : Int} (ha : 0 ≤ a ∧ a < 4) (hk : 0 ≤ k ∧ k < 2) : Done 2 s (s.putD a k b) ∧ s.deedOk (.put a k b) := by
  have hb := h.ok.valueOf b
  have hd : s.deedOk (.put a k b) := fun hc => by
    obtain ⟨c, hc⟩ := isCell_iff.mp hc
    exact ⟨c, by rw [S.gain_valueOf]; exact hc, (h.ok.valueOf a).2 c hc⟩
  refine ⟨?_, hd⟩
  unfold S.putD
  split
  · rename_i hc
    obtain ⟨c, hc, hm⟩ := hd hc
    dsimp only
    rw [hc]; dsimp only
    have A := h.ok.gain (s.valueOf b) hb.2
    have SA : Susp (s.gain (s.valueOf b)) fun _ => False := Same.gain.susp (fun b hb => by simpa using hb) h.susp
    have EA : Ext 0 s (s.gain (s.valueOf b)) := Ext.gain
    have h0 : (0 : Int) + (one (s.last + 1) (s.valueOf b) : Nat) = 0 := by
      rw [one_ne fun q => by have := (h.ok.pos _ (hb.2 _ q)).2; walk_at "om"]; rfl
    have hbm : ∀ k, s.valueOf b = .cell k → k ∈ (s.gain (s.valueOf b)).ids := fun k hk => by rw [S.gain_ids]; exact hb.2 k hk
    have hbp := S.gain_plain (v := s.valueOf b) hb.1
    have hle : (s.gain (s.valueOf b)).last = s.last := S.gain_last
    have hble : ∀ k, s.valueOf b = .cell k → k ≤ s.last := fun k hk => (h.ok.pos k (hb.2 k hk)).2
    generalize s.valueOf b = v at *
    generalize hs1 : s.gain v = s1 at *
    have K := A.container SA ha hc (by rw [hle]; exact h0)
    have EK : Ext 2 s (s1.container a c).1 := (EA.trans K.ext).le (by decide)
    refine written_done (ls := (s1.container a c).2.2) K.ok K.susp EK (p := .slots _) K.mem (fun i q => by cases q) hk (fun j hj => K.ext.ids j (hbm j hj)) (fun j hj => ?_) (fun j hj => by cases hj; exact K.arr) (fun j hj => by cases hj; exact K.reach) (fun n => by simp; walk_at "om") (fun j hj => hj.elim False.elim .inr) S.container_len
    rw [K.ext.sort j (by rw [hle]; exact hble j hj)]; exact hbp j hj
  · exact done_nil h
end
end
section
section
variable {s s' : S} {X Y : Nat → Prop} {f : Nat → Int}
structure RefNew (s s' : S) (i : Int) (held : Val) : Prop where
  ids : s'.ids = s.ids ++ [s.last + 1]
  vars : s'.vars = dput s.vars i (.cell (s.last + 1))
  cell : ∀ n, n ≠ s.last + 1 → s'.cell n = s.cell n
  slots : (s'.cell (s.last + 1)).slots = [(0, held)]
  sort : (s'.cell (s.last + 1)).sort = .rf
  tab : s'.tab = s.tab
  buffer : s'.buffer = s.buffer
theorem refIn_new {i : Int} (h : s.isRef ((dget s.vars i).getD (.int 0)) = false) : RefNew s (s.refIn i).1 i ((dget s.vars i).getD (.int 0)) ∧ (s.refIn i).2 = .cell (s.last + 1) := by
  unfold S.refIn
  dsimp only
  rw [if_neg (by rw [h]; decide)]
  generalize (dget s.vars i).getD (.int 0) = held
  have e1 : (s.newCell .rf).cell (s.last + 1) = Cel.new .rf := if_pos rfl
  have e2 : (s.newCell .rf).at (.slots (s.last + 1)) = [] := by show ((s.newCell .rf).cell (s.last + 1)).slots = []; rw [e1]; rfl
  rw [e2]
  have e3 : ∀ n, n ≠ s.last + 1 → ((s.newCell .rf).put (.slots (s.last + 1)) (dput [] 0 held)).cell n = s.cell n := fun n hn => by
    rw [S.put_slots_ne hn]; exact if_neg hn
  have e4 : (((s.newCell .rf).put (.slots (s.last + 1)) (dput [] 0 held)).cell (s.last + 1)).slots = [(0, held)] := S.put_slots_same
  have e5 : (((s.newCell .rf).put (.slots (s.last + 1)) (dput [] 0 held)).cell (s.last + 1)).sort = .rf := by rw [S.put_sort, e1]; rfl
  have e6 : ((s.newCell .rf).put (.slots (s.last + 1)) (dput [] 0 held)).ids = s.ids ++ [s.last + 1] := rfl
  have e7 : ((s.newCell .rf).put (.slots (s.last + 1)) (dput [] 0 held)).vars = s.vars := rfl
  have e8 : ((s.newCell .rf).put (.slots (s.last + 1)) (dput [] 0 held)).tab = s.tab := rfl
  have e9 : ((s.newCell .rf).put (.slots (s.last + 1)) (dput [] 0 held)).buffer = s.buffer := rfl
  generalize (s.newCell .rf).put (.slots (s.last + 1)) (dput [] 0 held) = s1 at *
  refine ⟨⟨?_, ?_, ?_, ?_, ?_, ?_, ?_⟩, rfl⟩
  · rw [S.put_ids, S.gain_ids, e6]
  · show dput (s1.gain _).vars i _ = _; rw [S.gain_vars, e7]
  · intro n hn
    show (s1.gain _).cell n = _
    unfold S.gain
    split
    · rename_i k hk
      obtain ⟨q, _⟩ := S.cellOf_some hk
      cases q
      show (if n = s.last + 1 then _ else s1.cell n) = _
      rw [if_neg hn, e3 n hn]
    · exact e3 n hn
  · show ((s1.gain _).cell _).slots = _; rw [S.gain_slots, e4]
  · show ((s1.gain _).cell _).sort = _; rw [S.gain_sort, e5]
  · show (s1.gain _).tab = _; rw [S.gain_tab, e8]
  · show (s1.gain _).buffer = _; rw [S.gain_buffer, e9]
theorem refIn_old {i : Int} (h : s.isRef ((dget s.vars i).getD (.int 0)) = true) : s.refIn i = (s, (dget s.vars i).getD (.int 0)) := by
  unfold S.refIn; dsimp only; rw [if_pos h]
theorem RefNew.closed {i : Int} {held : Val} (r : RefNew s s' i held) (ok : Ok s f) (hh : held = (dget s.vars i).getD (.int 0)) {C : Nat → Prop} (hc : Closed s' C) (hr : Roots s' C) : Closed s C ∧ Roots s C ∧ C (s.last + 1) := by
  have hC : C (s.last + 1) := hr (i, .cell (s.last + 1)) (by rw [r.vars]; exact mem_dput_self) _ rfl
  refine ⟨fun n hn hCn k hk => hc n (by rw [r.ids]; exact List.mem_append_left _ hn) hCn k ?_, fun e he k hk => ?_, hC⟩
  · have : n ≠ s.last + 1 := fun q => by have := (ok.pos n hn).2; walk_at "om"
    rw [kids_congr r.tab (by rw [r.cell n this])]; exact hk
  · by_cases q : e.1 = i
    · have hd : dget s.vars i = some e.2 := dget_mem ok.vnd (by rw [← q]; exact he)
      rw [hd, hk] at hh
      refine hc _ (by rw [r.ids]; simp) hC k (mem_kids.mpr (.inr ⟨(0, held), by rw [r.slots]; simp, hh⟩))
    · exact hr e (by rw [r.vars]; exact mem_dput_of he q) k hk
theorem refIn_susp (ok : Ok s f) (h : Susp s X) {i : Int} : Susp (s.refIn i).1 X := by
  cases q : s.isRef ((dget s.vars i).getD (.int 0)) with
  | true => rw [refIn_old q]; exact h
  | false =>
    have r := (refIn_new q).1
    intro C hc hr hB hX n hn
    obtain ⟨h1, h2, h3⟩ := r.closed ok rfl hc hr
    rw [r.ids, List.mem_append, List.mem_singleton] at hn
    rcases hn with hn | rfl
    · exact h C h1 h2 (by rw [r.buffer] at hB; exact hB) hX n hn
    · exact h3
theorem inner_plain {v : Val} (h : s.isRef v = false) : s.inner v = v := by
  unfold S.inner
  unfold S.isRef at h
  cases q : s.cellOf v with
  | none => rfl
  | some n => rw [q] at h; dsimp only at h ⊢; rw [if_neg (by simpa using h)]
theorem refIn_valueOf (ok : Ok s f) {i a : Int} : (s.refIn i).1.valueOf a = s.valueOf a := by
  cases q : s.isRef ((dget s.vars i).getD (.int 0)) with
  | true => rw [refIn_old q]
  | false =>
    have r := (refIn_new q).1
    unfold S.valueOf
    rw [r.vars, dget_dput]
    by_cases z : a = i
    · subst z
      rw [if_pos rfl, inner_plain q]
      have hm : s.last + 1 ∈ (s.refIn a).1.ids := by rw [r.ids]; simp
      show (s.refIn a).1.inner (.cell (s.last + 1)) = _
      unfold S.inner
      rw [S.cellOf_cell hm]; dsimp only
      rw [if_pos r.sort]; unfold S.slot0; rw [r.slots]; rfl
    · rw [if_neg z]
      have hv := ok.var a
      generalize (dget s.vars a).getD (.int 0) = v at hv
      unfold S.inner
      cases v with
      | int k => rfl
      | cell k =>
        have hk := hv k rfl
        have hk' : k ∈ (s.refIn i).1.ids := by rw [r.ids]; exact List.mem_append_left _ hk
        have hne : k ≠ s.last + 1 := fun q => by have := (ok.pos k hk).2; walk_at "om"
        rw [S.cellOf_cell hk, S.cellOf_cell hk']; dsimp only
        unfold S.slot0
        rw [r.cell k hne]
/-- a value put in, the old one is lost -/
theorem replaced_done {k : Nat} {s0 : S} (h : Ok s f) (hX : Susp s X) (he : Ext k s0 s) {p : Pl} (hp : p.ok s) (hne : ∀ i, p ≠ .ent i) {i : Int} {v : Val} (hi : p.key s i) (hv : ∀ k, v = .cell k → k ∈ s.ids) (hrf : ∀ c, p = .slots c → (s.cell c).sort ≠ .rf) (hr : ∀ c, p = .slots c → Reach s c)
    {ls : List Val} (hf : ∀ n, f n = L ls n + (one n v : Nat)) (hXv : ∀ k, X k → v = .cell k ∨ .cell k ∈ ls) (hl : ls.length ≤ 1) : Done k s0 ((s.replaced p i v).1, ls ++ (s.replaced p i v).2) := by
  unfold S.replaced
  have hX' : ∀ k, X k → .cell k ∈ ls ++ (dget (s.at p) i).toList ∨ ∃ e ∈ Mine.Internal.dput (s.at p) i v, e.2 = .cell k := fun k hk => (hXv k hk).elim (fun q => .inr ⟨(i, v), mem_dput_self, q⟩) fun q => .inl (List.mem_append_left _ q)
  refine ⟨(h.dput hp hi hv fun c hc hs => absurd hs (hrf c hc)).congr fun n _ => ?_, ?_, he.trans (Ext.put hne), ?_⟩
  · rw [hf n, L_append]; simp only [L]; walk_at "om"
  · cases p with
    | vars => exact hX.putVars (i := i) hX' fun e he => (dput_old h.vnd e he).imp_right fun q k hk => List.mem_append_right _ (q k hk)
    | slots c => exact hX.putSlots hp (.inl (hr c rfl)) hX' fun e he => (dput_old (h.snd c hp) e he).imp_right fun q k hk => List.mem_append_right _ (q k hk)
    | ent i => exact absurd rfl (hne i)
  · have := toList_len (dget (s.at p) i)
    show (ls ++ (dget (s.at p) i).toList).length ≤ 2
    rw [List.length_append]; walk_at "om"
theorem takenOut_done {k : Nat} {s0 : S} (h : Ok s f) (hX : Susp s X) (he : Ext k s0 s) {p : Pl} (hp : p.ok s) (hne : ∀ i, p ≠ .ent i) {i : Int} (hrf : ∀ c, p = .slots c → (s.cell c).sort ≠ .rf)
    {ls : List Val} (hf : ∀ n, f n = L ls n) (hXv : ∀ k, X k → .cell k ∈ ls) (hl : ls.length ≤ 1) : Done k s0 ((s.takenOut p i).1, ls ++ (s.takenOut p i).2) := by
  unfold S.takenOut
  refine ⟨(h.ddel hp hrf).congr fun n _ => ?_, ?_, he.trans (Ext.put hne), ?_⟩
  · rw [hf n, L_append]; simp only [L]
  · cases p with
    | vars => exact hX.putVars (i := i) (fun k hk => .inl (List.mem_append_left _ (hXv k hk))) fun e he => (ddel_old h.vnd e he).imp_right fun q k hk => List.mem_append_right _ (q k hk)
    | slots c => exact hX.putSlots' (fun k hk => List.mem_append_left _ (hXv k hk)) fun e he => (ddel_old (h.snd c hp) e he).imp_right fun q k hk => List.mem_append_right _ (q k hk)
    | ent i => exact absurd rfl (hne i)
  · have := toList_len (dget (s.at p) i)
    show (ls ++ (dget (s.at p) i).toList).length ≤ 2
    rw [List.length_append]; walk_at "om"
theorem done_makeRef (h : Calm s) {a b : Int} (ha : 0 ≤ a ∧ a < 4) (hb : 0 ≤ b ∧ b < 4) : Done 2 s (s.makeRef a b) := by
  obtain ⟨A, r, hr, hm⟩ := h.ok.refIn hb rfl
  have SA := refIn_susp h.ok h.susp (i := b)
  have EA : Ext 1 s (s.refIn b).1 := Ext.refIn
  unfold S.makeRef
  rw [hr]
  generalize (s.refIn b).1 = s1 at *
  exact replaced_done (ls := []) (A.gain (.cell r) fun k hk => by cases hk; exact hm) (Same.gain.susp (fun b hb => by simpa using hb) SA) ((EA.trans Ext.gain).le (by decide)) (p := .vars) trivial (fun i q => by cases q) ha (fun k hk => by cases hk; rw [S.gain_ids]; exact hm) nofun nofun (fun n => by simp [L, lsum]) (fun k hk => hk.elim) (by decide)
theorem done_unset (h : Calm s) {a : Int} : Done 2 s (s.unset a) := takenOut_done (ls := []) h.ok h.susp ((Ext.refl).le (by decide)) (p := .vars) trivial (fun i q => by cases q) nofun (fun n => by simp [L, lsum]) (fun k hk => hk.elim) (by decide)
theorem done_unsetAt (h : Calm s) {a k : Int} (ha : 0 ≤ a ∧ a < 4) : Done 2 s (s.unsetAt a k) ∧ s.deedOk (.unsetAt a k) := by
  have hd : s.deedOk (.unsetAt a k) := fun hc => by
    obtain ⟨c, hc⟩ := isCell_iff.mp hc
    exact ⟨c, hc, (h.ok.valueOf a).2 c hc⟩
  refine ⟨?_, hd⟩
  unfold S.unsetAt
  split
  · rename_i hc
    obtain ⟨c, hc, hm⟩ := hd hc
    rw [hc]; dsimp only
    have K := h.ok.container h.susp ha hc rfl
    exact takenOut_done (ls := (s.container a c).2.2) K.ok K.susp (K.ext.le (by decide)) (p := .slots _) K.mem (fun i q => by cases q) (fun j hj => by cases hj; exact K.arr) (fun n => by simp) (fun j hj => hj.elim False.elim id) S.container_len
  · exact done_nil h
theorem done_putRef (h : Calm s) {a k b : Int} (ha : 0 ≤ a ∧ a < 4) (hk : 0 ≤ k ∧ k < 2) (hb : 0 ≤ b ∧ b < 4) : Done 2 s (s.putRef a k b) ∧ s.deedOk (.putRef a k b) := by
  have hd : s.deedOk (.putRef a k b) := fun hc => by
    obtain ⟨c, hc⟩ := isCell_iff.mp hc
    refine ⟨c, by rw [S.gain_valueOf, refIn_valueOf h.ok]; exact hc, (Ext.refIn (i := b)).ids c ((h.ok.valueOf a).2 c hc)⟩
  refine ⟨?_, hd⟩
  unfold S.putRef
  split
  · rename_i hc
    obtain ⟨c, hc, hm⟩ := hd hc
    dsimp only
    rw [hc]; dsimp only
    obtain ⟨A, r, hr, hrm⟩ := h.ok.refIn hb rfl
    have SA := refIn_susp h.ok h.susp (i := b)
    have EA : Ext 1 s (s.refIn b).1 := Ext.refIn
    rw [hr] at hc ⊢
    generalize (s.refIn b).1 = s1 at *
    have B := A.gain (.cell r) fun k hk => by cases hk; exact hrm
    have SB : Susp (s1.gain (.cell r)) fun _ => False := Same.gain.susp (fun b hb => by simpa using hb) SA
    have EB : Ext 1 s (s1.gain (.cell r)) := EA.trans Ext.gain
    have hrm2 : r ∈ (s1.gain (.cell r)).ids := by rw [S.gain_ids]; exact hrm
    have h0 : (0 : Int) + (one ((s1.gain (.cell r)).last + 1) (.cell r) : Nat) = 0 := by
      have z : Val.cell r ≠ .cell ((s1.gain (.cell r)).last + 1) := fun q => by
        have q : r = (s1.gain (.cell r)).last + 1 := by injection q
        have := (B.pos _ hrm2).2; walk_at "om"
      rw [one_ne z]; rfl
    generalize s1.gain (.cell r) = s2 at *
    have K := B.container SB ha hc h0
    exact replaced_done (ls := (s2.container a c).2.2) K.ok K.susp (EB.trans K.ext) (p := .slots _) K.mem (fun i q => by cases q) hk (fun j hj => by cases hj; exact K.ext.ids r hrm2) (fun j hj => by cases hj; exact K.arr) (fun j hj => by cases hj; exact K.reach) (fun n => by simp; walk_at "om") (fun j hj => hj.elim False.elim .inr) S.container_len
  · exact done_nil h
noncomputable def V4 (a : Int) : Prop := 0 ≤ a ∧ a < 4
noncomputable def Deed.fit : Deed → Prop
  | .newObject a => V4 a | .newArray a => V4 a | .makeRef a b => V4 a ∧ V4 b | .put a k b => V4 a ∧ 0 ≤ k ∧ k < 2 | .assign a b => V4 a | .setInt a n => V4 a | .putRef a k b => V4 a ∧ (0 ≤ k ∧ k < 2) ∧ V4 b | .unset a => True | .unsetAt a k => V4 a
theorem Calm.change (h : Calm s) {d : Deed} (hd : d.fit) : Done 2 s (s.change d) ∧ s.deedOk d := by
  cases d with
  | newObject a => exact ⟨done_new h hd (by decide), trivial⟩
  | newArray a => exact ⟨done_new h hd (by decide), trivial⟩
  | makeRef a b => exact ⟨done_makeRef h hd.1 hd.2, trivial⟩
  | put a k b => exact done_put h hd.1 hd.2
  | assign a b => exact ⟨done_assign h hd, trivial⟩
  | setInt a n => exact ⟨done_setInt h hd, trivial⟩
  | putRef a k b => exact done_putRef h hd.1 hd.2.1 hd.2.2
  | unset a => exact ⟨done_unset h, trivial⟩
  | unsetAt a k => exact done_unsetAt h hd
end
end
section
/-! ## settling -/
noncomputable def S.okeys (s : S) : Prop := ∀ i, i < 2 → ∀ e ∈ s.tab i, ∀ n : Nat, e.1 = (n : Nat) → (s.cell n).sort = .obj
structure Pend (s : S) (T : List Val) : Prop where
  ok : Ok s (L T)
  susp : Susp s fun k => .cell k ∈ T
  okeys : s.okeys
/-- what losing changes -/
structure Lost (s s' : S) : Prop where
  ids : ∀ n ∈ s'.ids, n ∈ s.ids
  vars : s'.vars = s.vars
  last : s'.last = s.last
  tab : ∀ i, i < 2 → s'.tab i = (s.tab i).filter fun e => decide (e.1.toNat ∈ s'.ids)
  sort : ∀ n, (s'.cell n).sort = (s.cell n).sort
  slots : ∀ n, (s'.cell n).slots = (s.cell n).slots
  weak : ∀ n, (s'.cell n).weak = (s.cell n).weak
section
variable {s s' : S} {X Y : Nat → Prop} {f : Nat → Int} {T : List Val}
theorem Ok.tfilter (h : Ok s f) {i : Nat} (hi : i < 2) : (s.tab i).filter (fun e => decide (e.1.toNat ∈ s.ids)) = s.tab i := List.filter_eq_self.mpr fun e he => by
  obtain ⟨n, hn, q⟩ := h.tkey i hi e he
  rw [q]; simpa using hn
theorem Lost.same (h : Ok s f) (hi : s'.ids = s.ids) (hv : s'.vars = s.vars) (hl : s'.last = s.last) (ht : s'.tab = s.tab) (h1 : ∀ n, (s'.cell n).sort = (s.cell n).sort) (h2 : ∀ n, (s'.cell n).slots = (s.cell n).slots) (h3 : ∀ n, (s'.cell n).weak = (s.cell n).weak) : Lost s s' :=
  ⟨fun n hn => by rw [hi] at hn; exact hn, hv, hl, fun i q => by rw [hi, h.tfilter q, ht], h1, h2, h3⟩
theorem Lost.refl (h : Ok s f) : Lost s s := Lost.same h rfl rfl rfl rfl (fun _ => rfl) (fun _ => rfl) fun _ => rfl
theorem Lost.trans {a b c : S} (x : Lost a b) (y : Lost b c) : Lost a c where
  ids := fun n h => x.ids n (y.ids n h)
  vars := y.vars.trans x.vars
  last := y.last.trans x.last
  tab := fun i hi => by
    rw [y.tab i hi, x.tab i hi, List.filter_filter]
    apply List.filter_congr
    intro e _
    by_cases q : e.1.toNat ∈ c.ids
    · simp [q, y.ids _ q]
    · simp [q]
  sort := fun n => (y.sort n).trans (x.sort n)
  slots := fun n => (y.slots n).trans (x.slots n)
  weak := fun n => (y.weak n).trans (x.weak n)
theorem upd_field {α : Type} {s : S} {m n : Nat} {u : Cel → Cel} (g : Cel → α) (h : ∀ c, g (u c) = g c) : g ((s.upd m u).cell n) = g (s.cell n) := by
  rw [S.upd_cell]
  split
  · rename_i q; rw [q, h]
  · rfl
theorem addCount_facts (s : S) (m : Nat) (d : Int) : (∀ n, ((s.addCount m d).cell n).sort = (s.cell n).sort) ∧ (∀ n, ((s.addCount m d).cell n).slots = (s.cell n).slots) ∧ (∀ n, ((s.addCount m d).cell n).weak = (s.cell n).weak) := by
  exact ⟨fun n => upd_field (u := fun c => { c with count := c.count + d }) Cel.sort fun _ => rfl, fun n => upd_field (u := fun c => { c with count := c.count + d }) Cel.slots fun _ => rfl, fun n => upd_field (u := fun c => { c with count := c.count + d }) Cel.weak fun _ => rfl⟩
theorem suspect_facts (s : S) (m : Nat) : (s.suspect m).ids = s.ids ∧ (s.suspect m).vars = s.vars ∧ (s.suspect m).last = s.last ∧ (s.suspect m).tab = s.tab ∧ (∀ n, ((s.suspect m).cell n).sort = (s.cell n).sort) ∧ (∀ n, ((s.suspect m).cell n).slots = (s.cell n).slots) ∧ (∀ n, ((s.suspect m).cell n).weak = (s.cell n).weak) ∧ (∀ b ∈ s.buffer, b ∈ (s.suspect m).buffer) ∧ (s.suspect m).freed = s.freed := by
  unfold S.suspect
  split
  · exact ⟨rfl, rfl, rfl, rfl, fun _ => rfl, fun _ => rfl, fun _ => rfl, fun _ h => h, rfl⟩
  · rename_i t _
    split
    · exact ⟨rfl, rfl, rfl, rfl, fun _ => rfl, fun _ => rfl, fun _ => rfl, fun _ h => h, rfl⟩
    · have key : ∀ {α : Type} (g : Cel → α), (∀ c : Cel, g { c with col := .purple } = g c) → (∀ c : Cel, g { c with buf := true } = g c) → ∀ n, g (((s.upd t fun c => { c with col := .purple }).upd t fun c => { c with buf := true }).cell n) = g (s.cell n) := fun g h1 h2 n => (upd_field g h2).trans (upd_field g h1)
      exact ⟨rfl, rfl, rfl, rfl, key Cel.sort (fun _ => rfl) fun _ => rfl, key Cel.slots (fun _ => rfl) fun _ => rfl, key Cel.weak (fun _ => rfl) fun _ => rfl, fun b h => List.mem_append_left _ h, rfl⟩
theorem target_buf (h : Ok s f) {m t : Nat} (hm : m ∈ s.ids) (ht : s.target m = some t) : t ∈ (s.suspect m).buffer := by
  have htm := target_mem h hm ht
  unfold S.suspect
  rw [ht]; dsimp only
  split
  · rename_i q; exact (h.bmem t).mpr ⟨htm, q⟩
  · exact List.mem_append_right _ (by simp)
theorem rf_kids (h : Ok s f) (ho : s.okeys) {r k : Nat} (hr : r ∈ s.ids) (hs : (s.cell r).sort = .rf) (hk : k ∈ s.kids r) : s.slot0 r = .cell k := by
  rcases mem_kids.mp hk with ⟨i, hi, q⟩ | ⟨e, he, q⟩
  · have := ho i hi _ (dget_some q) r rfl
    rw [hs] at this; cases this
  · obtain ⟨e1, _⟩ := h.slot0 hr hs
    rw [e1, List.mem_singleton] at he
    rw [he] at q; exact q
theorem Pend.suspect {n : Nat} (h : Ok s (L T)) (hX : Susp s fun k => .cell k ∈ T ∨ k = n) (ho : s.okeys) (hn : n ∈ s.ids) (hc : 0 < (s.cell n).count) : Pend (s.suspect n) T := by
  obtain ⟨e1, e2, e3, e4, e5, e6, e7, e8, _⟩ := suspect_facts s n
  refine ⟨h.suspect hn, fun C hC hR hB hT m hm => ?_, fun i hi e he k q => by rw [e5]; rw [e4] at he; exact ho i hi e he k q⟩
  have SM : Same s (s.suspect n) := ⟨e1, e2, fun k => kids_congr e4 (e6 k)⟩
  have hC' : Closed s C := SM.closed.mp hC
  have hR' : Roots s C := SM.roots.mp hR
  rw [e1] at hm
  by_cases hs : (s.cell n).sort = .rf
  · have all := hX (fun k => C k ∨ k = n) (fun j hj hCj k hk => ?_) (fun e he k hk => .inl (hR' e he k hk)) (fun b hb => .inl (hB b (e8 b hb))) (fun k hk => hk.imp_left (hT k))
    · have other : ∀ j ∈ s.ids, j ≠ n → C j := fun j hj hne => (all j hj).resolve_right hne
      by_cases q : m = n
      · subst q
        have hp : 0 < (s.sum (one m) : Int) + L T m := by rw [← h.cnt m hn]; exact hc
        by_cases z : Val.cell m ∈ T
        · exact hT m z
        · have h0 : L T m = 0 := by
            have := (not_congr (lsum_pos (vs := T) (n := m))).mpr z
            unfold L; walk_at "om"
          have : Val.cell m ∈ s.allHeld := lsum_pos.mp (by have : 0 < s.sum (one m) := by walk_at "om"
                                                           exact this)
          rcases S.mem_allHeld.mp this with ⟨e, he, q⟩ | ⟨j, hj, e, he, q⟩ | ⟨i, hi, e, he, q⟩
          · exact hR' e he m q
          · have hne : j ≠ m := fun z => by
              subst z
              have hk := rf_kids h ho hn hs (mem_kids.mpr (.inr ⟨e, he, q⟩))
              exact (h.slot0 hn hs).2.1 j hk hs
            exact hC' j hj (other j hj hne) m (mem_kids.mpr (.inr ⟨e, he, q⟩))
          · obtain ⟨j, hj, qj⟩ := h.tkey i hi e he
            have hne : j ≠ m := fun z => by
              subst z
              have := ho i hi e he j qj
              rw [hs] at this; cases this
            refine hC' j hj (other j hj hne) m (mem_kids.mpr (.inl ⟨i, hi, ?_⟩))
            rw [← qj, ← q]; exact dget_mem (h.tnd i hi) (by exact he)
      · exact other m hm q
    · rcases hCj with hCj | rfl
      · exact .inl (hC' j hj hCj k hk)
      · have hk0 := rf_kids h ho hn hs hk
        have hka := h.kids hn hk
        have ht : s.target j = some k := by unfold S.target; rw [if_pos hs, hk0]; exact S.cellOf_cell hka
        exact .inl (hB k (target_buf h hn ht))
  · have ht : s.target n = some n := by unfold S.target; rw [if_neg hs]
    have hCn : C n := hB n (target_buf h hn ht)
    exact hX C hC' hR' (fun b hb => hB b (e8 b hb)) (fun k hk => hk.elim (hT k) fun q => by rw [q]; exact hCn) m hm
theorem free_facts (s : S) (n : Nat) : (s.free n).ids = s.ids.filter (· ≠ n) ∧ (s.free n).cell = s.cell ∧ (s.free n).vars = s.vars ∧ (s.free n).last = s.last := ⟨rfl, rfl, rfl, rfl⟩
theorem free_tab' (h : Ok s f) {n i : Nat} (hi : i < 2) : (s.free n).tab i = ddel (s.tab i) n := by
  have : i = 0 ∨ i = 1 := by walk_at "om"
  rcases this with rfl | rfl
  · exact free_tab.1
  · exact free_tab.2
theorem free_kids (h : Ok s f) {n m : Nat} (hne : m ≠ n) : (s.free n).kids m = s.kids m := by
  unfold S.kids S.heldBy
  have e : ∀ i, i < 2 → dget ((s.free n).tab i) (m : Int) = dget (s.tab i) m := fun i hi => by
    rw [free_tab' h hi, dget_ddel, if_neg (by walk_at "om")]
  have : ([0, 1].filterMap fun i => dget ((s.free n).tab i) (m : Int)) = [0, 1].filterMap fun i => dget (s.tab i) m := by
    simp only [List.filterMap_cons, List.filterMap_nil, e 0 (by decide), e 1 (by decide)]
  rw [this]; rfl
theorem free_lost (h : Ok s f) {n : Nat} : Lost s (s.free n) := ⟨fun m hm => (List.mem_filter.mp hm).1, rfl, rfl, fun i hi => by
  rw [free_tab' h hi]
  unfold ddel
  apply List.filter_congr
  intro e he
  obtain ⟨m, hm, q⟩ := h.tkey i hi e he
  have : (e.1.toNat ∈ (s.free n).ids) ↔ e.1 ≠ n := by
    show e.1.toNat ∈ s.ids.filter _ ↔ _
    rw [List.mem_filter, q]
    simp [hm]; walk_at "om"
  by_cases z : e.1 = n
  · simp [z]
    show ¬ n ∈ s.ids.filter _
    rw [List.mem_filter]; simp
  · rw [decide_eq_true (this.mpr z)]; simpa using z, fun _ => rfl, fun _ => rfl, fun _ => rfl⟩
theorem mem_heldBy {n k : Nat} : Val.cell k ∈ s.heldBy n ↔ k ∈ s.kids n := by
  unfold S.kids
  rw [List.mem_filterMap]
  constructor
  · intro h; exact ⟨_, h, rfl⟩
  · rintro ⟨v, hv, q⟩
    cases v with
    | int i => cases q
    | cell j => cases q; exact hv
theorem lsum_reverse {vs : List Val} {g : Val → Nat} : lsum vs.reverse g = lsum vs g := by unfold lsum; rw [List.map_reverse, List.sum_reverse]
theorem free_susp {n : Nat} (h : Ok s f) (hX : Susp s fun k => X k ∨ k = n) (hY : ∀ k, X k → Y k) (hh : ∀ k, Val.cell k ∈ s.heldBy n → Y k) : Susp (s.free n) Y := fun C hC hR hB hT m hm => by
  have hm' := List.mem_filter.mp hm
  have hmn : m ≠ n := by simpa using hm'.2
  refine (hX (fun k => C k ∨ k = n) (fun j hj hCj k hk => ?_) (fun e he k hk => .inl (hR e he k hk)) (fun b hb => ?_) (fun k hk => hk.imp_left fun q => hT k (hY k q)) m hm'.1).resolve_right hmn
  · by_cases q : j = n
    · subst q; exact .inl (hT k (hh k (mem_heldBy.mpr hk)))
    · refine .inl (hC j (List.mem_filter.mpr ⟨hj, by simpa using q⟩) (hCj.resolve_right q) k ?_)
      rw [free_kids h q]; exact hk
  · by_cases q : b = n
    · exact .inr q
    · refine .inl (hB b ?_)
      show b ∈ (if (s.cell n).buf = true then s.buffer.erase n else s.buffer)
      split
      · exact (h.bnd.mem_erase_iff).mpr ⟨q, hb⟩
      · exact hb
theorem free_len (h : Ok s f) {n : Nat} (hn : n ∈ s.ids) : (s.free n).allHeld.length + (s.heldBy n).length = s.allHeld.length := by
  have := free_sum (g := fun _ => 1) h.nodup hn h.tnd
  have e : ∀ l : List Val, lsum l (fun _ => 1) = l.length := fun l => by
    induction l with
    | nil => rfl
    | cons a r ih => rw [lsum_cons, ih]; simp [Nat.add_comm]
  unfold S.sum at this
  rw [e, e, e] at this; exact this
theorem Pend.lose {v : Val} (h : Pend s (T ++ [v])) : Pend (s.lose v).1 (T ++ (s.lose v).2) ∧ Lost s (s.lose v).1 ∧ (s.lose v).1.allHeld.length + (T ++ (s.lose v).2).length < s.allHeld.length + (T ++ [v]).length := by
  unfold S.lose
  cases hv : s.cellOf v with
  | none =>
    dsimp only
    have hd : ∀ k ∈ s.ids, v ≠ .cell k := fun k hk q => by rw [q, S.cellOf_cell hk] at hv; cases hv
    rw [List.append_nil]
    refine ⟨⟨h.ok.congr fun n hn => ?_, fun C hC hR hB hT m hm => ?_, h.okeys⟩, Lost.refl h.ok, by simp⟩
    · rw [L_append]; simp [L, lsum, one_ne (hd n hn)]
    · refine Classical.byContradiction fun q => ?_
      refine q (((h.susp (fun k => C k ∨ k ∉ s.ids) (fun j hj hCj k hk => .inl (hC j hj (hCj.resolve_right fun z => z hj) k hk)) (fun e he k hk => .inl (hR e he k hk)) (fun b hb => .inl (hB b hb)) (fun k hk => ?_) m hm)).resolve_right fun z => z hm)
      rcases List.mem_append.mp hk with hk | hk
      · exact .inl (hT k hk)
      · rw [List.mem_singleton] at hk
        exact .inr fun z => hd k z hk.symm
  | some n =>
    obtain ⟨rfl, hn⟩ := S.cellOf_some hv
    dsimp only
    have A : Ok (s.addCount n (-1)) (L T) := h.ok.addCount n (-1) fun k _ => by
      rw [L_append]
      by_cases q : k = n
      · subst q; rw [if_pos rfl]; simp [L, lsum, one_same]; walk_at "om"
      · rw [if_neg q]; simp [L, lsum, one_ne (show Val.cell n ≠ .cell k from fun z => q (by cases z; rfl))]
    obtain ⟨f1, f2, f3⟩ := addCount_facts s n (-1)
    have SM : Same s (s.addCount n (-1)) := ⟨rfl, rfl, fun k => kids_congr (s := s) (s' := s.addCount n (-1)) rfl (f2 k)⟩
    have SA : Susp (s.addCount n (-1)) fun k => .cell k ∈ T ∨ k = n := (SM.susp (fun b hb => hb) h.susp).mono fun k hk => by
      rcases List.mem_append.mp hk with hk | hk
      · exact .inl hk
      · rw [List.mem_singleton] at hk; cases hk; exact .inr rfl
    have oA : (s.addCount n (-1)).okeys := fun i hi e he k q => by rw [f1]; exact h.okeys i hi e he k q
    have LA : Lost s (s.addCount n (-1)) := Lost.same h.ok rfl rfl rfl rfl f1 f2 f3
    have hA : (s.addCount n (-1)).allHeld = s.allHeld := by
      show s.vars.map (·.2) ++ s.ids.flatMap (fun k => ((s.addCount n (-1)).cell k).slots.map (·.2)) ++ (s.tab 0).map (·.2) ++ (s.tab 1).map (·.2) = _
      simp only [f2]; rfl
    have hn' : n ∈ (s.addCount n (-1)).ids := hn
    rw [← hA]
    generalize s.addCount n (-1) = s1 at *
    split
    · rename_i hc
      obtain ⟨e1, e2, e3, e4, e5, e6, e7, e8, _⟩ := suspect_facts s1 n
      have hS : (s1.suspect n).allHeld = s1.allHeld := by
        unfold S.allHeld; rw [e1, e2, e4]; simp only [e6]
      refine ⟨by rw [List.append_nil]; exact Pend.suspect A SA oA hn' hc, LA.trans (Lost.same A e1 e2 e3 e4 e5 e6 e7), ?_⟩
      rw [hS]; simp
    · rename_i hc
      have LF := free_lost A (n := n)
      refine ⟨⟨(A.free hn' (by walk_at "om") (by unfold L; walk_at "om")).congr fun k _ => ?_, free_susp A SA (fun k hk => List.mem_append_left _ hk) fun k hk => List.mem_append_right _ (by simpa using hk), fun i hi e he k q => ?_⟩, LA.trans LF, ?_⟩
      · rw [L_append]; simp only [L, lsum_reverse]
      · rw [LF.tab i hi] at he
        exact oA i hi e (List.mem_filter.mp he).1 k q
      · have := free_len A hn'
        simp only [List.length_append, List.length_reverse, List.length_singleton]
        walk_at "om"
end
end
section
/-! ## the settling's invariant -/
noncomputable def SI (F : S → List Val → Prop) (m : Nat) (s : S) (ts : List Task) : Prop :=
  (∃ d, ts = [.deed d] ∧ m = 1000 ∧ Calm s ∧ s.okeys ∧ d.fit ∧ s.last ≤ 58 ∧ F (s.change d).1 (s.change d).2.reverse) ∨ ∃ T, ts = T.map .lose ∧ Pend s T ∧ s.last ≤ 60 ∧ s.allHeld.length + T.length ≤ m ∧ m ≤ 999 ∧ F s T
section
variable {s s' : S} {X Y : Nat → Prop} {f : Nat → Int} {T : List Val} {F : S → List Val → Prop}
theorem Ok.held_len (h : Ok s f) (hl : s.last ≤ 60) : s.allHeld.length ≤ 400 := by
  have w := h.wf hl
  have h1 := len_keys (b := 4) h.vnd h.vkey
  have ht : ∀ i, i < 2 → (s.tab i).length ≤ 61 := fun i hi => len_keys (b := 61) (h.tnd i hi) fun e he => by
    obtain ⟨n, hn, q⟩ := h.tkey i hi e he
    have := (h.pos n hn).2; walk_at "om"
  have h2 := ht 0 (by decide)
  have h3 := ht 1 (by decide)
  have h4 : ∀ l : List Nat, (∀ n ∈ l, n ∈ s.ids) → (l.flatMap fun n => (s.cell n).slots.map (·.2)).length ≤ l.length * 2 := fun l => by
    induction l with
    | nil => intro _; simp
    | cons a r ih =>
      intro q
      have := ih fun n hn => q n (List.mem_cons_of_mem _ hn)
      have := len_keys (b := 2) (h.snd a (q a List.mem_cons_self)) (h.skey a (q a List.mem_cons_self))
      rw [List.flatMap_cons, List.length_append, List.length_map, List.length_cons]
      walk_at "om"
  have h5 := h4 s.ids fun n hn => hn
  have h6 := h.log
  unfold S.allHeld
  simp only [List.length_append, List.length_map]
  walk_at "om"
theorem Done.pend {k : Nat} {p : S × List Val} (h : Done k s p) (hs : Ok s f) (ho : s.okeys) : Pend p.1 p.2.reverse := by
  refine ⟨h.ok.congr fun n _ => by simp only [L, lsum_reverse], h.susp.mono fun k hk => by simpa using hk, fun i hi e he n q => ?_⟩
  rw [h.ext.tab] at he
  obtain ⟨m, hm, q'⟩ := hs.tkey i hi e he
  have e1 : n = m := by walk_at "om"
  subst e1
  rw [h.ext.sort n (hs.pos n hm).2]
  exact ho i hi e he n q
theorem Pend.nil (h : Pend s []) : Calm s ∧ s.okeys := ⟨⟨h.ok, h.susp.mono fun k hk => by cases hk⟩, h.okeys⟩
theorem settles (hF : ∀ s T v, Pend s (T ++ [v]) → F s (T ++ [v]) → F (s.lose v).1 (T ++ (s.lose v).2)) : Settles (SI F) where
  small := by
    rintro m s ts (⟨d, rfl, _, hc, ho, _, hl, _⟩ | ⟨T, rfl, hp, hl, hm, hm', _⟩)
    · exact ⟨(hc.ok.wf (by walk_at "om")).up (by decide), by simp⟩
    · exact ⟨(hp.ok.wf hl).up (by decide), by rw [List.length_map]; walk_at "om"⟩
  ok := by
    rintro m s ts t (⟨d, e, _, hc, ho, hd, hl, _⟩ | ⟨T, e, hp, hl, hm, hm', _⟩)
    · have := List.append_inj' (t₁ := [t]) (s₂ := []) (t₂ := [Task.deed d]) e rfl
      have ht := this.2
      cases ht
      exact (hc.change hd).2
    · rcases List.eq_nil_or_concat T with rfl | ⟨T', v, rfl⟩
      · simp at e
      · rw [List.concat_eq_append, List.map_append] at e
        have := List.append_inj' e rfl
        have ht := this.2
        cases ht
        exact fun n hn hb => (hp.ok.bmem n).mpr ⟨hn, hb⟩
  step := by
    rintro m s ts t (⟨d, e, em, hc, ho, hd, hl, hf⟩ | ⟨T, e, hp, hl, hm, hm', hf⟩)
    · have := List.append_inj' (t₁ := [t]) (s₂ := []) (t₂ := [Task.deed d]) e rfl
      obtain ⟨ht1, ht⟩ := this
      cases ht; subst ht1
      have D := (hc.change hd).1
      have hl' := D.ext.last.2
      have := D.ok.held_len (by walk_at "om")
      have := D.len
      have hst : s.step (.deed d) = ((s.change d).1, (s.change d).2.reverse.map .lose) := rfl
      rw [hst, List.nil_append]
      exact ⟨(s.change d).1.allHeld.length + (s.change d).2.reverse.length, by rw [List.length_reverse]; walk_at "om", .inr ⟨_, rfl, D.pend hc.ok ho, by show (s.change d).1.last ≤ 60; walk_at "om", Nat.le_refl _, by rw [List.length_reverse]; walk_at "om", hf⟩⟩
    · rcases List.eq_nil_or_concat T with rfl | ⟨T', v, rfl⟩
      · simp at e
      · rw [List.concat_eq_append] at hp hm hf e
        rw [List.map_append] at e
        obtain ⟨e1, ht⟩ := List.append_inj' e rfl
        cases ht; subst e1
        obtain ⟨p1, p2, p3⟩ := hp.lose
        refine ⟨(s.lose v).1.allHeld.length + (T' ++ (s.lose v).2).length, by walk_at "om", .inr ⟨T' ++ (s.lose v).2, ?_, p1, by show (s.lose v).1.last ≤ 60; rw [p2.last]; exact hl, Nat.le_refl _, by walk_at "om", hF s T' v hp hf⟩⟩
        rw [List.map_append]; rfl
theorem SI.nil {m : Nat} (h : SI F m s []) : Calm s ∧ s.okeys ∧ s.last ≤ 60 ∧ F s [] := by
  rcases h with ⟨d, e, _⟩ | ⟨T, e, hp, hl, hm, hm', hf⟩
  · cases e
  · cases T with
    | nil => exact ⟨hp.nil.1, hp.nil.2, hl, hf⟩
    | cons a r => cases e
theorem Pend.start (h : Pend s T) (hl : s.last ≤ 60) (hT : T.length ≤ 499) (hf : F s T) : SI F 999 s (T.map .lose) := .inr ⟨T, rfl, h, hl, by have := h.ok.held_len hl; walk_at "om", by decide, hf⟩
theorem lost_step {s0 : S} : ∀ s T v, Pend s (T ++ [v]) → Lost s0 s → Lost s0 (s.lose v).1 := fun s T v hp h => h.trans hp.lose.2.1
end
section
variable {W : Wd} {n : Nat} {st : St} {Q : V → St → Prop} {s : S} {N : Nat}
/-- the state after a deed, with what is lost still to go -/
structure After (s1 s' : S) : Prop where
  calm : Calm s'
  okeys : s'.okeys
  lost : Lost s1 s'
theorem c_deed (G : Gd W) (R : Rep s N st) (h : Calm s) (ho : s.okeys) {d : Deed} (hd : d.fit) (hl : s.last ≤ 58)
    (q : ∀ s' N' st', After (s.change d).1 s' → N ≤ N' → Rep s' N' st' → Keep N st st' → Q .none st') : CallOK W (n + 10) "do_deed" [.ref .heap, d.v] Q st :=
  c_do_deed G R (settles (F := fun s' _ => Lost (s.change d).1 s') (fun s T v => lost_step s T v)) (m0 := 1000) (.inl ⟨d, rfl, rfl, h, ho, hd, hl, Lost.refl (h.change hd).1.ok⟩) fun m' s' N' st' hI hN R' K' => by
    obtain ⟨a, b, c, e⟩ := hI.nil
    exact q s' N' st' ⟨a, b, e⟩ hN R' K'
end
end
section
/-! ## the weak tables' steps -/
section
variable {s s' : S} {X Y : Nat → Prop} {f : Nat → Int} {T : List Val}
theorem ent_kids {i n k : Nat} {es : List (Int × Val)} (hk : k ∈ s.kids n) : k ∈ (s.put (.ent i) es).kids n ∨ dget (s.tab i) n = some (.cell k) := by
  rcases mem_kids.mp hk with ⟨j, hj, q⟩ | h
  · by_cases z : j = i
    · subst z; exact .inr q
    · refine .inl (mem_kids.mpr (.inl ⟨j, hj, ?_⟩))
      show dget (if j = i then es else s.tab j) n = _
      rw [if_neg z]; exact q
  · exact .inl (mem_kids.mpr (.inr h))
theorem ent_susp {i : Nat} {es : List (Int × Val)} {a : Int} (h : Susp s X) (hX : ∀ k, X k → Y k) (he : ∀ b, b ≠ a → dget es b = dget (s.tab i) b) (hi : i < 2) (hY : ∀ k, .cell k ∈ (dget (s.tab i) a).toList → Y k) : Susp (s.put (.ent i) es) Y := fun C hC hR hB hT m hm => by
  refine h C (fun n hn hCn k hk => ?_) hR hB (fun k hk => hT k (hX k hk)) m hm
  rcases ent_kids (es := es) hk with hk | hk
  · exact hC n hn hCn k hk
  · by_cases q : (n : Int) = a
    · exact hT k (hY k (by rw [← q, hk]; simp))
    · refine hC n hn hCn k (mem_kids.mpr (.inl ⟨i, hi, ?_⟩))
      show dget (if i = i then es else s.tab i) n = _
      rw [if_pos rfl, he _ q]; exact hk
theorem put_pend (h : Calm s) (ho : s.okeys) {i k : Nat} {b : Int} (hi : i < 2) (hk : k ∈ s.ids ∧ (s.cell k).sort = .obj) : Pend (s.weakPut1 i k b) (dget (s.tab i) k).toList := by
  have hv := h.ok.valueOf b
  unfold S.weakPut1
  generalize s.valueOf b = v at hv
  have A := h.ok.gain v hv.2
  have SA : Susp (s.gain v) fun _ => False := Same.gain.susp (fun b hb => by simpa using hb) h.susp
  have e1 : (s.gain v).tab = s.tab := S.gain_tab
  have e2 : ∀ n, ((s.gain v).cell n).sort = (s.cell n).sort := fun n => S.gain_sort
  have e3 : (s.gain v).ids = s.ids := S.gain_ids
  generalize s.gain v = s1 at *
  have B := A.dput (p := .ent i) hi (i := (k : Int)) (v := v) ⟨k, by rw [e3]; exact hk.1, rfl⟩ (fun j hj => by rw [e3]; exact hv.2 j hj) nofun
  refine ⟨B.congr fun n _ => ?_, ent_susp (a := k) SA (fun k hk => hk.elim) (fun b hb => by rw [dget_dput, if_neg hb]) hi (fun k hk => by rw [e1] at hk; exact hk), fun j hj e he n q => ?_⟩
  · show _ = (0 : Int) + _ - _ + (lsum (dget (s1.tab i) k).toList (one n) : Nat)
    rw [e1]; simp only [L]; walk_at "om"
  · rw [S.put_sort, e2]
    have he : e ∈ (if j = i then dput (s1.tab i) k v else s1.tab j) := he
    split at he
    · rcases mem_dput he with rfl | ⟨he, _⟩
      · have : n = k := by have q : (k : Int) = n := q
                           walk_at "om"
        rw [this]; exact hk.2
      · exact ho i hi e (by rw [← e1]; exact he) n q
    · exact ho j hj e (by rw [← e1]; exact he) n q
theorem drop_pend (h : Calm s) (ho : s.okeys) {i k : Nat} {v : Val} (hi : i < 2) (hv : dget (s.tab i) k = some v) : Pend (s.put (.ent i) (ddel (s.tab i) k)) [v] := by
  have B := h.ok.ddel (p := .ent i) hi (i := (k : Int)) nofun
  refine ⟨B.congr fun n _ => ?_, ent_susp (a := k) h.susp (fun k hk => hk.elim) (fun b hb => by rw [dget_ddel, if_neg hb]) hi (fun j hj => by rw [hv] at hj; exact hj), fun j hj e he n q => ?_⟩
  · show _ = (0 : Int) + (lsum (dget (s.tab i) k).toList (one n) : Nat)
    rw [hv]; simp [L]
  · rw [S.put_sort]
    have he : e ∈ (if j = i then ddel (s.tab i) k else s.tab j) := he
    split at he
    · exact ho i hi e (mem_ddel.mp he).1 n q
    · exact ho j hj e he n q
end
section
variable {W : Wd} {n : Nat} {st : St} {Q : V → St → Prop} {s : S} {N : Nat}
theorem c_wput (G : Gd W) (R : Rep s N st) (h : Calm s) (ho : s.okeys) (hl : s.last ≤ 60) {i : Nat} (hi : i < 2) (a b : Int)
    (q0 : s.objIn a = none → Q (.bool false) st)
    (q : ∀ k s' N' st', s.objIn a = some k → After (s.weakPut1 i k b) s' → N ≤ N' → Rep s' N' st' → Keep N st st' → Q (.bool true) st') : CallOK W (n + 11) "weak_put" [.ref .heap, .ref (.tab i), .int a, .int b] Q st := by
  cases ho' : s.objIn a with
  | none => exact c_weak_put G R ((h.ok.wf hl).up (by decide)) (settles (F := fun _ _ => True) (fun _ _ _ _ _ => trivial)) hi a b (fun k hk => by rw [ho'] at hk; cases hk) q0 fun k m' s' N' st' hk => by rw [ho'] at hk; cases hk
  | some k0 =>
    refine c_weak_put G R ((h.ok.wf hl).up (by decide)) (settles (F := fun s' _ => Lost (s.weakPut1 i k0 b) s') (fun s T v => lost_step s T v)) hi a b (fun k hk => ?_) q0 fun k m' s' N' st' hk hI hN R' K' => ?_
    · rw [ho'] at hk; cases hk
      have P := put_pend (b := b) h ho hi (S.objIn_mem ho')
      exact ⟨_, P.start (by show (s.gain _).last ≤ 60; rw [S.gain_last]; exact hl) (Nat.le_trans (toList_len _) (by decide)) (Lost.refl P.ok)⟩
    · obtain ⟨x, y, z, e⟩ := hI.nil
      rw [ho'] at hk; cases hk
      exact q k0 s' N' st' ho' ⟨x, y, e⟩ hN R' K'
theorem c_wdrop (G : Gd W) (R : Rep s N st) (h : Calm s) (ho : s.okeys) (hl : s.last ≤ 60) {i : Nat} (hi : i < 2) (a : Int)
    (q0 : s.weakRead i a = none → Q (.bool false) st)
    (q : ∀ k v s' N' st', s.objIn a = some k → dget (s.tab i) k = some v → After (s.put (.ent i) (ddel (s.tab i) k)) s' → N ≤ N' → Rep s' N' st' → Keep N st st' → Q (.bool true) st') : CallOK W (n + 11) "weak_drop" [.ref .heap, .ref (.tab i), .int a] Q st := by
  cases ho' : s.objIn a with
  | none => exact c_weak_drop G R ((h.ok.wf hl).up (by decide)) (settles (F := fun _ _ => True) (fun _ _ _ _ _ => trivial)) hi a (fun k v hk => by rw [ho'] at hk; cases hk) q0 fun k v m' s' N' st' hk => by rw [ho'] at hk; cases hk
  | some k0 =>
    refine c_weak_drop G R ((h.ok.wf hl).up (by decide)) (settles (F := fun s' _ => Lost (s.put (.ent i) (ddel (s.tab i) k0)) s') (fun s T v => lost_step s T v)) hi a (fun k v hk hv => ?_) q0 fun k v m' s' N' st' hk hv hI hN R' K' => ?_
    · rw [ho'] at hk; cases hk
      have P := drop_pend h ho hi hv
      exact ⟨_, P.start hl (by simp) (Lost.refl P.ok)⟩
    · obtain ⟨x, y, z, e⟩ := hI.nil
      rw [ho'] at hk; cases hk
      exact q k0 v s' N' st' ho' hv ⟨x, y, e⟩ hN R' K'
end
end
section
/-! ## the collector: marking -/
structure Shade (b s : S) : Prop where
  ids : s.ids = b.ids
  vars : s.vars = b.vars
  tab : s.tab = b.tab
  last : s.last = b.last
  buffer : s.buffer = b.buffer
  freed : s.freed = b.freed
  logn : s.logn = b.logn
  sort : ∀ n, (s.cell n).sort = (b.cell n).sort
  slots : ∀ n, (s.cell n).slots = (b.cell n).slots
  buf : ∀ n, (s.cell n).buf = (b.cell n).buf
  weak : ∀ n, (s.cell n).weak = (b.cell n).weak
noncomputable def E (b : S) (P : Nat → Bool) (n : Nat) : Nat := (b.ids.map fun m => if P m then (b.kids m).count n else 0).sum
noncomputable def U (b : S) (P : Nat → Bool) : Nat := (b.ids.map fun x => if P x then 0 else (b.kids x).length).sum
noncomputable def gr (s : S) (n : Nat) : Bool := decide ((s.cell n).col = .grey)
noncomputable def wh (s : S) (n : Nat) : Bool := decide ((s.cell n).col = .white)
noncomputable def gw (s : S) (n : Nat) : Bool := gr s n || wh s n
noncomputable def In (b : S) (cs : List Nat) (n : Nat) : Prop := ∀ C, Closed b C → (∀ c ∈ cs, C c) → C n
structure Base (b : S) (cs : List Nat) : Prop where
  ok : Ok b fun _ => 0
  mem : ∀ c ∈ cs, c ∈ b.ids
  last : b.last ≤ 60
  susp : ∀ C, Closed b C → Roots b C → (∀ c ∈ cs, C c) → ∀ n ∈ b.ids, C n
  buf : b.buffer = []
section
variable {b s s' : S} {X Y : Nat → Prop} {f : Nat → Int} {cs D : List Nat}
theorem In.kid {n k : Nat} (h : In b cs n) (hn : n ∈ b.ids) (hk : k ∈ b.kids n) : In b cs k := fun C hC hcs => hC n hn (h C hC hcs) k hk
theorem In.of {c : Nat} (h : c ∈ cs) : In b cs c := fun C _ hcs => hcs c h
theorem Shade.kids (h : Shade b s) (n : Nat) : s.kids n = b.kids n := kids_congr h.tab (h.slots n)
theorem Shade.refl : Shade b b := ⟨rfl, rfl, rfl, rfl, rfl, rfl, rfl, fun _ => rfl, fun _ => rfl, fun _ => rfl, fun _ => rfl⟩
theorem Shade.upd (h : Shade b s) {m : Nat} {u : Cel → Cel} (h1 : ∀ c, (u c).sort = c.sort) (h2 : ∀ c, (u c).slots = c.slots) (h3 : ∀ c, (u c).buf = c.buf) (h4 : ∀ c, (u c).weak = c.weak) : Shade b (s.upd m u) :=
  ⟨h.ids, h.vars, h.tab, h.last, h.buffer, h.freed, h.logn, fun n => (upd_field Cel.sort h1).trans (h.sort n), fun n => (upd_field Cel.slots h2).trans (h.slots n), fun n => (upd_field Cel.buf h3).trans (h.buf n), fun n => (upd_field Cel.weak h4).trans (h.weak n)⟩
theorem Shade.setCol (h : Shade b s) {m : Nat} {c : Col} : Shade b (s.setCol m c) := h.upd (fun _ => rfl) (fun _ => rfl) (fun _ => rfl) fun _ => rfl
theorem Shade.addCount (h : Shade b s) {m : Nat} {d : Int} : Shade b (s.addCount m d) := h.upd (u := fun c => { c with count := c.count + d }) (fun _ => rfl) (fun _ => rfl) (fun _ => rfl) fun _ => rfl
theorem Shade.adds {d : Int} : ∀ (ks : List Nat) {s : S}, Shade b s → Shade b (s.adds ks d)
  | [], _, h => h
  | a :: r, s, h => Shade.adds r (s := s.addCount a d) h.addCount
theorem Shade.wf (h : Shade b s) (w : Wf 120 b) : Wf 80000 s where
  ref := fun n hn hs => by rw [h.slots]; exact w.ref n (by rw [← h.ids]; exact hn) (by rw [← h.sort]; exact hs)
  nd := fun n hn => by rw [h.slots]; exact w.nd n (by rw [← h.ids]; exact hn)
  ids := by rw [h.ids]; exact Nat.le_trans w.ids (by decide)
  vars := by rw [h.vars]; exact Nat.le_trans w.vars (by decide)
  slots := fun n hn => by rw [h.slots]; exact Nat.le_trans (w.slots n (by rw [← h.ids]; exact hn)) (by decide)
  tab := fun i hi => by rw [h.tab]; exact Nat.le_trans (w.tab i hi) (by decide)
  buf := by rw [h.buffer]; exact Nat.le_trans w.buf (by decide)
  log := by rw [h.logn]; exact Nat.le_trans w.log (by decide)
  le := fun n hn => by rw [h.last]; exact w.le n (by rw [← h.ids]; exact hn)
theorem Shade.alive (h : Shade b s) (ok : Ok b f) : s.Alive := fun n hn k hk => by rw [h.kids] at hk; rw [h.ids] at hn ⊢; exact ok.kids hn hk
theorem setCol_cell {s : S} {m n : Nat} {c : Col} : (s.setCol m c).cell n = if n = m then { s.cell m with col := c } else s.cell n := rfl
theorem addCount_cell {s : S} {m n : Nat} {d : Int} : (s.addCount m d).cell n = if n = m then { s.cell m with count := (s.cell m).count + d } else s.cell n := rfl
theorem adds_cell {d : Int} {n : Nat} : ∀ (ks : List Nat) {s : S}, (s.adds ks d).cell n = { s.cell n with count := (s.cell n).count + d * (ks.count n : Nat) }
  | [], s => by show s.cell n = _; simp
  | a :: r, s => by
    show ((s.addCount a d).adds r d).cell n = _
    rw [adds_cell r, addCount_cell, List.count_cons]
    by_cases q : n = a
    · subst q
      have : ((r.count n + if (n == n) = true then 1 else 0 : Nat) : Int) = (r.count n : Int) + 1 := by simp
      have e : (s.cell n).count + d + d * (r.count n : Int) = (s.cell n).count + d * ((r.count n : Int) + 1) := by rw [Int.mul_add]; walk_at "om"
      rw [if_pos rfl, this, ← e]
    · rw [if_neg q]
      have : (a == n) = false := by simpa using fun z => q z.symm
      simp [this]
theorem setCol_col {s : S} {m n : Nat} {c : Col} : ((s.setCol m c).cell n).col = if n = m then c else (s.cell n).col := by
  rw [setCol_cell]; split <;> rfl
theorem setCol_count {s : S} {m n : Nat} {c : Col} : ((s.setCol m c).cell n).count = (s.cell n).count := by
  rw [setCol_cell]; split
  · rename_i q; rw [q]
  · rfl
theorem adds_col {s : S} {d : Int} {ks : List Nat} {n : Nat} : ((s.adds ks d).cell n).col = (s.cell n).col := by rw [adds_cell]
theorem adds_count {s : S} {d : Int} {ks : List Nat} {n : Nat} : ((s.adds ks d).cell n).count = (s.cell n).count + d * (ks.count n : Nat) := by rw [adds_cell]
theorem E_congr {P P' : Nat → Bool} {n : Nat} (h : ∀ m ∈ b.ids, P m = P' m) : E b P n = E b P' n := by
  unfold E; congr 1; exact List.map_congr_left fun m hm => by rw [h m hm]
theorem U_congr {P P' : Nat → Bool} (h : ∀ m ∈ b.ids, P m = P' m) : U b P = U b P' := by
  unfold U; congr 1; exact List.map_congr_left fun m hm => by rw [h m hm]
/-- one cell enters the set -/
theorem E_add {P P' : Nat → Bool} {n x : Nat} (hd : b.ids.Nodup) (hx : x ∈ b.ids) (h0 : P x = false) (h1 : P' x = true) (h : ∀ m, m ≠ x → P' m = P m) : E b P' n = E b P n + (b.kids x).count n := by
  have := sum_at (f := fun m => if P m then (b.kids m).count n else 0) (f' := fun m => if P' m then (b.kids m).count n else 0) hd hx fun m hm => by rw [h m hm]
  simp only [h0, h1] at this
  unfold E
  simpa using this
theorem U_add {P P' : Nat → Bool} {x : Nat} (hd : b.ids.Nodup) (hx : x ∈ b.ids) (h0 : P x = false) (h1 : P' x = true) (h : ∀ m, m ≠ x → P' m = P m) : U b P' + (b.kids x).length = U b P := by
  have := sum_at (f := fun m => if P m then 0 else (b.kids m).length) (f' := fun m => if P' m then 0 else (b.kids m).length) hd hx fun m hm => by rw [h m hm]
  simp only [h0, h1] at this
  unfold U
  simpa using this
structure MarkI (b : S) (cs D : List Nat) (m : Nat) (s : S) (ts : List Nat) : Prop where
  shade : Shade b s
  cnt : ∀ n ∈ b.ids, (s.cell n).count + (E b (gr s) n : Nat) = (b.cell n).count
  col : ∀ n ∈ b.ids, (s.cell n).col ≠ .white
  closed : ∀ n ∈ b.ids, gr s n = true → ∀ k ∈ b.kids n, gr s k = true ∨ k ∈ ts
  pend : ∀ t ∈ ts, t ∈ b.ids ∧ In b cs t
  inn : ∀ n ∈ b.ids, gr s n = true → In b cs n
  done : ∀ c ∈ D, gr s c = true ∨ c ∈ ts
  meas : U b (gr s) + ts.length ≤ m
  le : m ≤ 1000
theorem U_le (ok : Ok b f) (hl : b.last ≤ 60) {P : Nat → Bool} : U b P ≤ 240 := by
  have w := ok.wf hl
  have h0 : b.ids.length ≤ 60 := len_lt 61 _ ok.nodup (fun x hx => by have := (ok.pos x hx).2; walk_at "om") |> fun h => by
    have := ok.log; have := ok.frd; walk_at "om"
  have : ∀ l : List Nat, (∀ x ∈ l, x ∈ b.ids) → (l.map fun x => if P x then 0 else (b.kids x).length).sum ≤ 4 * l.length := fun l => by
    induction l with
    | nil => intro _; simp
    | cons a r ih =>
      intro h
      have := ih fun x hx => h x (List.mem_cons_of_mem _ hx)
      have h1 := len_keys (b := 2) (ok.snd a (h a List.mem_cons_self)) (ok.skey a (h a List.mem_cons_self))
      have h2 := kids_len (s := b) (n := a)
      rw [List.map_cons, List.sum_cons, List.length_cons]
      split <;> walk_at "om"
  have := this b.ids fun x hx => hx
  unfold U; walk_at "om"
theorem mark_run (B : Base b cs) : Run S.markStep (MarkI b cs D) where
  small := fun m s ts h => ⟨h.shade.wf (B.ok.wf B.last), by have := h.meas; have := h.le; walk_at "om", h.shade.alive B.ok, fun t ht => by rw [h.shade.ids]; exact (h.pend t ht).1⟩
  step := fun m s ts t h => by
    obtain ⟨ht, hit⟩ := h.pend t (by simp)
    have hm := h.meas
    rw [List.length_append, List.length_singleton] at hm
    unfold S.markStep
    split
    · rename_i q
      have g : gr s t = true := decide_eq_true q
      refine ⟨m - 1, by walk_at "om", h.shade, h.cnt, h.col, fun n hn hg k hk => ?_, fun x hx => h.pend x (List.mem_append_left _ (by simpa using hx)), h.inn, fun c hc => ?_, by rw [List.append_nil]; show U b (gr s) + ts.length ≤ m - 1; walk_at "om", by have := h.le; walk_at "om"⟩
      · rcases h.closed n hn hg k hk with z | z
        · exact .inl z
        · rcases List.mem_append.mp z with z | z
          · exact .inr (List.mem_append_left _ z)
          · rw [List.mem_singleton.mp z]; exact .inl g
      · rcases h.done c hc with z | z
        · exact .inl z
        · rcases List.mem_append.mp z with z | z
          · exact .inr (List.mem_append_left _ z)
          · rw [List.mem_singleton.mp z]; exact .inl g
    · rename_i q
      have g0 : gr s t = false := decide_eq_false q
      rw [h.shade.kids t]
      have hcol : ∀ n, (((s.setCol t .grey).adds (b.kids t) (-1)).cell n).col = if n = t then .grey else (s.cell n).col := fun n => by rw [adds_col, setCol_col]
      have hcnt : ∀ n, (((s.setCol t .grey).adds (b.kids t) (-1)).cell n).count = (s.cell n).count - ((b.kids t).count n : Nat) := fun n => by rw [adds_count, setCol_count]; walk_at "om"
      have hs : Shade b ((s.setCol t .grey).adds (b.kids t) (-1)) := Shade.adds _ h.shade.setCol
      dsimp only
      generalize (s.setCol t .grey).adds (b.kids t) (-1) = s2 at *
      have g1 : gr s2 t = true := by unfold gr; rw [hcol, if_pos rfl]; rfl
      have g2 : ∀ n, n ≠ t → gr s2 n = gr s n := fun n hn => by unfold gr; rw [hcol, if_neg hn]
      have g3 : ∀ n, gr s n = true → gr s2 n = true := fun n hn => by
        by_cases z : n = t
        · rw [z]; exact g1
        · rw [g2 n z]; exact hn
      have hU := U_add B.ok.nodup ht g0 g1 g2
      refine ⟨m - 1, by walk_at "om", hs, fun n hn => ?_, fun n hn => ?_, fun n hn hg k hk => ?_, fun x hx => ?_, fun n hn hg => ?_, fun c hc => ?_, ?_, by have := h.le; walk_at "om"⟩
      · have := E_add (n := n) B.ok.nodup ht g0 g1 g2
        have := h.cnt n hn
        rw [hcnt]; walk_at "om"
      · rw [hcol]; split
        · exact nofun
        · exact h.col n hn
      · by_cases z : n = t
        · subst z; exact .inr (List.mem_append_right _ hk)
        · rw [g2 n z] at hg
          rcases h.closed n hn hg k hk with z | z
          · exact .inl (g3 k z)
          · rcases List.mem_append.mp z with z | z
            · exact .inr (List.mem_append_left _ z)
            · rw [List.mem_singleton.mp z]; exact .inl g1
      · rcases List.mem_append.mp hx with hx | hx
        · exact h.pend x (List.mem_append_left _ hx)
        · exact ⟨B.ok.kids ht hx, hit.kid ht hx⟩
      · by_cases z : n = t
        · rw [z]; exact hit
        · rw [g2 n z] at hg; exact h.inn n hn hg
      · rcases h.done c hc with z | z
        · exact .inl (g3 c z)
        · rcases List.mem_append.mp z with z | z
          · exact .inr (List.mem_append_left _ z)
          · rw [List.mem_singleton.mp z]; exact .inl g1
      · rw [List.length_append]; walk_at "om"
/-- the next suspect -/
theorem MarkI.next {m c : Nat} (h : MarkI b cs D m s []) (B : Base b cs) (hc : c ∈ cs) : MarkI b cs (D ++ [c]) 1000 s [c] where
  shade := h.shade
  cnt := h.cnt
  col := h.col
  closed := fun n hn hg k hk => (h.closed n hn hg k hk).imp_right fun z => by cases z
  pend := fun t ht => by rw [List.mem_singleton.mp ht]; exact ⟨B.mem c hc, In.of hc⟩
  inn := h.inn
  done := fun x hx => (List.mem_append.mp hx).elim (fun hx => (h.done x hx).imp_right fun z => by cases z) fun hx => .inr (by rw [List.mem_singleton.mp hx]; simp)
  meas := by have := U_le (P := gr s) B.ok B.last; simp; walk_at "om"
  le := Nat.le_refl _
theorem mark_start (B : Base b cs) : MarkI b cs [] 1000 b [] where
  shade := Shade.refl
  cnt := fun n hn => by
    have : E b (gr b) n = 0 := by
      rw [E_congr (P := gr b) (P' := fun _ => false) fun m hm => decide_eq_false (B.ok.col m hm).1]
      unfold E
      have : ∀ l : List Nat, (l.map fun m => if (fun _ => false : Nat → Bool) m = true then (b.kids m).count n else 0).sum = 0 := fun l => by
        induction l with
        | nil => rfl
        | cons a r ih => rw [List.map_cons, List.sum_cons, ih]; simp
      exact this _
    walk_at "om"
  col := fun n hn => (B.ok.col n hn).2
  closed := fun n hn hg => absurd (of_decide_eq_true hg) (B.ok.col n hn).1
  pend := fun t ht => by cases ht
  inn := fun n hn hg => absurd (of_decide_eq_true hg) (B.ok.col n hn).1
  done := fun c hc => by cases hc
  meas := by have := U_le (P := gr b) B.ok B.last; simp; walk_at "om"
  le := Nat.le_refl _
end
end
section
/-! ## the collector: scanning -/
theorem len_sub : ∀ (l l' : List Nat), l.Nodup → (∀ x ∈ l, x ∈ l') → l.length ≤ l'.length
  | [], _, _, _ => Nat.zero_le _
  | a :: r, l', hn, h => by
    rw [List.nodup_cons] at hn
    have h1 := len_sub r (l'.erase a) hn.2 fun x hx => (List.mem_erase_of_ne fun q => hn.1 (by rw [← q]; exact hx)).mpr (h x (List.mem_cons_of_mem _ hx))
    have h2 := List.length_erase_of_mem (h a List.mem_cons_self)
    have h3 : 0 < l'.length := List.length_pos_of_mem (h a List.mem_cons_self)
    rw [List.length_cons]; walk_at "om"
noncomputable def bl (s : S) (n : Nat) : Bool := decide ((s.cell n).col = .black)
noncomputable def NB (b s : S) : Nat := (b.ids.filter fun x => !bl s x).length
section
variable {b s s' : S} {X Y : Nat → Prop} {f : Nat → Int} {cs D : List Nat}
theorem E_le {P P' : Nat → Bool} {n : Nat} (h : ∀ m ∈ b.ids, n ∈ b.kids m → P' m = true → P m = true) : E b P' n ≤ E b P n := by
  unfold E
  have : ∀ l : List Nat, (∀ m ∈ l, m ∈ b.ids) → (l.map fun m => if P' m then (b.kids m).count n else 0).sum ≤ (l.map fun m => if P m then (b.kids m).count n else 0).sum := fun l => by
    induction l with
    | nil => intro _; exact Nat.le_refl _
    | cons a r ih =>
      intro hl
      have h1 := ih fun m hm => hl m (List.mem_cons_of_mem _ hm)
      simp only [List.map_cons, List.sum_cons]
      have h2 : (if P' a = true then (b.kids a).count n else 0) ≤ if P a = true then (b.kids a).count n else 0 := by
        by_cases hk : n ∈ b.kids a
        · split
          · rename_i q; rw [if_pos (h a (hl a List.mem_cons_self) hk q)]; exact Nat.le_refl _
          · exact Nat.zero_le _
        · have : (b.kids a).count n = 0 := List.count_eq_zero.mpr hk
          rw [this]; simp
      walk_at "om"
  exact this b.ids fun m hm => hm
theorem E_lt {P P' : Nat → Bool} {n m : Nat} (hd : b.ids.Nodup) (h : ∀ x ∈ b.ids, P x = true → P' x = true) (hm : m ∈ b.ids) (h0 : P m = false) (h1 : P' m = true) (hk : n ∈ b.kids m) : E b P n < E b P' n := by
  have e := E_add (P := P) (P' := fun x => if x = m then true else P x) (n := n) hd hm h0 (if_pos rfl) fun x hx => if_neg hx
  have l := E_le (P := P') (P' := fun x => if x = m then true else P x) (n := n) fun x hx _ q => by
    by_cases z : x = m
    · rw [z]; exact h1
    · rw [if_neg z] at q; exact h x hx q
  have := List.count_pos_iff.mpr hk
  walk_at "om"
theorem U_mono {P P' : Nat → Bool} (h : ∀ m ∈ b.ids, P m = true → P' m = true) : U b P' ≤ U b P := by
  unfold U
  have : ∀ l : List Nat, (∀ m ∈ l, m ∈ b.ids) → (l.map fun m => if P' m then 0 else (b.kids m).length).sum ≤ (l.map fun m => if P m then 0 else (b.kids m).length).sum := fun l => by
    induction l with
    | nil => intro _; exact Nat.le_refl _
    | cons a r ih =>
      intro hl
      have h1 := ih fun m hm => hl m (List.mem_cons_of_mem _ hm)
      simp only [List.map_cons, List.sum_cons]
      have h2 : (if P' a = true then 0 else (b.kids a).length) ≤ if P a = true then 0 else (b.kids a).length := by
        split
        · exact Nat.zero_le _
        · rename_i q
          rw [if_neg fun z => q (h a (hl a List.mem_cons_self) z)]; exact Nat.le_refl _
      walk_at "om"
  exact this b.ids fun m hm => hm
theorem vsum_ids : ∀ {l : List Nat} {es : List (Int × Val)} {g : Val → Nat}, l.Nodup → (es.map (·.1)).Nodup → (∀ e ∈ es, ∃ n ∈ l, e.1 = (n : Nat)) → vsum es g = (l.map fun (m : Nat) => lsum (dget es (m : Int)).toList g).sum
  | [], es, g, _, _, h => by
    cases es with
    | nil => rfl
    | cons e r => obtain ⟨n, hn, _⟩ := h e List.mem_cons_self; cases hn
  | a :: r, es, g, hd, hn, h => by
    rw [List.nodup_cons] at hd
    have h1 := vsum_ids (l := r) (es := ddel es a) (g := g) hd.2 (ddel_nodup hn) fun e he => by
      obtain ⟨he, hne⟩ := mem_ddel.mp he
      obtain ⟨n, hn, q⟩ := h e he
      refine ⟨n, (List.mem_cons.mp hn).resolve_left fun z => hne (by rw [q, z]), q⟩
    have h2 := vsum_ddel (i := (a : Int)) (g := g) hn
    have h3 : (r.map fun (m : Nat) => lsum (dget (ddel es a) (m : Int)).toList g) = r.map fun (m : Nat) => lsum (dget es (m : Int)).toList g := List.map_congr_left fun m hm => by
      rw [dget_ddel, if_neg fun z => hd.1 (by have z : (m : Int) = a := z
                                              have : m = a := by walk_at "om"
                                              rw [← this]; exact hm)]
    rw [h3] at h1
    rw [List.map_cons, List.sum_cons]; walk_at "om"
theorem kids_count {n m : Nat} : (b.kids m).count n = lsum (b.heldBy m) (one n) := by
  unfold S.kids
  induction b.heldBy m with
  | nil => rfl
  | cons v r ih =>
    rw [lsum_cons, ← ih]
    cases v with
    | int i => rw [List.filterMap_cons, one_ne (by simp)]; simp
    | cell k =>
      rw [List.filterMap_cons]; dsimp only
      rw [List.count_cons]
      by_cases q : k = n
      · subst q; rw [one_same]; simp; walk_at "om"
      · rw [one_ne (by simpa using q)]; simp [q]
/-- a count is what the variables hold and what the cells hold -/
theorem full_eq (ok : Ok b fun _ => 0) {n : Nat} (hn : n ∈ b.ids) : (b.cell n).count = ((vsum b.vars (one n) + E b (fun _ => true) n : Nat) : Int) := by
  have h := ok.cnt n hn
  rw [S.sum_eq, vsum_ids (l := b.ids) ok.nodup (ok.tnd 0 (by decide)) (ok.tkey 0 (by decide)), vsum_ids (l := b.ids) ok.nodup (ok.tnd 1 (by decide)) (ok.tkey 1 (by decide))] at h
  have e : E b (fun _ => true) n = (b.ids.map fun m => vsum (b.cell m).slots (one n)).sum + (b.ids.map fun (m : Nat) => lsum (dget (b.tab 0) (m : Int)).toList (one n)).sum + (b.ids.map fun (m : Nat) => lsum (dget (b.tab 1) (m : Int)).toList (one n)).sum := by
    unfold E
    have : ∀ l : List Nat, (l.map fun m => if (fun _ => true : Nat → Bool) m = true then (b.kids m).count n else 0).sum = (l.map fun m => vsum (b.cell m).slots (one n)).sum + (l.map fun (m : Nat) => lsum (dget (b.tab 0) (m : Int)).toList (one n)).sum + (l.map fun (m : Nat) => lsum (dget (b.tab 1) (m : Int)).toList (one n)).sum := fun l => by
      induction l with
      | nil => rfl
      | cons a r ih =>
        rw [List.map_cons, List.map_cons, List.map_cons, List.map_cons, List.sum_cons, List.sum_cons, List.sum_cons, List.sum_cons, ih, if_pos rfl, kids_count, lsum_two]
        walk_at "om"
    exact this _
  walk_at "om"
theorem Base.live (B : Base b cs) {n : Nat} (hn : n ∈ b.ids) : Reach b n ∨ In b cs n := B.susp (fun x => Reach b x ∨ In b cs x) (fun x hx h k hk => h.imp (fun h => h.kid hx hk) fun h => h.kid hx hk) (fun e he k hk => .inl (Reach.var he hk)) (fun c hc => .inr (In.of hc)) n hn
structure ScanI (b : S) (cs D : List Nat) (m : Nat) (s : S) (ts : List Nat) : Prop where
  shade : Shade b s
  cnt : ∀ n ∈ b.ids, (s.cell n).count + (E b (gw s) n : Nat) = (b.cell n).count
  out : ∀ n ∈ b.ids, ¬ In b cs n → (s.cell n).col ≠ .grey ∧ (s.cell n).col ≠ .white
  inn : ∀ n ∈ b.ids, In b cs n → (s.cell n).col ≠ .purple
  blk : ∀ n ∈ b.ids, In b cs n → (s.cell n).col = .black → Reach b n ∧ ∀ k ∈ b.kids n, (s.cell k).col = .black
  wht : ∀ n ∈ b.ids, (s.cell n).col = .white → (s.cell n).count ≤ 0
  wcl : ∀ n ∈ b.ids, (s.cell n).col = .white → ∀ k ∈ b.kids n, (s.cell k).col ≠ .grey ∨ k ∈ ts
  pend : ∀ t ∈ ts, t ∈ b.ids ∧ In b cs t
  done : ∀ c ∈ D, (s.cell c).col ≠ .grey ∨ c ∈ ts
  meas : U b (fun x => !gr s x) + ts.length ≤ m
  le : m ≤ 1000
structure BlackI (b : S) (cs D ts0 : List Nat) (m0 : Nat) (m : Nat) (s : S) (ts : List Nat) : Prop where
  shade : Shade b s
  cnt : ∀ n ∈ b.ids, (s.cell n).count + (E b (fun x => gw s x || decide (x ∈ ts)) n : Nat) = (b.cell n).count
  out : ∀ n ∈ b.ids, ¬ In b cs n → (s.cell n).col ≠ .grey ∧ (s.cell n).col ≠ .white
  inn : ∀ n ∈ b.ids, In b cs n → (s.cell n).col ≠ .purple
  blk : ∀ n ∈ b.ids, In b cs n → (s.cell n).col = .black → Reach b n ∧ (n ∈ ts ∨ ∀ k ∈ b.kids n, (s.cell k).col = .black)
  wht : ∀ n ∈ b.ids, (s.cell n).col = .white → (s.cell n).count ≤ 0
  wcl : ∀ n ∈ b.ids, (s.cell n).col = .white → ∀ k ∈ b.kids n, (s.cell k).col ≠ .grey ∨ k ∈ ts0
  pend : ∀ t ∈ ts0, t ∈ b.ids ∧ In b cs t
  done : ∀ c ∈ D, (s.cell c).col ≠ .grey ∨ c ∈ ts0
  meas0 : U b (fun x => !gr s x) + ts0.length ≤ m0
  le0 : m0 ≤ 1000
  now : ∀ t ∈ ts, t ∈ b.ids ∧ In b cs t ∧ (s.cell t).col = .black
  nd : ts.Nodup
  meas : NB b s + ts.length ≤ m
  le : m ≤ 1000
structure Blacked (s : S) (ks acc : List Nat) (p : S × List Nat) : Prop where
  shade : Shade s p.1
  count : ∀ n, (p.1.cell n).count = (s.cell n).count + (ks.count n : Nat)
  col : ∀ n, (p.1.cell n).col = if n ∈ ks then .black else (s.cell n).col
  list : ∃ l, p.2 = acc ++ l ∧ l.Nodup ∧ ∀ x, x ∈ l ↔ x ∈ ks ∧ (s.cell x).col ≠ .black
theorem Shade.trans {a b c : S} (x : Shade a b) (y : Shade b c) : Shade a c :=
  ⟨y.ids.trans x.ids, y.vars.trans x.vars, y.tab.trans x.tab, y.last.trans x.last, y.buffer.trans x.buffer, y.freed.trans x.freed, y.logn.trans x.logn, fun n => (y.sort n).trans (x.sort n), fun n => (y.slots n).trans (x.slots n), fun n => (y.buf n).trans (x.buf n), fun n => (y.weak n).trans (x.weak n)⟩
theorem addCount_col {s : S} {m n : Nat} {d : Int} : ((s.addCount m d).cell n).col = (s.cell n).col := by
  rw [addCount_cell]; split
  · rename_i q; rw [q]
  · rfl
theorem addCount_count {s : S} {m n : Nat} {d : Int} : ((s.addCount m d).cell n).count = (s.cell n).count + if n = m then d else 0 := by
  rw [addCount_cell]; split
  · rename_i q; rw [q]
  · simp
theorem blacked : ∀ (ks : List Nat) (s : S) (acc : List Nat), Blacked s ks acc (ks.foldl S.blackOne (s, acc))
  | [], s, acc => ⟨Shade.refl, fun n => by simp, fun n => by simp, [], by simp, by simp, fun x => by simp⟩
  | a :: r, s, acc => by
    rw [List.foldl_cons]
    have e : S.blackOne (s, acc) a = if (s.cell a).col = .black then (s.addCount a 1, acc) else ((s.addCount a 1).setCol a .black, acc ++ [a]) := by
      show (if ((s.addCount a 1).cell a).col = .black then _ else _) = _; rw [addCount_col]
    rw [e]
    by_cases q : (s.cell a).col = .black
    · rw [if_pos q]
      have h := blacked r (s.addCount a 1) acc
      refine ⟨(Shade.refl.addCount).trans h.shade, fun n => ?_, fun n => ?_, ?_⟩
      · rw [h.count, addCount_count, List.count_cons]
        by_cases z : n = a
        · subst z; simp; walk_at "om"
        · have : (a == n) = false := by simpa using fun y => z y.symm
          simp [z, this]
      · rw [h.col, addCount_col]
        by_cases z : n = a
        · subst z; simp [q]
        · simp [z]
      · obtain ⟨l, e, hd, hl⟩ := h.list
        refine ⟨l, e, hd, fun x => ?_⟩
        rw [hl, addCount_col]
        by_cases z : x = a
        · subst z; simp [q]
        · simp [z]
    · rw [if_neg q]
      have h := blacked r ((s.addCount a 1).setCol a .black) (acc ++ [a])
      refine ⟨((Shade.refl.addCount).setCol).trans h.shade, fun n => ?_, fun n => ?_, ?_⟩
      · rw [h.count, setCol_count, addCount_count, List.count_cons]
        by_cases z : n = a
        · subst z; simp; walk_at "om"
        · have : (a == n) = false := by simpa using fun y => z y.symm
          simp [z, this]
      · rw [h.col, setCol_col, addCount_col]
        by_cases z : n = a
        · subst z; simp
        · simp [z]
      · obtain ⟨l, e, hd, hl⟩ := h.list
        refine ⟨a :: l, by rw [e]; simp, ?_, fun x => ?_⟩
        · rw [List.nodup_cons]
          refine ⟨fun hx => ?_, hd⟩
          have := ((hl a).mp hx).2
          rw [setCol_col, if_pos rfl] at this
          exact this rfl
        · rw [List.mem_cons, hl, setCol_col, addCount_col, List.mem_cons]
          by_cases z : x = a
          · subst z; simp [q]
          · simp [z]
end
end
section
section
variable {b s s' : S} {X Y : Nat → Prop} {f : Nat → Int} {cs D ts0 : List Nat} {m0 : Nat}
theorem ids_le (ok : Ok b f) (hl : b.last ≤ 60) : b.ids.length ≤ 60 := by have := ok.frd; walk_at "om"
theorem black_run (B : Base b cs) : Run S.blackStep (BlackI b cs D ts0 m0) where
  small := fun m s ts h => ⟨h.shade.wf (B.ok.wf B.last), by have := h.meas; have := h.le; walk_at "om", h.shade.alive B.ok, fun t ht => by rw [h.shade.ids]; exact (h.now t ht).1⟩
  step := fun m s ts t h => by
    obtain ⟨ht, hit, htc⟩ := h.now t (by simp)
    have hm := h.meas
    rw [List.length_append, List.length_singleton] at hm
    have Bl := blacked (b.kids t) s []
    unfold S.blackStep
    rw [h.shade.kids t]
    generalize (b.kids t).foldl S.blackOne (s, []) = p at Bl
    obtain ⟨l, el, hld, hl⟩ := Bl.list
    rw [List.nil_append] at el
    rw [el]
    have htn : t ∉ ts := fun z => by
      have := (List.nodup_append.mp h.nd).2.2 t z t (by simp)
      exact this rfl
    have htd : ts.Nodup := (List.nodup_append.mp h.nd).1
    have hkids : ∀ x ∈ b.kids t, x ∈ b.ids ∧ In b cs x ∧ Reach b x := fun x hx => ⟨B.ok.kids ht hx, hit.kid ht hx, (h.blk t ht hit htc).1.kid ht hx⟩
    have hbl : ∀ n, (s.cell n).col = .black → (p.1.cell n).col = .black := fun n hn => by rw [Bl.col]; split <;> first | rfl | exact hn
    have hne : ∀ n c, c ≠ .black → (p.1.cell n).col = c → (s.cell n).col = c ∧ n ∉ b.kids t := fun n c hc hn => by
      rw [Bl.col] at hn
      by_cases z : n ∈ b.kids t
      · rw [if_pos z] at hn; exact absurd hn.symm hc
      · rw [if_neg z] at hn; exact ⟨hn, z⟩
    refine ⟨m - 1, by walk_at "om", h.shade.trans Bl.shade, fun n hn => ?_, fun n hn hi => ?_, fun n hn hi hp => ?_, fun n hn hi hb => ?_, fun n hn hw => ?_, fun n hn hw k hk => ?_, h.pend, fun c hc => ?_, ?_, h.le0, fun x hx => ?_, ?_, ?_, by have := h.le; walk_at "om"⟩
    · have e := E_add (P := fun x => gw p.1 x || decide (x ∈ ts ++ l)) (P' := fun x => gw s x || decide (x ∈ ts ++ [t])) (n := n) B.ok.nodup ht ?_ ?_ fun x hx => ?_
      · have := h.cnt n hn
        rw [Bl.count]; walk_at "om"
      · have c1 : (p.1.cell t).col = .black := hbl t htc
        have c2 : t ∉ l := fun z => ((hl t).mp z).2 htc
        simp [gw, gr, wh, c1, htn, c2]
      · simp
      · by_cases z : x ∈ l
        · obtain ⟨zk, zc⟩ := (hl x).mp z
          have zp := h.inn x (hkids x zk).1 (hkids x zk).2.1
          have : gw s x = true := by
            unfold gw gr wh
            cases q : (s.cell x).col with
            | black => exact absurd q zc
            | purple => exact absurd q zp
            | grey => rfl
            | white => rfl
          simp [this, z]
        · have : gw p.1 x = gw s x := by
            unfold gw gr wh
            rw [Bl.col]
            by_cases zk : x ∈ b.kids t
            · have zc : (s.cell x).col = .black := Classical.byContradiction fun q => z ((hl x).mpr ⟨zk, q⟩)
              rw [if_pos zk, zc]
            · rw [if_neg zk]
          simp [this, z, hx]
    · have : n ∉ b.kids t := fun z => hi (hkids n z).2.1
      rw [Bl.col, if_neg this]; exact h.out n hn hi
    · exact h.inn n hn hi (hne n _ (by decide) hp).1
    · by_cases z : (s.cell n).col = .black
      · obtain ⟨z1, z2⟩ := h.blk n hn hi z
        refine ⟨z1, ?_⟩
        by_cases q : n = t
        · subst q
          exact .inr fun k hk => by rw [Bl.col, if_pos hk]
        · rcases z2 with z2 | z2
          · rcases List.mem_append.mp z2 with z2 | z2
            · exact .inl (List.mem_append_left _ z2)
            · exact absurd (List.mem_singleton.mp z2) q
          · exact .inr fun k hk => hbl k (z2 k hk)
      · have zk : n ∈ b.kids t := Classical.byContradiction fun q => by rw [Bl.col, if_neg q] at hb; exact z hb
        exact ⟨(hkids n zk).2.2, .inl (List.mem_append_right _ ((hl n).mpr ⟨zk, z⟩))⟩
    · obtain ⟨h1, h2⟩ := hne n _ (by decide) hw
      rw [Bl.count, List.count_eq_zero.mpr h2]
      have := h.wht n hn h1
      walk_at "om"
    · obtain ⟨h1, h2⟩ := hne n _ (by decide) hw
      rcases h.wcl n hn h1 k hk with z | z
      · exact .inl fun q => z (hne k _ (by decide) q).1
      · exact .inr z
    · exact (h.done c hc).imp_left fun z q => z (hne c _ (by decide) q).1
    · have := U_mono (b := b) (P := fun x => !gr s x) (P' := fun x => !gr p.1 x) fun x hx q => by
        simp only [gr, Bool.not_eq_true', decide_eq_false_iff_not] at q ⊢
        exact fun z => q (hne x _ (by decide) z).1
      have := h.meas0; walk_at "om"
    · rcases List.mem_append.mp hx with hx | hx
      · obtain ⟨a1, a2, a3⟩ := h.now x (List.mem_append_left _ hx)
        exact ⟨a1, a2, hbl x a3⟩
      · have hx' := ((hl x).mp hx).1
        exact ⟨(hkids x hx').1, (hkids x hx').2.1, by rw [Bl.col, if_pos hx']⟩
    · refine List.nodup_append.mpr ⟨htd, hld, fun x hx y hy q => ?_⟩
      subst q
      exact ((hl x).mp hy).2 (h.now x (List.mem_append_left _ hx)).2.2
    · have hsub : ((b.ids.filter fun x => !bl p.1 x) ++ l).length ≤ (b.ids.filter fun x => !bl s x).length := by
        refine len_sub _ _ (List.nodup_append.mpr ⟨B.ok.nodup.filter _, hld, fun x hx y hy q => ?_⟩) fun x hx => ?_
        · subst q
          have := (List.mem_filter.mp hx).2
          have c1 : (p.1.cell x).col = .black := by rw [Bl.col, if_pos ((hl x).mp hy).1]
          simp [bl, c1] at this
        · rcases List.mem_append.mp hx with hx | hx
          · obtain ⟨x1, x2⟩ := List.mem_filter.mp hx
            refine List.mem_filter.mpr ⟨x1, ?_⟩
            simp only [bl, Bool.not_eq_true', decide_eq_false_iff_not] at x2 ⊢
            exact fun z => x2 (hbl x z)
          · obtain ⟨x1, x2⟩ := (hl x).mp hx
            refine List.mem_filter.mpr ⟨(hkids x x1).1, ?_⟩
            simpa [bl] using x2
      unfold NB at hm ⊢
      rw [List.length_append] at hsub ⊢
      walk_at "om"
theorem held_live (B : Base b cs) {ts : List Nat} {m : Nat} (h : ScanI b cs D m s ts) {t : Nat} (ht : t ∈ b.ids) (hc : (s.cell t).count > 0) : Reach b t := by
  have h1 := h.cnt t ht
  have h2 := full_eq B.ok ht
  refine Classical.byContradiction fun hn => ?_
  have h3 : vsum b.vars (one t) = 0 := by
    have := (not_congr (lsum_pos (vs := b.vars.map (·.2)) (n := t))).mpr fun z => by
      obtain ⟨e, he, q⟩ := List.mem_map.mp z
      exact hn (Reach.var he q)
    unfold vsum; walk_at "om"
  have h4 : E b (fun _ => true) t ≤ E b (gw s) t := E_le fun m hm hk _ => Classical.byContradiction fun q => by
    have q : gw s m = false := by simpa using q
    have q1 : (s.cell m).col ≠ .grey ∧ (s.cell m).col ≠ .white := by simpa [gw, gr, wh] using q
    rcases B.live hm with hl | hi
    · exact hn (hl.kid hm hk)
    · have hb : (s.cell m).col = .black := by
        have hp := h.inn m hm hi
        cases z : (s.cell m).col with
        | black => rfl
        | purple => exact absurd z hp
        | grey => exact absurd z q1.1
        | white => exact absurd z q1.2
      exact hn ((h.blk m hm hi hb).1.kid hm hk)
  walk_at "om"
theorem scan_ok (B : Base b cs) : Scans (ScanI b cs D) where
  small := fun m s ts h => ⟨h.shade.wf (B.ok.wf B.last), by have := h.meas; have := h.le; walk_at "om", h.shade.alive B.ok, fun t ht => by rw [h.shade.ids]; exact (h.pend t ht).1⟩
  other := fun m s ts t h q => by
    have hm := h.meas
    rw [List.length_append, List.length_singleton] at hm
    refine ⟨m - 1, by walk_at "om", h.shade, h.cnt, h.out, h.inn, h.blk, h.wht, fun n hn hw k hk => ?_, fun x hx => h.pend x (List.mem_append_left _ hx), fun c hc => ?_, by walk_at "om", by have := h.le; walk_at "om"⟩
    · rcases h.wcl n hn hw k hk with z | z
      · exact .inl z
      · rcases List.mem_append.mp z with z | z
        · exact .inr z
        · rw [List.mem_singleton.mp z]; exact .inl q
    · rcases h.done c hc with z | z
      · exact .inl z
      · rcases List.mem_append.mp z with z | z
        · exact .inr z
        · rw [List.mem_singleton.mp z]; exact .inl q
  white := fun m s ts t h q hc => by
    have hm := h.meas
    rw [List.length_append, List.length_singleton] at hm
    obtain ⟨ht, hit⟩ := h.pend t (by simp)
    have hcol : ∀ n, ((s.setCol t .white).cell n).col = if n = t then .white else (s.cell n).col := fun n => setCol_col
    have hcnt : ∀ n, ((s.setCol t .white).cell n).count = (s.cell n).count := fun n => setCol_count
    have hs : Shade b (s.setCol t .white) := h.shade.setCol
    rw [h.shade.kids t]
    generalize s.setCol t .white = s2 at *
    have hU := U_add (b := b) (P := fun x => !gr s x) (P' := fun x => !gr s2 x) (x := t) B.ok.nodup ht (by simp [gr, q]) (by simp [gr, hcol]) fun x hx => by simp only [gr, hcol, if_neg hx]
    have hng : ∀ n, (s.cell n).col ≠ .grey → (s2.cell n).col ≠ .grey := fun n hn => by
      rw [hcol]; split
      · exact nofun
      · exact hn
    have htn : (s2.cell t).col ≠ .grey := by rw [hcol, if_pos rfl]; exact nofun
    refine ⟨m - 1, by walk_at "om", hs, fun n hn => ?_, fun n hn hi => ?_, fun n hn hi => ?_, fun n hn hi hb => ?_, fun n hn hw => ?_, fun n hn hw k hk => ?_, fun x hx => ?_, fun c hc => ?_, by rw [List.length_append]; walk_at "om", by have := h.le; walk_at "om"⟩
    · rw [hcnt, E_congr (P := gw s2) (P' := gw s) fun x hx => ?_]
      · exact h.cnt n hn
      · by_cases z : x = t
        · subst z; simp [gw, gr, wh, hcol, q]
        · simp only [gw, gr, wh, hcol, if_neg z]
    · have : n ≠ t := fun z => hi (z ▸ hit)
      rw [hcol, if_neg this]; exact h.out n hn hi
    · rw [hcol]; split
      · exact nofun
      · exact h.inn n hn hi
    · have z : n ≠ t := fun z => by rw [hcol, if_pos z] at hb; cases hb
      rw [hcol, if_neg z] at hb
      obtain ⟨z1, z2⟩ := h.blk n hn hi hb
      refine ⟨z1, fun k hk => ?_⟩
      have : k ≠ t := fun z => by have := z2 k hk; rw [z, q] at this; cases this
      rw [hcol, if_neg this]; exact z2 k hk
    · rw [hcnt]
      by_cases z : n = t
      · subst z; walk_at "om"
      · rw [hcol, if_neg z] at hw; exact h.wht n hn hw
    · by_cases z : n = t
      · subst z; exact .inr (List.mem_append_right _ hk)
      · rw [hcol, if_neg z] at hw
        rcases h.wcl n hn hw k hk with z | z
        · exact .inl (hng k z)
        · rcases List.mem_append.mp z with z | z
          · exact .inr (List.mem_append_left _ z)
          · rw [List.mem_singleton.mp z]; exact .inl htn
    · rcases List.mem_append.mp hx with hx | hx
      · exact h.pend x (List.mem_append_left _ hx)
      · exact ⟨B.ok.kids ht hx, hit.kid ht hx⟩
    · rcases h.done c hc with z | z
      · exact .inl (hng c z)
      · rcases List.mem_append.mp z with z | z
        · exact .inr (List.mem_append_left _ z)
        · rw [List.mem_singleton.mp z]; exact .inl htn
  black := fun m s ts t h q hc => by
    have hm := h.meas
    rw [List.length_append, List.length_singleton] at hm
    obtain ⟨ht, hit⟩ := h.pend t (by simp)
    have hlive := held_live B h ht hc
    refine ⟨BlackI b cs D ts (m - 1), 1000, black_run B, ?_, fun b' s' hj => ⟨m - 1, by walk_at "om", hj.shade, fun n hn => ?_, hj.out, hj.inn, fun n hn hi hb => ?_, hj.wht, hj.wcl, hj.pend, hj.done, hj.meas0, hj.le0⟩⟩
    · have hcol : ∀ n, ((s.setCol t .black).cell n).col = if n = t then .black else (s.cell n).col := fun n => setCol_col
      have hcnt : ∀ n, ((s.setCol t .black).cell n).count = (s.cell n).count := fun n => setCol_count
      have hs : Shade b (s.setCol t .black) := h.shade.setCol
      generalize s.setCol t .black = s2 at *
      have hne : ∀ n c, c ≠ .black → (s2.cell n).col = c → (s.cell n).col = c := fun n c hc hn => by
        rw [hcol] at hn
        split at hn
        · exact absurd hn.symm hc
        · exact hn
      have htn : (s2.cell t).col ≠ .grey := by rw [hcol, if_pos rfl]; exact nofun
      refine ⟨hs, fun n hn => ?_, fun n hn hi => ?_, fun n hn hi hp => h.inn n hn hi (hne n _ (by decide) hp), fun n hn hi hb => ?_, fun n hn hw => by rw [hcnt]; exact h.wht n hn (hne n _ (by decide) hw), fun n hn hw k hk => ?_, fun x hx => h.pend x (List.mem_append_left _ hx), fun c hc => ?_, ?_, by have := h.le; walk_at "om", fun x hx => ?_, by simp, ?_, Nat.le_refl _⟩
      · rw [hcnt, E_congr (P := fun x => gw s2 x || decide (x ∈ [t])) (P' := gw s) fun x hx => ?_]
        · exact h.cnt n hn
        · by_cases z : x = t
          · subst z; simp [gw, gr, wh, q]
          · simp only [gw, gr, wh, hcol, if_neg z]; simp [z]
      · have : n ≠ t := fun z => hi (z ▸ hit)
        rw [hcol, if_neg this]; exact h.out n hn hi
      · by_cases z : n = t
        · subst z; exact ⟨hlive, .inl (by simp)⟩
        · rw [hcol, if_neg z] at hb
          obtain ⟨z1, z2⟩ := h.blk n hn hi hb
          refine ⟨z1, .inr fun k hk => ?_⟩
          rw [hcol]; split
          · rfl
          · exact z2 k hk
      · rcases h.wcl n hn (hne n _ (by decide) hw) k hk with z | z
        · exact .inl fun y => z (hne k _ (by decide) y)
        · rcases List.mem_append.mp z with z | z
          · exact .inr z
          · rw [List.mem_singleton.mp z]; exact .inl htn
      · rcases h.done c hc with z | z
        · exact .inl fun y => z (hne c _ (by decide) y)
        · rcases List.mem_append.mp z with z | z
          · exact .inr z
          · rw [List.mem_singleton.mp z]; exact .inl htn
      · have := U_mono (b := b) (P := fun x => !gr s x) (P' := fun x => !gr s2 x) fun x hx q => by
          simp only [gr, Bool.not_eq_true', decide_eq_false_iff_not] at q ⊢
          exact fun z => q (hne x _ (by decide) z)
        walk_at "om"
      · rw [List.mem_singleton.mp hx]; exact ⟨ht, hit, by rw [hcol, if_pos rfl]⟩
      · have := ids_le B.ok B.last
        have : NB b s2 ≤ b.ids.length := List.length_filter_le _ _
        simp; walk_at "om"
    · have := hj.cnt n hn
      rw [E_congr (P := fun x => gw s' x || decide (x ∈ [])) (P' := gw s') fun x hx => by simp] at this
      exact this
    · obtain ⟨z1, z2⟩ := hj.blk n hn hi hb
      exact ⟨z1, z2.resolve_left fun z => by cases z⟩
end
end
section
/-! ## the collector: gathering -/
section
variable {b s s' : S} {X Y : Nat → Prop} {f : Nat → Int} {cs D ts0 : List Nat} {m0 : Nat}
theorem MarkI.grey_iff {m : Nat} (h : MarkI b cs cs m s []) {n : Nat} (hn : n ∈ b.ids) : gr s n = true ↔ In b cs n := by
  refine ⟨h.inn n hn, fun hi => ?_⟩
  exact hi (fun k => gr s k = true) (fun x hx hg k hk => (h.closed x hx hg k hk).resolve_right fun z => by cases z) fun c hc => (h.done c hc).resolve_right fun z => by cases z
theorem scan_start (B : Base b cs) {m : Nat} (h : MarkI b cs cs m s []) : ScanI b cs [] 1000 s [] where
  shade := h.shade
  cnt := fun n hn => by
    rw [E_congr (P := gw s) (P' := gr s) fun x hx => by simp [gw, wh, h.col x hx]]
    exact h.cnt n hn
  out := fun n hn hi => ⟨fun q => hi ((h.grey_iff hn).mp (decide_eq_true q)), h.col n hn⟩
  inn := fun n hn hi => by
    have := of_decide_eq_true ((h.grey_iff hn).mpr hi)
    rw [this]; exact nofun
  blk := fun n hn hi hb => by
    have := of_decide_eq_true ((h.grey_iff hn).mpr hi)
    rw [this] at hb; cases hb
  wht := fun n hn hw => absurd hw (h.col n hn)
  wcl := fun n hn hw => absurd hw (h.col n hn)
  pend := fun t ht => by cases ht
  done := fun c hc => by cases hc
  meas := by have := U_le (P := fun x => !gr s x) B.ok B.last; simp; walk_at "om"
  le := Nat.le_refl _
theorem ScanI.next {m c : Nat} (h : ScanI b cs D m s []) (B : Base b cs) (hc : c ∈ cs) : ScanI b cs (D ++ [c]) 1000 s [c] where
  shade := h.shade
  cnt := h.cnt
  out := h.out
  inn := h.inn
  blk := h.blk
  wht := h.wht
  wcl := fun n hn hg k hk => (h.wcl n hn hg k hk).imp_right fun z => by cases z
  pend := fun t ht => by rw [List.mem_singleton.mp ht]; exact ⟨B.mem c hc, In.of hc⟩
  done := fun x hx => (List.mem_append.mp hx).elim (fun hx => (h.done x hx).imp_right fun z => by cases z) fun hx => .inr (by rw [List.mem_singleton.mp hx]; simp)
  meas := by have := U_le (P := fun x => !gr s x) B.ok B.last; simp; walk_at "om"
  le := Nat.le_refl _
structure Scanned (b : S) (cs : List Nat) (s : S) : Prop where
  shade : Shade b s
  cnt : ∀ n ∈ b.ids, (s.cell n).count + (E b (wh s) n : Nat) = (b.cell n).count
  col : ∀ n ∈ b.ids, (s.cell n).col ≠ .grey
  white : ∀ n ∈ b.ids, (s.cell n).col = .white ↔ ¬ Reach b n
  inn : ∀ n ∈ b.ids, (s.cell n).col = .white → In b cs n
  blk : ∀ n ∈ b.ids, In b cs n → (s.cell n).col ≠ .white → ∀ k ∈ b.kids n, (s.cell k).col ≠ .white
theorem scan_end (B : Base b cs) {m : Nat} (h : ScanI b cs cs m s []) : Scanned b cs s := by
  have hng : ∀ n ∈ b.ids, (s.cell n).col ≠ .grey := fun n hn q => by
    have hi : In b cs n := Classical.byContradiction fun z => (h.out n hn z).1 q
    have := hi (fun k => In b cs k ∧ (s.cell k).col ≠ .grey) (fun x hx ⟨hxi, hxc⟩ k hk => ⟨hxi.kid hx hk, ?_⟩) fun c hc => ⟨In.of hc, (h.done c hc).resolve_right fun z => by cases z⟩
    · exact this.2 q
    · have hp := h.inn x hx hxi
      cases z : (s.cell x).col with
      | black => rw [(h.blk x hx hxi z).2 k hk]; exact nofun
      | purple => exact absurd z hp
      | grey => exact absurd z hxc
      | white => exact (h.wcl x hx z k hk).resolve_right fun z => by cases z
  have hgw : ∀ x ∈ b.ids, gw s x = wh s x := fun x hx => by simp [gw, gr, hng x hx]
  have hcnt : ∀ n ∈ b.ids, (s.cell n).count + (E b (wh s) n : Nat) = (b.cell n).count := fun n hn => by
    have := h.cnt n hn
    rw [E_congr hgw] at this; exact this
  have hinn : ∀ n ∈ b.ids, (s.cell n).col = .white → In b cs n := fun n hn hw => Classical.byContradiction fun z => (h.out n hn z).2 hw
  have hblack : ∀ n ∈ b.ids, In b cs n → (s.cell n).col ≠ .white → (s.cell n).col = .black := fun n hn hi hw => by
    have hp := h.inn n hn hi
    cases z : (s.cell n).col with
    | black => rfl
    | purple => exact absurd z hp
    | grey => exact absurd z (hng n hn)
    | white => exact absurd z hw
  refine ⟨h.shade, hcnt, hng, fun n hn => ⟨fun hw hr => ?_, fun hr => Classical.byContradiction fun hw => ?_⟩, hinn, fun n hn hi hw k hk => by rw [(h.blk n hn hi (hblack n hn hi hw)).2 k hk]; exact nofun⟩
  · have key : ∀ k ∈ b.ids, (s.cell k).col = .white → vsum b.vars (one k) = 0 ∧ ∀ x ∈ b.ids, k ∈ b.kids x → (s.cell x).col = .white := fun k hk hkw => by
      have h1 := h.wht k hk hkw
      have h2 := hcnt k hk
      have h3 := full_eq B.ok hk
      have h4 : E b (wh s) k ≤ E b (fun _ => true) k := E_le fun _ _ _ _ => rfl
      refine ⟨by walk_at "om", fun x hx hkx => Classical.byContradiction fun q => ?_⟩
      have h5 := E_lt (P := wh s) (P' := fun _ => true) (n := k) B.ok.nodup (fun _ _ _ => rfl) hx (decide_eq_false q) rfl hkx
      walk_at "om"
    refine hr (fun k => k ∈ b.ids → (s.cell k).col ≠ .white) (fun x hx hxw k hk hki hkw => hxw hx ((key k hki hkw).2 x hx hk)) (fun e he k hk hki hkw => ?_) hn hw
    have := (key k hki hkw).1
    have h0 := (lsum_pos (vs := b.vars.map (·.2)) (n := k)).mpr (List.mem_map.mpr ⟨e, he, hk⟩)
    unfold vsum at this; walk_at "om"
  · rcases B.live hn with z | z
    · exact hr z
    · exact hr (h.blk n hn z (hblack n hn z hw)).1
structure GatherI (b : S) (cs : List Nat) (s1 : S) (m : Nat) (s : S) (fs ts : List Nat) : Prop where
  shade : Shade b s
  cnt : ∀ n ∈ b.ids, (s.cell n).count + (E b (wh s) n : Nat) = (b.cell n).count
  col : ∀ n ∈ b.ids, (s.cell n).col ≠ .grey
  sub : ∀ n ∈ b.ids, (s.cell n).col = .white → (s1.cell n).col = .white
  found : ∀ n, n ∈ fs ↔ n ∈ b.ids ∧ (s1.cell n).col = .white ∧ (s.cell n).col ≠ .white
  nd : fs.Nodup
  fcl : ∀ n ∈ fs, ∀ k ∈ b.kids n, (s.cell k).col ≠ .white ∨ k ∈ ts
  done : ∀ c ∈ cs, (s.cell c).col ≠ .white ∨ c ∈ ts
  pend : ∀ t ∈ ts, t ∈ b.ids
  meas : U b (fun x => !wh s x) + ts.length ≤ m
  le : m ≤ 1000
theorem gather_ok (B : Base b cs) {s1 : S} : Gathers (GatherI b cs s1) where
  small := fun m s fs ts h => ⟨h.shade.wf (B.ok.wf B.last), by have := h.meas; have := h.le; walk_at "om", h.shade.alive B.ok, fun t ht => by rw [h.shade.ids]; exact h.pend t ht, by
    have := len_sub fs b.ids h.nd fun x hx => ((h.found x).mp hx).1
    have := ids_le B.ok B.last
    walk_at "om"⟩
  other := fun m s fs ts t h q => by
    have hm := h.meas
    rw [List.length_append, List.length_singleton] at hm
    refine ⟨m - 1, by walk_at "om", h.shade, h.cnt, h.col, h.sub, h.found, h.nd, fun n hn k hk => ?_, fun c hc => ?_, fun x hx => h.pend x (List.mem_append_left _ hx), by walk_at "om", by have := h.le; walk_at "om"⟩
    · rcases h.fcl n hn k hk with z | z
      · exact .inl z
      · rcases List.mem_append.mp z with z | z
        · exact .inr z
        · rw [List.mem_singleton.mp z]; exact .inl q
    · rcases h.done c hc with z | z
      · exact .inl z
      · rcases List.mem_append.mp z with z | z
        · exact .inr z
        · rw [List.mem_singleton.mp z]; exact .inl q
  white := fun m s fs ts t h q => by
    have hm := h.meas
    rw [List.length_append, List.length_singleton] at hm
    have ht := h.pend t (by simp)
    rw [h.shade.kids t]
    have hcol : ∀ n, (((s.setCol t .black).adds (b.kids t) 1).cell n).col = if n = t then .black else (s.cell n).col := fun n => by rw [adds_col, setCol_col]
    have hcnt : ∀ n, (((s.setCol t .black).adds (b.kids t) 1).cell n).count = (s.cell n).count + ((b.kids t).count n : Nat) := fun n => by rw [adds_count, setCol_count]; walk_at "om"
    have hs : Shade b ((s.setCol t .black).adds (b.kids t) 1) := Shade.adds _ h.shade.setCol
    generalize (s.setCol t .black).adds (b.kids t) 1 = s2 at *
    have w0 : wh s2 t = false := by unfold wh; rw [hcol, if_pos rfl]; rfl
    have w1 : wh s t = true := decide_eq_true q
    have w2 : ∀ n, n ≠ t → wh s n = wh s2 n := fun n hn => by unfold wh; rw [hcol, if_neg hn]
    have hU := U_add (b := b) (P := fun x => !wh s x) (P' := fun x => !wh s2 x) (x := t) B.ok.nodup ht (by simp [w1]) (by simp [w0]) fun x hx => by rw [w2 x hx]
    have hnw : ∀ n, (s2.cell n).col = .white → (s.cell n).col = .white ∧ n ≠ t := fun n hn => by
      rw [hcol] at hn
      split at hn
      · cases hn
      · rename_i z; exact ⟨hn, z⟩
    have htf : t ∉ fs := fun z => ((h.found t).mp z).2.2 q
    have htw : (s2.cell t).col ≠ .white := by rw [hcol, if_pos rfl]; exact nofun
    refine ⟨m - 1, by walk_at "om", hs, fun n hn => ?_, fun n hn => ?_, fun n hn hw => h.sub n hn (hnw n hw).1, fun n => ?_, ?_, fun n hn k hk => ?_, fun c hc => ?_, fun x hx => ?_, by rw [List.length_append]; walk_at "om", by have := h.le; walk_at "om"⟩
    · have := E_add (b := b) (n := n) B.ok.nodup ht w0 w1 w2
      have := h.cnt n hn
      rw [hcnt]; walk_at "om"
    · rw [hcol]; split
      · exact nofun
      · exact h.col n hn
    · rw [List.mem_append, List.mem_singleton, h.found n]
      by_cases z : n = t
      · subst z
        simp only [or_true, true_iff]
        exact ⟨ht, h.sub n ht q, htw⟩
      · simp only [z, or_false]
        rw [hcol, if_neg z]
    · exact List.nodup_append.mpr ⟨h.nd, by simp, fun x hx y hy e => htf (by rw [← List.mem_singleton.mp hy, ← e]; exact hx)⟩
    · rcases List.mem_append.mp hn with hn | hn
      · rcases h.fcl n hn k hk with z | z
        · exact .inl fun y => z (hnw k y).1
        · rcases List.mem_append.mp z with z | z
          · exact .inr (List.mem_append_left _ z)
          · rw [List.mem_singleton.mp z]; exact .inl htw
      · rw [List.mem_singleton.mp hn] at hk
        exact .inr (List.mem_append_right _ hk)
    · rcases h.done c hc with z | z
      · exact .inl fun y => z (hnw c y).1
      · rcases List.mem_append.mp z with z | z
        · exact .inr (List.mem_append_left _ z)
        · rw [List.mem_singleton.mp z]; exact .inl htw
    · rcases List.mem_append.mp hx with hx | hx
      · exact h.pend x (List.mem_append_left _ hx)
      · exact B.ok.kids ht hx
theorem gather_start (B : Base b cs) {s1 : S} (h : Scanned b cs s1) (hz : cs.length ≤ 200) : GatherI b cs s1 1000 s1 [] cs where
  shade := h.shade
  cnt := h.cnt
  col := h.col
  sub := fun n hn hw => hw
  found := fun n => ⟨fun z => (by cases z), fun ⟨_, z, y⟩ => absurd z y⟩
  nd := List.nodup_nil
  fcl := fun n hn => by cases hn
  done := fun c hc => .inr hc
  pend := B.mem
  meas := by have := U_le (P := fun x => !wh s1 x) B.ok B.last; walk_at "om"
  le := Nat.le_refl _
/-- what the gathering leaves: the counts are full again, what is found is not reachable -/
theorem gather_end (B : Base b cs) {s1 : S} (h1 : Scanned b cs s1) {m : Nat} {fs : List Nat} (h : GatherI b cs s1 m s fs []) : Ok s (fun _ => 0) ∧ Shade b s ∧ (∀ n, n ∈ fs ↔ n ∈ b.ids ∧ ¬ Reach b n) ∧ fs.Nodup := by
  have hw : ∀ n ∈ b.ids, (s.cell n).col ≠ .white := fun n hn q => by
    have hi : In b cs n := h1.inn n hn (h.sub n hn q)
    have := hi (fun k => k ∈ b.ids ∧ In b cs k ∧ (s.cell k).col ≠ .white) (fun x hx ⟨_, hxi, hxc⟩ k hk => ⟨B.ok.kids hx hk, hxi.kid hx hk, ?_⟩) fun c hc => ⟨B.mem c hc, In.of hc, (h.done c hc).resolve_right fun z => by cases z⟩
    · exact this.2.2 q
    · by_cases z : (s1.cell x).col = .white
      · exact (h.fcl x ((h.found x).mpr ⟨hx, z, hxc⟩) k hk).resolve_right fun z => by cases z
      · exact fun y => h1.blk x hx hxi z k hk (h.sub k (B.ok.kids hx hk) y)
  have hE : ∀ n, E b (wh s) n = 0 := fun n => by
    rw [E_congr (P := wh s) (P' := fun _ => false) fun x hx => decide_eq_false (hw x hx)]
    unfold E
    have : ∀ l : List Nat, (l.map fun m => if (fun _ => false : Nat → Bool) m = true then (b.kids m).count n else 0).sum = 0 := fun l => by
      induction l with
      | nil => rfl
      | cons a r ih => rw [List.map_cons, List.sum_cons, ih]; simp
    exact this _
  refine ⟨?_, h.shade, fun n => ?_, h.nd⟩
  · have S0 := h.shade
    have O := B.ok.recell (f' := fun _ => 0) s.cell [] S0.sort S0.slots (fun n hn => ⟨h.col n hn, hw n hn⟩) (fun n hn => by
      have := h.cnt n hn
      rw [hE] at this; walk_at "om") List.nodup_nil fun n => ⟨fun z => (by cases z), fun ⟨z1, z2⟩ => by
        rw [S0.buf] at z2
        have := (B.ok.bmem n).mpr ⟨z1, z2⟩
        rw [B.buf] at this; exact this⟩
    have hb : s.buffer = [] := S0.buffer.trans B.buf
    exact { nodup := by rw [S0.ids]; exact O.nodup, pos := by rw [S0.ids, S0.last]; exact O.pos, vnd := by rw [S0.vars]; exact O.vnd, tnd := by rw [S0.tab]; exact O.tnd, snd := by rw [S0.ids]; exact O.snd, vkey := by rw [S0.vars]; exact O.vkey, skey := by rw [S0.ids]; exact O.skey, tkey := by rw [S0.ids, S0.tab]; exact O.tkey,
            alive := fun k hk => by
              rw [S0.ids]
              refine O.alive k ?_
              rw [S.mem_allHeld] at hk ⊢
              rw [S0.vars, S0.ids, S0.tab] at hk
              exact hk,
            cnt := fun n hn => by
              rw [S0.ids] at hn
              have := O.cnt n hn
              have e : s.sum (one n) = ({ b with cell := s.cell, buffer := [] } : S).sum (one n) := by rw [S.sum_eq, S.sum_eq, S0.vars, S0.ids, S0.tab]
              rw [e]; exact this,
            rf := fun r hr hs => by
              rw [S0.ids] at hr
              exact O.rf r hr hs,
            bnd := by rw [hb]; exact List.nodup_nil, bmem := fun n => by rw [hb, S0.ids]; exact O.bmem n, col := by rw [S0.ids]; exact O.col, log := by rw [S0.logn, S0.ids, S0.last]; exact O.log, frd := by rw [S0.freed, S0.ids, S0.last]; exact O.frd }
  · rw [h.found]
    constructor
    · rintro ⟨z1, z2, _⟩; exact ⟨z1, (h1.white n z1).mp z2⟩
    · rintro ⟨z1, z2⟩; exact ⟨z1, (h1.white n z1).mpr z2, hw n z1⟩
end
end
section
/-! ## the collector: the suspects taken over, the cells freed -/
noncomputable def S.unbuf (s : S) (k : Nat) : S := s.upd k fun c => { c with buf := false }
noncomputable def S.unbufs (s : S) (ks : List Nat) : S := ks.foldl S.unbuf s
noncomputable def S.taken (s : S) : S := { s with buffer := [], bk := s.bk + 1 }
noncomputable def S.basis (s : S) : S := s.taken.unbufs s.buffer
structure Unb (s s' : S) (ks : List Nat) : Prop where
  eq : s' = { s with cell := s'.cell }
  sort : ∀ n, (s'.cell n).sort = (s.cell n).sort
  count : ∀ n, (s'.cell n).count = (s.cell n).count
  slots : ∀ n, (s'.cell n).slots = (s.cell n).slots
  col : ∀ n, (s'.cell n).col = (s.cell n).col
  weak : ∀ n, (s'.cell n).weak = (s.cell n).weak
  buf : ∀ n, (s'.cell n).buf = if n ∈ ks then false else (s.cell n).buf
section
variable {b s s' : S} {X Y : Nat → Prop} {f : Nat → Int} {cs D ts0 : List Nat} {m0 : Nat}
theorem unbuf_buf {s : S} {k n : Nat} : ((s.unbuf k).cell n).buf = if n = k then false else (s.cell n).buf := by
  show ((s.upd k fun c => { c with buf := false }).cell n).buf = _
  rw [S.upd_cell]; split <;> rfl
theorem unbufs_ok : ∀ (ks : List Nat) (s : S), Unb s (s.unbufs ks) ks
  | [], s => ⟨rfl, fun _ => rfl, fun _ => rfl, fun _ => rfl, fun _ => rfl, fun _ => rfl, fun n => by simp; rfl⟩
  | a :: r, s => by
    have h := unbufs_ok r (s.unbuf a)
    have e : s.unbufs (a :: r) = (s.unbuf a).unbufs r := rfl
    rw [e]
    refine ⟨?_, fun n => (h.sort n).trans (upd_field (u := fun c => { c with buf := false }) Cel.sort fun _ => rfl), fun n => (h.count n).trans (upd_field (u := fun c => { c with buf := false }) Cel.count fun _ => rfl), fun n => (h.slots n).trans (upd_field (u := fun c => { c with buf := false }) Cel.slots fun _ => rfl), fun n => (h.col n).trans (upd_field (u := fun c => { c with buf := false }) Cel.col fun _ => rfl), fun n => (h.weak n).trans (upd_field (u := fun c => { c with buf := false }) Cel.weak fun _ => rfl), fun n => ?_⟩
    · have := h.eq
      generalize (s.unbuf a).unbufs r = s2 at this ⊢
      rw [this]; rfl
    · rw [h.buf, unbuf_buf]
      by_cases z : n = a
      · subst z; simp
      · simp [z]
theorem unbufs_snoc {ks : List Nat} {k : Nat} : s.unbufs (ks ++ [k]) = (s.unbufs ks).unbuf k := by unfold S.unbufs; rw [List.foldl_append]; rfl
theorem unbufs_ids {ks : List Nat} : (s.unbufs ks).ids = s.ids := by rw [(unbufs_ok ks s).eq]
theorem Ok.bk (h : Ok s f) (j : Nat) : Ok { s with bk := j } f := ⟨h.nodup, h.pos, h.vnd, h.tnd, h.snd, h.vkey, h.skey, h.tkey, h.alive, h.cnt, h.rf, h.bnd, h.bmem, h.col, h.log, h.frd⟩
theorem basis_facts (s : S) : Unb s.taken s.basis s.buffer := unbufs_ok s.buffer s.taken
structure Basis (s b : S) : Prop where
  ids : b.ids = s.ids
  vars : b.vars = s.vars
  tab : b.tab = s.tab
  last : b.last = s.last
  freed : b.freed = s.freed
  sort : ∀ n, (b.cell n).sort = (s.cell n).sort
  slots : ∀ n, (b.cell n).slots = (s.cell n).slots
  weak : ∀ n, (b.cell n).weak = (s.cell n).weak
theorem basis_basis : Basis s s.basis := by
  have h := basis_facts s
  have e := h.eq
  refine ⟨?_, ?_, ?_, ?_, ?_, h.sort, h.slots, h.weak⟩
  all_goals (rw [e]; rfl)
theorem Calm.base (h : Calm s) (hl : s.last ≤ 60) : Base s.basis s.buffer := by
  have U := basis_facts s
  have B := basis_basis (s := s)
  have e := U.eq
  have O := h.ok.recell (f' := fun _ => 0) s.basis.cell [] B.sort B.slots (fun n hn => by rw [U.col]; exact h.ok.col n hn) (fun n hn => by rw [U.count]; rfl) List.nodup_nil fun n => ⟨fun z => (by cases z), fun ⟨z1, z2⟩ => by
    rw [U.buf] at z2
    split at z2
    · cases z2
    · rename_i z; exact absurd ((h.ok.bmem n).mpr ⟨z1, z2⟩) z⟩
  have O2 := O.bk (s.bk + 1)
  have e2 : s.basis = { { s with cell := s.basis.cell, buffer := [] } with bk := s.bk + 1 } := e
  have eb : s.basis.buffer = [] := by rw [e]; rfl
  have hk : ∀ n, s.basis.kids n = s.kids n := fun n => kids_congr B.tab (B.slots n)
  refine ⟨by rw [e2]; exact O2, fun c hc => by rw [B.ids]; exact ((h.ok.bmem c).mp hc).1, by rw [B.last]; exact hl, fun C hC hR hcs n hn => ?_, eb⟩
  exact h.susp C (fun x hx hCx k hkx => hC x (by rw [B.ids]; exact hx) hCx k (by rw [hk]; exact hkx)) (fun e he => hR e (by rw [B.vars]; exact he)) hcs (fun k hk => hk.elim) n (by rw [← B.ids]; exact hn)
/-- the cells of d are freed -/
structure FreeI (b : S) (d : List Nat) (s : S) (ls : List Val) : Prop where
  ids : s.ids = b.ids.filter fun n => decide (n ∉ d)
  cell : s.cell = b.cell
  vars : s.vars = b.vars
  last : s.last = b.last
  buffer : s.buffer = []
  tab : ∀ i, i < 2 → s.tab i = (b.tab i).filter fun e => decide (e.1.toNat ∉ d)
  freed : s.freed = b.freed + d.length
  logn : s.logn = b.logn + d.length
  len : d.length + s.ids.length = b.ids.length
  sum : ∀ g, s.sum g + lsum ls g = b.sum g
  held : ∀ v ∈ ls, ∃ n ∈ d, v ∈ b.heldBy n
theorem dget_filter {α : Type} {es : List (Int × α)} {i : Int} {p : Int × α → Bool} (h : ∀ e ∈ es, e.1 = i → p e = true) : dget (es.filter p) i = dget es i := by
  induction es with
  | nil => rfl
  | cons e r ih =>
    have ih := ih fun a ha => h a (List.mem_cons_of_mem _ ha)
    by_cases z : e.1 = i
    · rw [List.filter_cons_of_pos (h e List.mem_cons_self z), dget_cons, dget_cons, if_pos z, if_pos z]
    · rw [List.filter_cons]
      split
      · rw [dget_cons, dget_cons, if_neg z, if_neg z, ih]
      · rw [dget_cons, if_neg z, ih]
theorem FreeI.wf {d : List Nat} {ls : List Val} (h : FreeI b d s ls) (ok : Ok b f) (hl : b.last ≤ 60) : Wf 1000 s := by
  have w := ok.wf hl
  have hm : ∀ n ∈ s.ids, n ∈ b.ids := fun n hn => by rw [h.ids] at hn; exact (List.mem_filter.mp hn).1
  have := h.len
  refine ⟨fun n hn hs => ?_, fun n hn => ?_, ?_, ?_, fun n hn => ?_, fun i hi => ?_, ?_, ?_, fun n hn => ?_⟩
  · rw [h.cell] at hs ⊢; exact w.ref n (hm n hn) hs
  · rw [h.cell]; exact w.nd n (hm n hn)
  · have := w.ids; walk_at "om"
  · rw [h.vars]; exact Nat.le_trans w.vars (by decide)
  · rw [h.cell]; exact Nat.le_trans (w.slots n (hm n hn)) (by decide)
  · rw [h.tab i hi]; exact Nat.le_trans (List.length_filter_le _ _) (Nat.le_trans (w.tab i hi) (by decide))
  · rw [h.buffer]; exact Nat.zero_le _
  · have := w.log; have := ids_le ok hl; rw [h.logn]; walk_at "om"
  · rw [h.last]; exact w.le n (hm n hn)
theorem FreeI.heldBy {d : List Nat} {ls : List Val} (h : FreeI b d s ls) {n : Nat} (hn : n ∉ d) : s.heldBy n = b.heldBy n := by
  unfold S.heldBy
  have e : ∀ i, i < 2 → dget (s.tab i) (n : Int) = dget (b.tab i) n := fun i hi => by
    rw [h.tab i hi]
    refine dget_filter fun e _ q => ?_
    rw [q]; simpa using hn
  simp only [List.filterMap_cons, List.filterMap_nil, e 0 (by decide), e 1 (by decide), h.cell]
theorem FreeI.start (hb : b.buffer = []) : FreeI b [] b [] where
  ids := (List.filter_eq_self.mpr fun _ _ => by simp).symm
  cell := rfl
  vars := rfl
  last := rfl
  buffer := hb
  tab := fun i hi => (List.filter_eq_self.mpr fun _ _ => by simp).symm
  freed := rfl
  logn := rfl
  len := by simp
  sum := fun g => by simp [lsum]
  held := fun v hv => by cases hv
theorem FreeI.step {d : List Nat} {ls : List Val} (h : FreeI b d s ls) (ok : Ok b f) (hb : b.buffer = []) {n : Nat} (hn : n ∈ b.ids) (hd : n ∉ d) : FreeI b (d ++ [n]) (s.free n) (ls ++ s.heldBy n) := by
  have hm : n ∈ s.ids := by rw [h.ids]; exact List.mem_filter.mpr ⟨hn, by simpa using hd⟩
  have hnd : s.ids.Nodup := by rw [h.ids]; exact ok.nodup.filter _
  have htp : ∀ i, i < 2 → ∀ e ∈ s.tab i, 0 ≤ e.1 := fun i hi e he => by
    rw [h.tab i hi] at he
    exact ok.tpos hi e (List.mem_filter.mp he).1
  have htn : ∀ i, i < 2 → ((s.tab i).map (·.1)).Nodup := fun i hi => by rw [h.tab i hi]; exact (ok.tnd i hi).sublist (List.filter_sublist.map _)
  have hbf : (s.cell n).buf = false := by
    rw [h.cell]
    cases q : (b.cell n).buf with
    | false => rfl
    | true => have := (ok.bmem n).mpr ⟨hn, q⟩; rw [hb] at this; cases this
  refine ⟨?_, h.cell, h.vars, h.last, ?_, fun i hi => ?_, ?_, ?_, ?_, fun g => ?_, fun v hv => ?_⟩
  · show s.ids.filter _ = _
    rw [h.ids, List.filter_filter]
    apply List.filter_congr
    intro x _
    simp [and_comm]
  · show (if (s.cell n).buf = true then s.buffer.erase n else s.buffer) = []
    rw [hbf, if_neg (by decide)]; exact h.buffer
  · have e : (s.free n).tab i = ddel (s.tab i) n := by
      have : i = 0 ∨ i = 1 := by walk_at "om"
      rcases this with rfl | rfl
      · exact free_tab.1
      · exact free_tab.2
    rw [e, ddel_filter (htp i hi), h.tab i hi, List.filter_filter]
    apply List.filter_congr
    intro x _
    simp [and_comm]
  · show s.freed + 1 = _; rw [h.freed]; simp; walk_at "om"
  · show s.logn + 1 = _; rw [h.logn]; simp; walk_at "om"
  · have := len_del hnd hm
    have := h.len
    show (d ++ [n]).length + (s.ids.filter (· ≠ n)).length = _
    rw [List.length_append, List.length_singleton]; walk_at "om"
  · have := free_sum (g := g) hnd hm htn
    have := h.sum g
    rw [lsum_append]; walk_at "om"
  · rcases List.mem_append.mp hv with hv | hv
    · obtain ⟨k, hk, q⟩ := h.held v hv
      exact ⟨k, List.mem_append_left _ hk, q⟩
    · rw [h.heldBy hd] at hv
      exact ⟨n, by simp, hv⟩
theorem Reach.mem (ok : Ok b f) {n : Nat} (h : Reach b n) : n ∈ b.ids := h (fun k => k ∈ b.ids) (fun x hx _ k hk => ok.kids hx hk) fun e he k hk => ok.alive k (S.mem_allHeld.mpr (.inl ⟨e, he, hk⟩))
structure Freed (b s : S) (ls : List Val) : Prop where
  pend : Pend s ls
  lost : Lost b s
  ids : ∀ n, n ∈ s.ids ↔ n ∈ b.ids ∧ Reach b n
  live : ∀ n ∈ s.ids, Reach s n
  buffer : s.buffer = []
/-- all that is not reachable is freed -/
theorem FreeI.done {d : List Nat} {ls : List Val} (h : FreeI b d s ls) (ok : Ok b fun _ => 0) (ho : b.okeys) (hb : b.buffer = []) (hd : ∀ n, n ∈ d ↔ n ∈ b.ids ∧ ¬ Reach b n) : Freed b s ls.reverse := by
  have hids : ∀ n, n ∈ s.ids ↔ n ∈ b.ids ∧ Reach b n := fun n => by
    rw [h.ids, List.mem_filter]
    simp only [decide_eq_true_eq, hd]
    constructor
    · rintro ⟨z1, z2⟩; exact ⟨z1, Classical.byContradiction fun q => z2 ⟨z1, q⟩⟩
    · rintro ⟨z1, z2⟩; exact ⟨z1, fun q => q.2 z2⟩
  have htab : ∀ i, i < 2 → s.tab i = (b.tab i).filter fun e => decide (e.1.toNat ∈ s.ids) := fun i hi => by
    rw [h.tab i hi]
    apply List.filter_congr
    intro e he
    obtain ⟨n, hn, q⟩ := ok.tkey i hi e he
    rw [q]
    show decide (n ∉ d) = decide (n ∈ s.ids)
    rw [decide_eq_decide, hd, hids]
    simp [hn]
  have hkids : ∀ n ∈ s.ids, s.kids n = b.kids n := fun n hn => by
    unfold S.kids
    rw [h.heldBy fun z => ((hd n).mp z).2 ((hids n).mp hn).2]
  have live : ∀ n ∈ s.ids, Reach s n := fun n hn C hC hR => by
    have := ((hids n).mp hn).2 (fun k => Reach b k ∧ C k) (fun x hx ⟨hxr, hxc⟩ k hk => ⟨hxr.kid hx hk, hC x ((hids x).mpr ⟨hx, hxr⟩) hxc k (by rw [hkids x ((hids x).mpr ⟨hx, hxr⟩)]; exact hk)⟩) fun e he k hk => ⟨Reach.var he hk, hR e (by rw [h.vars]; exact he) k hk⟩
    exact this.2
  have hheld : ∀ k, Val.cell k ∈ s.allHeld → Reach b k := fun k hk => by
    rcases S.mem_allHeld.mp hk with ⟨e, he, q⟩ | ⟨n, hn, e, he, q⟩ | ⟨i, hi, e, he, q⟩
    · rw [h.vars] at he; exact Reach.var he q
    · rw [h.cell] at he
      obtain ⟨n1, n2⟩ := (hids n).mp hn
      exact n2.kid n1 (mem_kids.mpr (.inr ⟨e, he, q⟩))
    · rw [htab i hi, List.mem_filter] at he
      obtain ⟨n, hn, qn⟩ := ok.tkey i hi e he.1
      have hn2 : n ∈ s.ids := by have := he.2; rw [qn] at this; simpa using this
      obtain ⟨n1, n2⟩ := (hids n).mp hn2
      refine n2.kid n1 (mem_kids.mpr (.inl ⟨i, hi, ?_⟩))
      rw [← qn, ← q]; exact dget_mem (ok.tnd i hi) he.1
  have hdl : ∀ n, decide (n ∈ d) = false ↔ n ∉ d := fun n => by simp
  refine ⟨⟨?_, fun C hC hR _ _ n hn => live n hn C hC hR, fun i hi e he n q => ?_⟩, ⟨fun n hn => ((hids n).mp hn).1, h.vars, h.last, htab, fun n => by rw [h.cell], fun n => by rw [h.cell], fun n => by rw [h.cell]⟩, hids, live, h.buffer⟩
  · refine (ok.drop (s' := s) (f' := L ls) (fun n => decide (n ∈ d)) (fun g => lsum ls g) (by rw [h.ids]; exact ok.nodup.filter _) (fun n => ?_) h.cell h.vars (fun i hi => ?_) h.last (by rw [h.buffer]; exact List.nodup_nil) (fun n => ?_) h.sum (fun n _ => by simp [L]) (fun k hk => ?_) ?_ ?_).congr fun n _ => by simp only [L, lsum_reverse]
    · rw [h.ids, List.mem_filter]; simp
    · rw [h.tab i hi]
      apply List.filter_congr
      intro e _; simp
    · rw [h.buffer, hb]; simp
    · exact fun z => ((hd k).mp (by simpa using hk)).2 (hheld k z)
    · have := ok.log; have := h.len; rw [h.logn, h.last]; walk_at "om"
    · have := ok.frd; have := h.len; rw [h.freed, h.last]; walk_at "om"
  · rw [htab i hi] at he
    rw [h.cell]
    exact ho i hi e (List.mem_filter.mp he).1 n q
end
end
section
/-! ## the rings found -/
section
variable {W : Wd} {n : Nat} {st : St} {Q : V → St → Prop} {x : Nat} {s : S} {N : Nat} {QU : Unit → St → Prop} {m : Nat} {c : Nat}
theorem d_newbuf (G : Gd W) {st0 : St} (hb : st = st0.set (.buf (s.bk + 1)) (.list [])) (R : Rep s N st0) (q : ∀ st', Rep s.taken N st' → Keep N st0 st' → QU () st') : OP W n RU (op2 fun o v => setAttr o "buffer" v) [.ref .heap, .ref (.buf (s.bk + 1))] QU st := by
  subst hb
  obtain ⟨fs, a, F⟩ := R.heap
  refine op_setattr G.ok G.counted (St.get_ne a) (by decide) (Nat.le_trans F.len (by decide)) (q _ (R.newBuf F.setBuffer) ((Keep.set rfl).trans (Keep.set rfl) (Nat.le_refl N)))
theorem take_snoc {α : Type} {l : List α} {j : Nat} {a : α} (h : l[j]? = some a) : l.take (j + 1) = l.take j ++ [a] := by rw [List.take_add_one, h]; rfl
theorem cl_at {cs : List Nat} {j : Nat} {v : V} (h : (cl cs)[j]? = some v) : ∃ c, cs[j]? = some c ∧ v = .ref (.cell c) := by
  simp only [cl, List.getElem?_map, Option.map_eq_some_iff] at h
  obtain ⟨k, h1, h2⟩ := h
  exact ⟨k, h1, h2.symm⟩
theorem bufMap_at {cs : List Nat} {j : Nat} {v : V} (h : (bufMap cs)[j]? = some v) : ∃ c, cs[j]? = some c ∧ v = .int (c : Nat) := by
  simp only [bufMap, List.getElem?_map, Option.map_eq_some_iff] at h
  obtain ⟨k, h1, h2⟩ := h
  exact ⟨k, h1, h2.symm⟩
structure Found (b s' : S) (ns : List Nat) : Prop where
  ok : Ok s' fun _ => 0
  shade : Shade b s'
  mem : ∀ n, n ∈ ns ↔ n ∈ b.ids ∧ ¬ Reach b n
  nd : ns.Nodup
theorem c_find_rings (G : Gd W) (R : Rep s N st) (h : Calm s) (hl : s.last ≤ 60)
    (q : ∀ s' ns N' j st', Found s.basis s' ns → N ≤ j → j < N' → Rep s' N' st' → Keep N st st' → st' (.tmp j) = some (.list (bufMap ns)) → Q (.ref (.tmp j)) st') : CallOK W (n + 5) "find_rings" [.ref .heap] Q st := by
  refine fn_intro G.ok G.fns (mem_rec (i := 60) rfl (by kernel_rfl)) (ps := ["heap"]) (fun pm code doc ws h => by obtain ⟨a, rfl⟩ := len1 h; kernel_rfl) (by decide) (by kernel_rfl) rfl rfl rfl ?_
  intro env henv
  have B := h.base hl
  have hb := R.buffer
  have hbz : s.buffer.length ≤ 200 := by have := (h.ok.wf hl).buf; walk_at "om"
  refine ts_cons (tx_name_comp G.ok (.tmp N) (CompOk.of henv (by kernel_rfl)) (.inl (kof henv rfl)) (sw_true henv (by kernel_rfl)) (ti_list G.ok ?_))
  walk_at "mm"
  refine ⟨by simp only [Src.items, bufMap, List.length_map]; walk_at "om", s.buffer.map (fun (c : Nat) => (.int (c : Int), some (.ref (.cell c)))), by simp [Src.items, bufMap, Function.comp_def], ?_, R.tmp (Nat.le_refl N), ?_⟩
  · intro z hz cenv hc
    rw [henv] at hc
    obtain ⟨c, hc', rfl⟩ := List.mem_map.mp hz
    have hcm : c ∈ s.ids := ((h.ok.bmem c).mp hc').1
    refine tf_nil ⟨rfl, rfl, fun y hy => ?_⟩
    cases hy
    walk_at "mm"
    exact d_cellitem R hcm ⟨rfl, rfl⟩
  · have e1 : (s.buffer.map (fun (c : Nat) => (V.int c, some (V.ref (.cell c))))).filterMap (·.2) = cl s.buffer := by
      rw [List.filterMap_map]
      unfold cl
      rw [← List.filterMap_eq_map]; rfl
    rw [e1]
    have R1 : Rep s (N + 1) (st.set (.tmp N) (.list (cl s.buffer))) := R.tmpset
    have K1 : Keep N st (st.set (.tmp N) (.list (cl s.buffer))) := Keep.set_tmp (Nat.le_refl N)
    have hl1 : (st.set (.tmp N) (.list (cl s.buffer))) (.tmp N) = some (.list (cl s.buffer)) := St.set_same
    generalize (st.set (.tmp N) (.list (cl s.buffer))) = st1 at R1 K1 hl1
    walk_at "mm"
    refine te_list G.ok (.buf (s.bk + 1)) ?_
    walk_at "mm"
    refine ⟨R1.bufnew (Nat.lt_succ_self _), ?_⟩
    walk_at "mm"
    refine d_newbuf G rfl R1 fun st2 R2 K2 => ?_
    have hl2 := (K2.tmp (k := N) (by walk_at "om")).trans hl1
    have K2' := K1.trans K2
    refine ts_cons (tx_for0 G.ok (.inl (kof henv rfl)) (ti_list G.ok ?_))
    walk_at "mm"
    refine ⟨fun j st' => Rep (s.taken.unbufs (s.buffer.take j)) (N + 1) st' ∧ Keep N st st' ∧ st' (.tmp N) = some (.list (cl s.buffer)), ⟨R2, K2', hl2⟩, ?_, ?_⟩
    · rintro j st' v ⟨R', K', hl'⟩ hv
      obtain ⟨c, hc, rfl⟩ := cl_at hv
      have hcm : c ∈ (s.taken.unbufs (s.buffer.take j)).ids := by rw [unbufs_ids]; exact ((h.ok.bmem c).mp (List.mem_of_getElem? hc)).1
      refine ⟨hl', ?_⟩
      walk_at "mm"
      refine d_setbuf G R' hcm (i := false) fun st3 R3 K3 => ?_
      walk_at "mm"
      refine ⟨Sub.upd rfl Sub.refl, ?_, K'.trans K3, (K3.tmp (k := N) (by walk_at "om")).trans hl'⟩
      rw [take_snoc hc, unbufs_snoc]; exact R3
    · rintro st' ⟨R', K', hl'⟩
      refine ⟨hl', ?_⟩
      have e2 : s.buffer.take (Src.list (.tmp N) (cl s.buffer)).items.length = s.buffer := by simp [Src.items, cl]
      rw [e2] at R'
      have R' : Rep s.basis (N + 1) st' := R'
      refine ts_cons (tx_for0 G.ok (.inl (kof henv rfl)) (ti_list G.ok ?_))
      walk_at "mm"
      refine ⟨fun j => LpB (fun m s' => MarkI s.basis s.buffer (s.buffer.take j) m s' []) (N + 1) N st (.tmp N) (cl s.buffer), ⟨_, _, N + 1, mark_start B, Nat.lt_succ_self N, R', K', hl'⟩, ?_, ?_⟩
      · rintro j st' v ⟨m, s', N', hI, hN, R', K', hl'⟩ hv
        obtain ⟨c, hc, rfl⟩ := cl_at hv
        refine ⟨hl', ?_⟩
        walk_at "mm"
        refine c_mark_grey G R' (mark_run B) (hI.next B (List.mem_of_getElem? hc)) fun m2 s2 N2 st2 hI2 hN2 R2 K2 => ?_
        walk_at "mm"
        exact ⟨Sub.upd rfl Sub.refl, m2, s2, N2, by rw [take_snoc hc]; exact hI2, by walk_at "om", R2, K'.trans K2, (K2.tmp (k := N) (by walk_at "om")).trans hl'⟩
      · rintro st' ⟨m, s', N', hI, hN, R', K', hl'⟩
        refine ⟨hl', ?_⟩
        rw [e2] at hI
        refine ts_cons (tx_for0 G.ok (.inl (kof henv rfl)) (ti_list G.ok ?_))
        walk_at "mm"
        refine ⟨fun j => LpB (fun m s' => ScanI s.basis s.buffer (s.buffer.take j) m s' []) (N + 1) N st (.tmp N) (cl s.buffer), ⟨_, _, N', scan_start B hI, hN, R', K', hl'⟩, ?_, ?_⟩
        · rintro j st' v ⟨m, s', N', hI, hN, R', K', hl'⟩ hv
          obtain ⟨c, hc, rfl⟩ := cl_at hv
          refine ⟨hl', ?_⟩
          walk_at "mm"
          refine c_scan G R' (scan_ok B) (hI.next B (List.mem_of_getElem? hc)) fun m2 s2 N2 st2 hI2 hN2 R2 K2 => ?_
          walk_at "mm"
          exact ⟨Sub.upd rfl Sub.refl, m2, s2, N2, by rw [take_snoc hc]; exact hI2, by walk_at "om", R2, K'.trans K2, (K2.tmp (k := N) (by walk_at "om")).trans hl'⟩
        · rintro st' ⟨m, s', N', hI, hN, R', K', hl'⟩
          refine ⟨hl', ?_⟩
          rw [e2] at hI
          have SE := scan_end B hI
          walk_at "mm"
          refine c_gather G R' hN hl' (by walk_at "om") (gather_ok B) (gather_start B SE hbz) fun m2 s2 fs ns N2 j st2 hI2 hp hs hj hj2 R2 K2 hr => ?_
          obtain ⟨g1, g2, g3, g4⟩ := gather_end B SE hI2
          exact q s2 ns N2 j st2 ⟨g1, g2, fun n => (hp.mem_iff).trans (g3 n), hp.nodup_iff.mpr g4⟩ (by walk_at "om") hj2 R2 (K'.trans K2) hr
end
end
section
/-! ## the unreachable freed -/
section
variable {s s' : S} {f : Nat → Int} {T : List Val}
theorem lose_live {v : Val} (h : Pend s (T ++ [v])) (hv : ∀ n, v = .cell n → n ∈ s.ids → .cell n ∈ s.allHeld) : (s.lose v).2 = [] ∧ (s.lose v).1.ids = s.ids ∧ (s.lose v).1.allHeld = s.allHeld := by
  unfold S.lose
  cases hc : s.cellOf v with
  | none => exact ⟨rfl, rfl, rfl⟩
  | some n =>
    obtain ⟨rfl, hn⟩ := S.cellOf_some hc
    dsimp only
    have h1 := h.ok.cnt n hn
    have h2 : 0 < s.sum (one n) := lsum_pos.mpr (hv n rfl hn)
    have h3 : L (T ++ [.cell n]) n = L T n + 1 := by rw [L_append]; simp [L, lsum, one_same]
    have h4 : 0 ≤ L T n := by unfold L; walk_at "om"
    have hcount : ((s.addCount n (-1)).cell n).count > 0 := by rw [addCount_count, if_pos rfl]; walk_at "om"
    rw [if_pos hcount]
    obtain ⟨e1, e2, e3, e4, e5, e6, e7, e8, _⟩ := suspect_facts (s.addCount n (-1)) n
    obtain ⟨f1, f2, f3⟩ := addCount_facts s n (-1)
    refine ⟨rfl, e1, ?_⟩
    unfold S.allHeld
    rw [e1, e2, e4]; simp only [e6, f2]; rfl
structure Turned (s s' : S) : Prop where
  calm : Calm s'
  okeys : s'.okeys
  lost : Lost s s'
  ids : ∀ n, n ∈ s'.ids ↔ n ∈ s.ids ∧ Reach s n
  live : ∀ n ∈ s'.ids, Reach s' n
theorem Lost.reach {n : Nat} (h : Lost s s') (ok : Ok s f) (hi : s'.ids = s.ids) : Reach s' n ↔ Reach s n := by
  refine Same.reach (s := s) (s' := s') ⟨hi, h.vars, fun k => ?_⟩
  unfold S.kids S.heldBy
  have e : ∀ i, i < 2 → s'.tab i = s.tab i := fun i hq => by rw [h.tab i hq, hi, ok.tfilter hq]
  simp only [List.filterMap_cons, List.filterMap_nil, e 0 (by decide), e 1 (by decide), h.slots]
noncomputable def FF (s3 : S) (em : Bool) (s : S) (T : List Val) : Prop := Lost s3 s ∧ s.ids = s3.ids ∧ (∀ k, .cell k ∈ T → k ∈ s.ids → .cell k ∈ s.allHeld) ∧ (em = true → T = [] ∧ s.buffer = [])
theorem FF.step {s3 : S} {em : Bool} : ∀ s T v, Pend s (T ++ [v]) → FF s3 em s (T ++ [v]) → FF s3 em (s.lose v).1 (T ++ (s.lose v).2) := fun s T v hp ⟨h1, h2, h3, h4⟩ => by
  obtain ⟨e1, e2, e3⟩ := lose_live hp fun n q hn => h3 n (by rw [q]; simp) hn
  refine ⟨h1.trans hp.lose.2.1, e2.trans h2, fun k hk hki => ?_, fun q => ?_⟩
  · rw [e1, List.append_nil] at hk
    rw [e3]; rw [e2] at hki
    exact h3 k (List.mem_append_left _ hk) hki
  · have := (h4 q).1
    simp at this
theorem Freed.held {b : S} {ls : List Val} (h : Freed b s ls) : ∀ k, k ∈ s.ids → .cell k ∈ s.allHeld := fun k hk => by
  refine h.live k hk (fun k => .cell k ∈ s.allHeld) (fun n hn _ k hkn => ?_) fun e he k q => S.mem_allHeld.mpr (.inl ⟨e, he, q⟩)
  rcases mem_kids.mp hkn with ⟨i, hi, q⟩ | ⟨e, he, q⟩
  · exact S.mem_allHeld.mpr (.inr (.inr ⟨i, hi, _, dget_some q, rfl⟩))
  · exact S.mem_allHeld.mpr (.inr (.inl ⟨n, hn, e, he, q⟩))
theorem Freed.turned {b : S} {ls : List Val} (h : Freed b s ls) (hc : Calm s') (ho : s'.okeys) (hl : Lost s s') (hi : s'.ids = s.ids) : Turned b s' :=
  ⟨hc, ho, h.lost.trans hl, fun n => by rw [hi]; exact h.ids n, fun n hn => by rw [hl.reach h.pend.ok hi]; exact h.live n (by rw [← hi]; exact hn)⟩
theorem lsum_ones : ∀ l : List Val, lsum l (fun _ => 1) = l.length
  | [] => rfl
  | a :: r => by rw [lsum_cons, lsum_ones r]; simp [Nat.add_comm]
theorem FreeI.losses {b : S} {d : List Nat} {ls : List Val} (h : FreeI b d s ls) (ok : Ok b f) (hl : b.last ≤ 60) : ls.length ≤ 400 := by
  have := h.sum fun _ => 1
  unfold S.sum at this
  rw [lsum_ones, lsum_ones, lsum_ones] at this
  have := ok.held_len hl
  walk_at "om"
end
section
variable {W : Wd} {n : Nat} {st : St} {Q : V → St → Prop} {x : Nat} {s : S} {N : Nat} {QU : Unit → St → Prop} {m : Nat} {c : Nat}
theorem c_free_all (G : Gd W) (R : Rep s N st) (ok : Ok s fun _ => 0) (ho : s.okeys) (hb : s.buffer = []) (hl : s.last ≤ 60) {ns : List Nat} {k0 : Nat} (hk0 : k0 < N) (hns : st (.tmp k0) = some (.list (bufMap ns))) (hnd : ns.Nodup) (hm : ∀ n, n ∈ ns ↔ n ∈ s.ids ∧ ¬ Reach s n)
    (q : ∀ s' N' st', Turned s s' → (ns = [] → s'.buffer = []) → N ≤ N' → Rep s' N' st' → Keep N st st' → Q .none st') : CallOK W (n + 10) "free_all" [.ref .heap, .ref (.tmp k0)] Q st := by
  refine fn_intro G.ok G.fns (mem_rec (i := 64) rfl (by kernel_rfl)) (ps := ["heap", "numbers"]) (fun pm code doc ws h => by obtain ⟨a, b, rfl⟩ := len2 h; kernel_rfl) (by decide) (by kernel_rfl) rfl rfl rfl ?_
  intro env henv
  walk_at "mm"
  refine te_list G.ok (.tmp N) ?_
  walk_at "mm"
  refine ⟨R.tmp (Nat.le_refl N), ?_⟩
  have R1 : Rep s (N + 1) (st.set (.tmp N) (.list [])) := R.tmpset
  have K1 : Keep N st (st.set (.tmp N) (.list [])) := Keep.set_tmp (Nat.le_refl N)
  have hl1 : (st.set (.tmp N) (.list [])) (.tmp N) = some (.list []) := St.set_same
  have hn1 : (st.set (.tmp N) (.list [])) (.tmp k0) = some (.list (bufMap ns)) := St.get_ne hns
  generalize (st.set (.tmp N) (.list [])) = st1 at R1 K1 hl1 hn1
  refine ts_cons (tx_for0 G.ok (.inl (kof henv rfl)) (ti_list G.ok ?_))
  walk_at "mm"
  refine ⟨fun j => LpC (FreeI s (ns.take j)) (N + 1) N st (.tmp N) (List.map Val.v), ⟨s, [], N + 1, FreeI.start hb, Nat.lt_succ_self N, R1, K1, hl1⟩, ?_, ?_⟩
  · rintro j st' v ⟨s', ls, N', hI, hN, R', K', hl'⟩ hv
    obtain ⟨c, hc, rfl⟩ := bufMap_at hv
    have hcm : c ∈ s.ids := ((hm c).mp (List.mem_of_getElem? hc)).1
    have hcn : c ∉ ns.take j := fun hm => by
      obtain ⟨i, hi, e⟩ := List.getElem_of_mem hm
      rw [List.getElem_take] at e
      have h1 : i < j := by rw [List.length_take] at hi; walk_at "om"
      have hjl := (List.getElem?_eq_some_iff.mp hc).1
      have e2 : ns[j] = c := (List.getElem?_eq_some_iff.mp hc).2
      have := (List.getElem_inj hnd).mp (e.trans e2.symm)
      walk_at "om"
    have hcs : c ∈ s'.ids := by rw [hI.ids]; exact List.mem_filter.mpr ⟨hcm, by simpa using hcn⟩
    have w := hI.wf ok hl
    have hI2 := hI.step ok hb hcm hcn
    have hlz := hI2.losses ok hl
    refine ⟨(K'.tmp hk0).trans hns, ?_⟩
    walk_at "mm"
    refine d_cellitem R' hcs ?_
    walk_at "mm"
    refine c_free_cell G R' (w.up (by decide)) hcs (fun q => ?_) fun N2 st2 hN2 R2 K2 hr2 => ?_
    · rw [hI.cell] at q
      have := (ok.bmem c).mpr ⟨hcm, q⟩
      rw [hb] at this; cases this
    have hl2 := (K2.tmp (k := N) hN).trans hl'
    refine ⟨_, _, _, hl2, rfl, hr2, by rw [List.length_append] at hlz; rw [List.length_map, List.length_map]; walk_at "om", ?_⟩
    walk_at "mm"
    rw [← List.map_append]
    exact ⟨Sub.upd rfl Sub.refl, s'.free c, ls ++ s'.heldBy c, N2, by rw [take_snoc hc]; exact hI2, by walk_at "om", R2.tmpupd (by walk_at "om"), (K'.trans K2).trans (Keep.set_tmp (Nat.le_refl N)), St.set_same⟩
  · rintro st' ⟨s', ls, N', hI, hN, R', K', hl'⟩
    refine ⟨(K'.tmp hk0).trans hns, ?_⟩
    have e2 : ns.take (Src.list (.tmp k0) (bufMap ns)).items.length = ns := by simp [Src.items, bufMap]
    rw [e2] at hI
    have hlz := hI.losses ok hl
    have F := hI.done ok ho hb hm
    walk_at "mm"
    refine c_losing G R' hl' (by walk_at "om") fun st2 R2 K2 hr2 => ?_
    have F0 : FF s' (decide (ns = [])) s' ls.reverse := ⟨Lost.refl F.pend.ok, rfl, fun k hk hki => F.held k hki, fun q => ⟨?_, F.buffer⟩⟩
    · have P := F.pend.start (by rw [hI.last]; exact hl) (by rw [List.length_reverse]; walk_at "om") F0
      walk_at "mm"
      refine c_settle G R2 (Nat.lt_succ_self N') (settles (F := FF s' (decide (ns = []))) FF.step) (ts := ls.reverse.map .lose) (by rw [hr2, List.map_map]; rfl) P fun m' s'' N2 st3 hI3 hN3 R3 K3 => ?_
      obtain ⟨a1, a2, a3, a4, a5, a6, a7⟩ := hI3.nil
      walk_at "mm"
      exact q s'' N2 st3 (F.turned a1 a2 a4 a5) (fun z => (a7 (by simpa using z)).2) (by walk_at "om") R3 ((K'.trans K2).trans (K3.le (M := N) (by walk_at "om")))
    · have : ns = [] := by simpa using q
      subst this
      cases ls with
      | nil => rfl
      | cons a r => obtain ⟨k, hk, _⟩ := hI.held a List.mem_cons_self; cases hk
end
end
section
/-! ## a turn, and the whole collection -/
section
variable {s s' b s2 : S} {f : Nat → Int} {T : List Val}
theorem Turned.back (B : Basis s b) (Sh : Shade b s2) (t : Turned s2 s') : Turned s s' := by
  have hi : s2.ids = s.ids := Sh.ids.trans B.ids
  have hv : s2.vars = s.vars := Sh.vars.trans B.vars
  have ht : s2.tab = s.tab := Sh.tab.trans B.tab
  have hl : s2.last = s.last := Sh.last.trans B.last
  have SM : Same s s2 := ⟨hi, hv, fun n => kids_congr ht ((Sh.slots n).trans (B.slots n))⟩
  refine ⟨t.calm, t.okeys, ⟨fun n hn => by rw [← hi]; exact t.lost.ids n hn, t.lost.vars.trans hv, t.lost.last.trans hl, fun i q => by rw [t.lost.tab i q, ht], fun n => (t.lost.sort n).trans ((Sh.sort n).trans (B.sort n)), fun n => (t.lost.slots n).trans ((Sh.slots n).trans (B.slots n)), fun n => (t.lost.weak n).trans ((Sh.weak n).trans (B.weak n))⟩, fun n => ?_, t.live⟩
  rw [t.ids, hi, SM.reach]
theorem Turned.trans (x : Turned s b) (y : Turned b s') : Turned s s' := ⟨y.calm, y.okeys, x.lost.trans y.lost, fun n => by
  rw [y.ids]
  constructor
  · exact fun h => (x.ids n).mp h.1
  · exact fun h => ⟨(x.ids n).mpr h, x.live n ((x.ids n).mpr h)⟩, y.live⟩
theorem Calm.clean (h : Calm s) (ho : s.okeys) (hb : s.buffer = []) : Turned s s := by
  have live : ∀ n ∈ s.ids, Reach s n := fun n hn C hC hR => h.susp C hC hR (fun b hb' => by rw [hb] at hb'; cases hb') (fun k hk => hk.elim) n hn
  exact ⟨h, ho, Lost.refl h.ok, fun n => ⟨fun hn => ⟨hn, live n hn⟩, fun h => h.1⟩, live⟩
end
section
variable {W : Wd} {n : Nat} {st : St} {Q : V → St → Prop} {x : Nat} {s : S} {N : Nat} {QU : Unit → St → Prop} {m : Nat} {c : Nat}
theorem c_turn (G : Gd W) (R : Rep s N st) (h : Calm s) (ho : s.okeys) (hl : s.last ≤ 60)
    (q : ∀ s' N' st', Turned s s' → ((∀ n ∈ s.ids, Reach s n) → s'.buffer = []) → N ≤ N' → Rep s' N' st' → Keep N st st' → Q .none st') : CallOK W (n + 11) "turn" [.ref .heap] Q st := by
  refine fn_intro G.ok G.fns (mem_rec (i := 65) rfl (by kernel_rfl)) (ps := ["heap"]) (fun pm code doc ws h => by obtain ⟨a, rfl⟩ := len1 h; kernel_rfl) (by decide) (by kernel_rfl) rfl rfl rfl ?_
  intro env henv
  have B := basis_basis (s := s)
  have Bs := h.base hl
  walk_at "mm"
  refine c_find_rings G R h hl fun s2 ns N2 j st2 F hj hj2 R2 K2 hr => ?_
  have hids : s2.ids = s.ids := F.shade.ids.trans B.ids
  have hl2 : s2.last ≤ 60 := by rw [F.shade.last, B.last]; exact hl
  have hnz : ns.length ≤ 60 := by
    have := len_sub ns s.basis.ids F.nd fun x hx => ((F.mem x).mp hx).1
    have := ids_le Bs.ok Bs.last
    walk_at "om"
  refine ts_cons (tx_name_comp G.ok (.tmp N2) (CompOk.of henv (by kernel_rfl)) (.inl (kof henv rfl)) (sw_true henv (by kernel_rfl)) (ti_list G.ok ?_))
  walk_at "mm"
  refine ⟨by simp only [Src.items, bufMap, List.length_map]; walk_at "om", ns.map (fun (c : Nat) => (.int (c : Int), none)), by simp [Src.items, bufMap, Function.comp_def], ?_, R2.tmp (Nat.le_refl N2), ?_⟩
  · intro z hz cenv hc
    rw [henv] at hc
    obtain ⟨c, hc', rfl⟩ := List.mem_map.mp hz
    have hcm : c ∈ s2.ids := by rw [F.shade.ids]; exact ((F.mem c).mp hc').1
    refine tf_one ?_
    walk_at "mm"
    refine d_cellitem R2 hcm ?_
    walk_at "mm"
    refine c_wants G R2 hcm ?_
    walk_at "mm"
    exact ⟨rfl, rfl, fun y hy => by cases hy⟩
  · have e1 : (ns.map (fun (c : Nat) => (V.int (c : Int), (none : Option V)))).filterMap (·.2) = [] := by
      rw [List.filterMap_map, List.filterMap_eq_nil_iff]; intro a _; rfl
    rw [e1]
    have R3 : Rep s2 (N2 + 1) (st2.set (.tmp N2) (.list [])) := R2.tmpset
    have K3 : Keep N2 st2 (st2.set (.tmp N2) (.list [])) := Keep.set_tmp (Nat.le_refl N2)
    have hl3 : (st2.set (.tmp N2) (.list [])) (.tmp N2) = some (.list []) := St.set_same
    have hr3 : (st2.set (.tmp N2) (.list [])) (.tmp j) = some (.list (bufMap ns)) := (K3.tmp hj2).trans hr
    generalize (st2.set (.tmp N2) (.list [])) = st3 at R3 K3 hl3 hr3
    walk_at "mm"
    refine op_truthl hl3 (by simp) ?_
    walk_at "mm"
    have hbs : s2.buffer = [] := F.shade.buffer.trans Bs.buf
    have SM : Same s s2 := ⟨hids, F.shade.vars.trans B.vars, fun n => kids_congr (F.shade.tab.trans B.tab) ((F.shade.slots n).trans (B.slots n))⟩
    have SB : Same s s.basis := ⟨B.ids, B.vars, fun n => kids_congr B.tab (B.slots n)⟩
    have ho2 : s2.okeys := fun i hi e he k q => by
      rw [F.shade.sort, B.sort]
      rw [F.shade.tab, B.tab] at he
      exact ho i hi e he k q
    refine c_free_all G R3 F.ok ho2 hbs hl2 (by walk_at "om") hr3 F.nd (fun n => by rw [F.mem, hids, SM.reach, SB.reach, B.ids]) fun s' N' st' hT hem hN R' K' => ?_
    walk_at "mm"
    refine q s' N' st' (hT.back B F.shade) (fun live => hem ?_) (by walk_at "om") R' ((K2.trans K3).trans K')
    refine List.eq_nil_iff_forall_not_mem.mpr fun n hn => ?_
    obtain ⟨z1, z2⟩ := (F.mem n).mp hn
    rw [B.ids] at z1
    exact z2 (SB.reach.mpr (live n z1))
theorem c_collect (G : Gd W) (R : Rep s N st) (h : Calm s) (ho : s.okeys) (hl : s.last ≤ 60)
    (q : ∀ s' N' st', Turned s s' → s'.buffer = [] → N ≤ N' → Rep s' N' st' → Keep N st st' → Q (.int ((s'.freed : Int) - s.freed)) st') : CallOK W (n + 12) "collect" [.ref .heap] Q st := by
  refine fn_intro G.ok G.fns (mem_rec (i := 66) rfl (by kernel_rfl)) (ps := ["heap"]) (fun pm code doc ws h => by obtain ⟨a, rfl⟩ := len1 h; kernel_rfl) (by decide) (by kernel_rfl) rfl rfl rfl ?_
  intro env henv
  walk_at "mm"
  refine tx_while0 (fun m st' => ∃ s' N', N ≤ N' ∧ Rep s' N' st' ∧ Keep N st st' ∧ ((m = 2 ∧ s' = s) ∨ (m = 1 ∧ Turned s s') ∨ (m = 0 ∧ Turned s s' ∧ s'.buffer = []))) 2 ⟨s, N, Nat.le_refl N, R, Keep.refl, .inl ⟨rfl, rfl⟩⟩ ?_
  rintro m st' ⟨s', N', hN, R', K', hI⟩
  have hb := R'.buffer
  have hcalm : Calm s' ∧ s'.okeys ∧ s'.last ≤ 60 := by
    rcases hI with ⟨_, rfl⟩ | ⟨_, hT⟩ | ⟨_, hT, _⟩
    · exact ⟨h, ho, hl⟩
    · exact ⟨hT.calm, hT.okeys, by rw [hT.lost.last]; exact hl⟩
    · exact ⟨hT.calm, hT.okeys, by rw [hT.lost.last]; exact hl⟩
  obtain ⟨hc', ho', hl'⟩ := hcalm
  have hbz : (bufMap s'.buffer).length ≤ 16777216 := by
    have := (hc'.ok.wf hl').buf
    unfold bufMap; rw [List.length_map]; walk_at "om"
  walk_at "mm"
  refine op_truthl hb hbz ?_
  by_cases hbn : s'.buffer = []
  · have e0 : (!(bufMap s'.buffer).isEmpty) = false := by rw [hbn]; rfl
    refine if_f e0 ?_
    walk_at "mm"
    have hT : Turned s s' := by
      rcases hI with ⟨_, rfl⟩ | ⟨_, hT⟩ | ⟨_, hT, _⟩
      · exact h.clean ho hbn
      · exact hT
      · exact hT
    exact q s' N' st' hT hbn hN R' K'
  · have e0 : (!(bufMap s'.buffer).isEmpty) = true := by
      cases hq : s'.buffer with
      | nil => exact absurd hq hbn
      | cons a r => rfl
    refine if_t e0 ?_
    walk_at "mm"
    refine c_turn G R' hc' ho' hl' fun s2 N2 st2 hT2 hem hN2 R2 K2 => ?_
    walk_at "mm"
    refine ⟨Sub.refl, ?_⟩
    rcases hI with ⟨rfl, rfl⟩ | ⟨rfl, hT⟩ | ⟨rfl, hT, hb0⟩
    · exact ⟨1, by decide, s2, N2, by walk_at "om", R2, K'.trans K2, .inr (.inl ⟨rfl, hT2⟩)⟩
    · exact ⟨0, by decide, s2, N2, by walk_at "om", R2, K'.trans K2, .inr (.inr ⟨rfl, hT.trans hT2, hem fun n hn => hT.live n hn⟩)⟩
    · exact absurd hb0 hbn
end
end
section
/-! ## the law's small functions -/
theorem len5 {ws : List Value} (h : ws.length = 5) : ∃ a b c d e, ws = [a, b, c, d, e] := by
  rcases ws with _ | ⟨a, ws⟩
  · simp at h
  · obtain ⟨b, c, d, e, rfl⟩ := len4 (ws := ws) (by simpa using h); exact ⟨a, b, c, d, e, rfl⟩
section
variable {W : Wd} {n : Nat} {st : St} {Q : V → St → Prop} {x : Nat} {s : S} {N : Nat} {QU : Unit → St → Prop} {m : Nat} {c : Nat} {env : Env} {ρ : Loc}
noncomputable def told : List Int := [0, 10, 16, 17, 67, 235, 28, 264, 38, 21, 7, 2399, 265, 2291, 221, 35]
theorem c_law_told (G : Gd W) (r : Role) (hr : st r = none) (q : Q (.ref r) (st.set r (.list (told.map V.int)))) : CallOK W (n + 1) "_law_told" [] Q st := by
  refine fn_intro G.ok G.fns (mem_rec (i := 68) rfl (by kernel_rfl)) (ps := []) (fun pm code doc ws h => by obtain rfl := List.length_eq_zero_iff.mp h; kernel_rfl) (by decide) (by kernel_rfl) rfl rfl rfl ?_
  intro env henv
  walk_at "mm"
  with_reducible refine te_list G.ok r ?_
  with_reducible refine ta_pure (vs := told.map V.int) henv ?_ ?_
  · kernel_rfl
  · exact ⟨by rw [List.length_map]; exact Nat.le_trans (m := 1000) (by decide) (Nat.le_of_ble_eq_true rfl), hr, q⟩
noncomputable def deedOf (way a b key n : Int) : Deed :=
  if way < 2 then .newObject a else if way = 2 then (if n.fmod 2 = 0 then .newArray a else .makeRef a b) else if way = 3 ∨ way = 4 then .put a key b
  else if way = 5 then (if n.fmod 3 > 0 then .assign a b else .setInt a (n.fmod 5)) else if way = 6 then .putRef a key b else if way < 9 then .unset a else .unsetAt a key
theorem deedOf_fit {way a b key n : Int} (ha : V4 a) (hb : V4 b) (hk : 0 ≤ key ∧ key < 2) : (deedOf way a b key n).fit := by
  unfold deedOf
  repeat' split
  all_goals first | exact ha | exact ⟨ha, hb⟩ | exact ⟨ha, hk.1, hk.2⟩ | exact ⟨ha, hk, hb⟩ | trivial
theorem d_in34 {way : Int} (q : Q (.bool (decide (way = 3 ∨ way = 4))) st) : OP W n VR (op2 (compareOp .In)) [.int way, .tup [.int 3, .int 4]] Q st := by
  refine op_intup (x := .int way) (l := [.int 3, .int 4]) rfl rfl rfl rfl (by simp [PyData.depth]) ?_
  have e : ([PyData.int 3, .int 4].any fun y => PyData.eqv y (.int way)) = decide (way = 3 ∨ way = 4) := by
    have h : ∀ i : Int, PyData.eqv (.int i) (.int way) = decide (i = way) := fun i => by with_unfolding_all rfl
    simp only [List.any_cons, List.any_nil, h]
    by_cases h1 : way = 3
    · subst h1; rfl
    · by_cases h2 : way = 4
      · subst h2; rfl
      · have h1' : ¬ 3 = way := fun z => h1 z.symm
        have h2' : ¬ 4 = way := fun z => h2 z.symm
        simp [h1, h2, h1', h2']
  rw [e]; exact q
theorem c_law_deed (G : Gd W) {way a b key k : Int} (q : Q (deedOf way a b key k).v st) : CallOK W (n + 1) "_law_deed" [.int way, .int a, .int b, .int key, .int k] Q st := by
  refine fn_intro G.ok G.fns (mem_rec (i := 69) rfl (by kernel_rfl)) (ps := ["way", "a", "b", "key", "n"]) (fun pm code doc ws h => by obtain ⟨a, b, c, d, e, rfl⟩ := len5 h; kernel_rfl) (by decide) (by kernel_rfl) rfl rfl rfl ?_
  intro env henv
  unfold deedOf at q
  walk_at "mm"
  by_cases h1 : way < 2
  · refine if_t (decide_eq_true h1) ?_
    rw [if_pos h1] at q
    walk_at "mm"
    exact q
  · refine if_f (decide_eq_false h1) ?_
    rw [if_neg h1] at q
    walk_at "mm"
    by_cases h2 : way = 2
    · refine if_t (decide_eq_true h2) ?_
      rw [if_pos h2] at q
      walk_at "mm"
      refine op_mod (by decide) ?_
      walk_at "mm"
      by_cases h3 : k.fmod 2 = 0
      · first | refine if_t (decide_eq_true h3) ?_ | refine ifp_t (decide_eq_true h3) ?_
        rw [if_pos h3] at q
        walk_at "mm"
        exact q
      · first | refine if_f (decide_eq_false h3) ?_ | refine ifp_f (decide_eq_false h3) ?_
        rw [if_neg h3] at q
        walk_at "mm"
        exact q
    · refine if_f (decide_eq_false h2) ?_
      rw [if_neg h2] at q
      walk_at "mm"
      refine d_in34 ⟨_, rfl, ?_⟩
      by_cases h3 : way = 3 ∨ way = 4
      · refine if_t (decide_eq_true h3) ?_
        rw [if_pos h3] at q
        walk_at "mm"
        exact q
      · refine if_f (decide_eq_false h3) ?_
        rw [if_neg h3] at q
        walk_at "mm"
        by_cases h4 : way = 5
        · refine if_t (decide_eq_true h4) ?_
          rw [if_pos h4] at q
          walk_at "mm"
          refine op_mod (by decide) ?_
          walk_at "mm"
          by_cases h5 : k.fmod 3 > 0
          · first | refine if_t (decide_eq_true h5) ?_ | refine ifp_t (decide_eq_true h5) ?_
            rw [if_pos h5] at q
            walk_at "mm"
            exact q
          · first | refine if_f (decide_eq_false h5) ?_ | refine ifp_f (decide_eq_false h5) ?_
            rw [if_neg h5] at q
            walk_at "mm"
            refine op_mod (by decide) ?_
            walk_at "mm"
            exact q
        · refine if_f (decide_eq_false h4) ?_
          rw [if_neg h4] at q
          walk_at "mm"
          by_cases h5 : way = 6
          · first | refine if_t (decide_eq_true h5) ?_ | refine ifp_t (decide_eq_true h5) ?_
            rw [if_pos h5] at q
            walk_at "mm"
            exact q
          · first | refine if_f (decide_eq_false h5) ?_ | refine ifp_f (decide_eq_false h5) ?_
            rw [if_neg h5] at q
            walk_at "mm"
            by_cases h6 : way < 9
            · first | refine if_t (decide_eq_true h6) ?_ | refine ifp_t (decide_eq_true h6) ?_
              rw [if_pos h6] at q
              walk_at "mm"
              exact q
            · first | refine if_f (decide_eq_false h6) ?_ | refine ifp_f (decide_eq_false h6) ?_
              rw [if_neg h6] at q
              walk_at "mm"
              exact q
theorem c_law_object {a : Int} (G : Gd W) (R : Rep s N st) (H : s.RefOk) (hv : ∀ k, s.valueOf a = .cell k → k ∈ s.ids) (q : Q (oi (s.objIn a)) st) : CallOK W (n + 5) "_law_object" [.ref .heap, .int a] Q st := by
  refine fn_intro G.ok G.fns (mem_rec (i := 70) rfl (by kernel_rfl)) (ps := ["heap", "var"]) (fun pm code doc ws h => by obtain ⟨a, b, rfl⟩ := len2 h; kernel_rfl) (by decide) (by kernel_rfl) rfl rfl rfl ?_
  intro env henv
  walk_at "mm"
  refine c_value_of G R H a ?_
  unfold S.objIn at q
  generalize s.valueOf a = v at hv q
  walk_at "mm"
  cases v with
  | int i =>
    first | refine if_f rfl ?_ | refine ifp_f rfl ?_
    walk_at "mm"
    exact q
  | cell k =>
    have hk := hv k rfl
    rw [S.cellOf_cell hk] at q
    dsimp only at q
    refine if_t rfl ?_
    walk_at "mm"
    refine d_cellitem R hk ?_
    walk_at "mm"
    by_cases ho : (s.cell k).sort = .obj
    · rw [if_pos ho] at q
      first | refine if_t (by simpa using ho) ?_ | refine ifp_t (by simpa using ho) ?_
      walk_at "mm"
      exact q
    · rw [if_neg ho] at q
      first | refine if_f (by simpa using ho) ?_ | refine ifp_f (by simpa using ho) ?_
      walk_at "mm"
      exact q
end
end
section
/-! ## the law's state -/
structure LQ (l g : Nat) (s : S) (B : Nat → List (Int × Val)) (gs : List Nat) : Prop where
  calm : Calm s
  okeys : s.okeys
  last : s.last ≤ l
  tab : ∀ i, i < 2 → s.tab i = (B i).filter fun e => decide (e.1.toNat ∈ s.ids)
  bpos : ∀ i, i < 2 → ∀ e ∈ B i, 0 ≤ e.1 ∧ e.1 < 100
  bnd : ∀ i, i < 2 → ((B i).map (·.1)).Nodup
  gle : ∀ x ∈ gs, x ≤ s.last
  glen : gs.length ≤ g
  gw : ∀ x ∈ gs, x ∈ s.ids → (s.cell x).weak = true
structure LP (l g : Nat) (s : S) (B : Nat → List (Int × Val)) (gs : List Nat) : Prop where
  q : LQ l g s B gs
  same : ∀ i, i < 2 → B i = s.tab i
section
variable {s s' s1 : S} {f f' : Nat → Int} {l g : Nat} {B : Nat → List (Int × Val)} {gs : List Nat}
theorem LQ.blen (h : LQ l g s B gs) {i : Nat} (hi : i < 2) : (B i).length ≤ 100 := len_keys (b := 100) (h.bnd i hi) (h.bpos i hi)
theorem Ok.tpos' (h : Ok s f) (hl : s.last < 100) {i : Nat} (hi : i < 2) : ∀ e ∈ s.tab i, 0 ≤ e.1 ∧ e.1 < 100 := fun e he => by
  obtain ⟨n, hn, q⟩ := h.tkey i hi e he
  have := (h.pos n hn).2
  walk_at "om"
theorem LQ.same (h : LQ l g s B gs) (hl : l ≤ 60) : LP l g s s.tab gs :=
  ⟨⟨h.calm, h.okeys, h.last, fun i hi => (h.calm.ok.tfilter hi).symm, fun i hi => h.calm.ok.tpos' (by have := h.last; walk_at "om") hi, h.calm.ok.tnd, h.gle, h.glen, h.gw⟩, fun _ _ => rfl⟩
theorem LP.deed (h : LP l g s B gs) {d : Deed} (hd : d.fit) (hl : l ≤ 58) (a : After (s.change d).1 s') : LQ (l + 2) g s' B gs := by
  have D := (h.q.calm.change hd).1
  have hlast := h.q.last
  refine ⟨a.calm, a.okeys, by rw [a.lost.last]; have := D.ext.last.2; walk_at "om", fun i hi => ?_, h.q.bpos, h.q.bnd, fun x hx => ?_, h.q.glen, fun x hx hm => ?_⟩
  · rw [a.lost.tab i hi, D.ext.tab, h.same i hi]
  · rw [a.lost.last]; exact Nat.le_trans (h.q.gle x hx) D.ext.last.1
  · have hx' := h.q.gle x hx
    have := a.lost.ids x hm
    rcases D.ext.back x this with z | z
    · rw [a.lost.weak, D.ext.weak x hx']; exact h.q.gw x hx z
    · walk_at "om"
theorem LQ.up (h : LQ l g s B gs) {l' g' : Nat} (hl : l ≤ l') (hg : g ≤ g') : LQ l' g' s B gs := { h with last := Nat.le_trans h.last hl, glen := Nat.le_trans h.glen hg }
theorem setWeak_facts (s : S) (k : Nat) : (∀ n, ((s.setWeak k).cell n).sort = (s.cell n).sort) ∧ (∀ n, ((s.setWeak k).cell n).slots = (s.cell n).slots) ∧ (∀ n, ((s.setWeak k).cell n).count = (s.cell n).count) ∧ (∀ n, ((s.setWeak k).cell n).col = (s.cell n).col) ∧ (∀ n, ((s.setWeak k).cell n).buf = (s.cell n).buf) ∧ (∀ n, ((s.setWeak k).cell n).weak = if n = k then true else (s.cell n).weak) :=
  ⟨fun n => upd_field (u := fun c => { c with weak := true }) Cel.sort fun _ => rfl, fun n => upd_field (u := fun c => { c with weak := true }) Cel.slots fun _ => rfl, fun n => upd_field (u := fun c => { c with weak := true }) Cel.count fun _ => rfl, fun n => upd_field (u := fun c => { c with weak := true }) Cel.col fun _ => rfl, fun n => upd_field (u := fun c => { c with weak := true }) Cel.buf fun _ => rfl, fun n => by
    show ((s.upd k fun c => { c with weak := true }).cell n).weak = _
    rw [S.upd_cell]; split <;> rfl⟩
theorem Calm.setWeak (h : Calm s) (k : Nat) : Calm (s.setWeak k) := by
  obtain ⟨h1, h2, h3, h4, h5, h6⟩ := setWeak_facts s k
  refine ⟨h.ok.recell (f' := fun _ => 0) (s.setWeak k).cell s.buffer h1 h2 (fun n hn => by rw [h4]; exact h.ok.col n hn) (fun n hn => by rw [h3]) h.ok.bnd (fun n => by rw [h5]; exact h.ok.bmem n), ?_⟩
  exact Same.susp (s := s) (s' := s.setWeak k) ⟨rfl, rfl, fun n => kids_congr (s := s) (s' := s.setWeak k) rfl (h2 n)⟩ (fun b hb => hb) h.susp
theorem LP.setWeak (h : LP l g s B gs) {k : Nat} {gs' : List Nat} (hk : k ∈ s.ids) (hg : ∀ x ∈ gs', x ∈ gs ∨ x = k) {g' : Nat} (hl : gs'.length ≤ g') : LP l g' (s.setWeak k) B gs' := by
  obtain ⟨h1, h2, h3, h4, h5, h6⟩ := setWeak_facts s k
  refine ⟨⟨h.q.calm.setWeak k, fun i hi e he n q => by rw [h1]; exact h.q.okeys i hi e he n q, h.q.last, h.q.tab, h.q.bpos, h.q.bnd, fun x hx => ?_, hl, fun x hx hm => ?_⟩, h.same⟩
  · rcases hg x hx with z | z
    · exact h.q.gle x z
    · rw [z]; exact (h.q.calm.ok.pos k hk).2
  · rw [h6]
    split
    · rfl
    · rename_i z; exact h.q.gw x ((hg x hx).resolve_right z) hm
theorem val_same (ok : Ok s f) (ok' : Ok s' f') (hv : s'.vars = s.vars) (h1 : ∀ n, (s'.cell n).sort = (s.cell n).sort) (h2 : ∀ n, (s'.cell n).slots = (s.cell n).slots) {a : Int} : s'.valueOf a = s.valueOf a := by
  have hs := ok.var a
  have hs' := ok'.var a
  unfold S.valueOf
  rw [hv] at hs' ⊢
  generalize (dget s.vars a).getD (.int 0) = v at hs hs'
  unfold S.inner
  cases v with
  | int i => rfl
  | cell k =>
    rw [S.cellOf_cell (hs k rfl), S.cellOf_cell (hs' k rfl)]
    dsimp only
    rw [h1]
    unfold S.slot0
    rw [h2]
theorem obj_same (ok : Ok s f) (ok' : Ok s' f') (hv : s'.vars = s.vars) (h1 : ∀ n, (s'.cell n).sort = (s.cell n).sort) (h2 : ∀ n, (s'.cell n).slots = (s.cell n).slots) {a : Int} : s'.objIn a = s.objIn a := by
  have e := val_same ok ok' hv h1 h2 (a := a)
  have hs := (ok.valueOf a).2
  have hs' := (ok'.valueOf a).2
  unfold S.objIn
  rw [e] at hs' ⊢
  generalize s.valueOf a = v at hs hs'
  cases v with
  | int i => rfl
  | cell k =>
    rw [S.cellOf_cell (hs k rfl), S.cellOf_cell (hs' k rfl)]
    dsimp only
    rw [h1]
theorem LQ.read (h : LQ l g s B gs) {a : Int} {k i : Nat} (hk : s.objIn a = some k) (hi : i < 2) : s.weakRead i a = dget (B i) k := by
  unfold S.weakRead
  rw [hk]
  show dget (s.tab i) k = _
  rw [h.tab i hi]
  refine dget_filter fun e _ q => ?_
  rw [q]; simpa using (S.objIn_mem hk).1
theorem read_none {a : Int} {i : Nat} (hk : s.objIn a = none) : s.weakRead i a = none := by unfold S.weakRead; rw [hk]; rfl
noncomputable def putB (B : Nat → List (Int × Val)) (i : Nat) (es : List (Int × Val)) : Nat → List (Int × Val) := fun j => if j = i then es else B j
theorem putB_same {i : Nat} {es} : putB B i es i = es := if_pos rfl
theorem LP.put (h : LP l g s B gs) (hl : l ≤ 60) {a : Int} {k i : Nat} {b : Int} (hk : s.objIn a = some k) (hi : i < 2) (af : After (s.weakPut1 i k b) s') : LQ l g s' (putB B i (dput (B i) k (s.valueOf b))) gs ∧ s'.objIn a = s.objIn a := by
  have hkm := S.objIn_mem hk
  have hlast := h.q.last
  have w1 : (s.weakPut1 i k b).ids = s.ids := by show (s.gain _).ids = _; exact S.gain_ids
  have w2 : (s.weakPut1 i k b).last = s.last := by show (s.gain _).last = _; exact S.gain_last
  have w3 : ∀ n, ((s.weakPut1 i k b).cell n).weak = (s.cell n).weak := fun n => by show ((s.gain _).cell n).weak = _; exact S.gain_weak
  have w4 : ∀ n, ((s.weakPut1 i k b).cell n).sort = (s.cell n).sort := fun n => by show ((s.gain _).cell n).sort = _; exact S.gain_sort
  have w5 : ∀ n, ((s.weakPut1 i k b).cell n).slots = (s.cell n).slots := fun n => by show ((s.gain _).cell n).slots = _; exact S.gain_slots
  have w6 : (s.weakPut1 i k b).vars = s.vars := by show (s.gain _).vars = _; exact S.gain_vars
  have w7 : ∀ j, (s.weakPut1 i k b).tab j = if j = i then dput (s.tab i) k (s.valueOf b) else s.tab j := fun j => by
    show (if j = i then dput ((s.gain (s.valueOf b)).tab i) k (s.valueOf b) else (s.gain (s.valueOf b)).tab j) = _
    rw [S.gain_tab]
  refine ⟨⟨af.calm, af.okeys, by rw [af.lost.last, w2]; exact hlast, fun j hj => ?_, fun j hj e he => ?_, fun j hj => ?_, fun x hx => by rw [af.lost.last, w2]; exact h.q.gle x hx, h.q.glen, fun x hx hm => by rw [af.lost.weak, w3]; exact h.q.gw x hx (by rw [← w1]; exact af.lost.ids x hm)⟩, obj_same h.q.calm.ok af.calm.ok (af.lost.vars.trans w6) (fun n => (af.lost.sort n).trans (w4 n)) fun n => (af.lost.slots n).trans (w5 n)⟩
  · rw [af.lost.tab j hj, w7]
    unfold putB
    split
    · rw [h.same i hi]
    · rw [h.same j hj]
  · unfold putB at he
    split at he
    · rcases mem_dput he with rfl | ⟨he, _⟩
      · have := (h.q.calm.ok.pos k hkm.1).2
        show 0 ≤ (k : Int) ∧ (k : Int) < 100
        walk_at "om"
      · exact h.q.bpos i hi e he
    · exact h.q.bpos j hj e he
  · unfold putB
    split
    · exact dput_nodup (h.q.bnd i hi)
    · exact h.q.bnd j hj
theorem LP.drop (h : LP l g s B gs) {a : Int} {k i : Nat} (hk : s.objIn a = some k) (hi : i < 2) (af : After (s.put (.ent i) (ddel (s.tab i) k)) s') : LQ l g s' (putB B i (ddel (B i) k)) gs ∧ s'.objIn a = s.objIn a := by
  have hlast := h.q.last
  refine ⟨⟨af.calm, af.okeys, by rw [af.lost.last]; exact hlast, fun j hj => ?_, fun j hj e he => ?_, fun j hj => ?_, fun x hx => by rw [af.lost.last]; exact h.q.gle x hx, h.q.glen, fun x hx hm => by rw [af.lost.weak]; exact h.q.gw x hx (af.lost.ids x hm)⟩, obj_same h.q.calm.ok af.calm.ok af.lost.vars af.lost.sort af.lost.slots⟩
  · rw [af.lost.tab j hj]
    show (if j = i then ddel (s.tab i) k else s.tab j).filter _ = _
    unfold putB
    split
    · rw [h.same i hi]
    · rw [h.same j hj]
  · unfold putB at he
    split at he
    · exact h.q.bpos i hi e (mem_ddel.mp he).1
    · exact h.q.bpos j hj e he
  · unfold putB
    split
    · exact ddel_nodup (h.q.bnd i hi)
    · exact h.q.bnd j hj
end
end
section
/-! ## the law's step on the weak tables -/
structure LR (B : Nat → List (Int × Val)) (gs : List Nat) (st : St) : Prop where
  ltabs : st .ltabs = some (.list [.ref (.tab 0), .ref (.tab 1)])
  lbooks : st .lbooks = some (.list [.ref (.book 0), .ref (.book 1)])
  book : ∀ i, i < 2 → ∃ ep, st (.book i) = some (.dict (dmap (B i)) ep)
  given : st .given = some (.list (bufMap gs))
noncomputable def KeepT (N : Nat) (st st' : St) : Prop := ∀ k, k < N → st' (.tmp k) = st (.tmp k)
section
variable {st st' : St} {N : Nat} {B : Nat → List (Int × Val)} {gs : List Nat}
theorem LR.keep (h : LR B gs st) (K : Keep N st st') : LR B gs st' := ⟨by rw [K _ rfl]; exact h.ltabs, by rw [K _ rfl]; exact h.lbooks, fun i hi => by rw [K _ rfl]; exact h.book i hi, by rw [K _ rfl]; exact h.given⟩
theorem Keep.toT (K : Keep N st st') : KeepT N st st' := fun k hk => K.tmp hk
theorem KeepT.trans {M : Nat} {a b c : St} (x : KeepT N a b) (y : KeepT M b c) (h : N ≤ M := by walk_at "om") : KeepT N a c := fun k hk => (y k (by walk_at "om")).trans (x k hk)
theorem KeepT.refl : KeepT N st st := fun _ _ => rfl
theorem KeepT.set {r : Role} {o : O} (h : ∀ k, k < N → Role.tmp k ≠ r) : KeepT N st (st.set r o) := fun k hk => St.set_ne (h k hk)
theorem LR.setBook (h : LR B gs st) {i : Nat} (hi : i < 2) {es : List (Int × Val)} {ep : Nat} : LR (putB B i es) gs (st.set (.book i) (.dict (dmap es) ep)) := ⟨St.get_ne h.ltabs, St.get_ne h.lbooks, fun j hj => by
  by_cases z : j = i
  · subst z; rw [putB_same]; exact ⟨ep, St.set_same⟩
  · obtain ⟨e, he⟩ := h.book j hj
    refine ⟨e, ?_⟩
    rw [St.set_ne (fun q => z (by cases q; rfl))]
    unfold putB; rw [if_neg z]; exact he, St.get_ne h.given⟩
theorem LR.setGiven (h : LR B gs st) {gs' : List Nat} : LR B gs' (st.set .given (.list (bufMap gs'))) := ⟨St.get_ne h.ltabs, St.get_ne h.lbooks, fun j hj => by
  obtain ⟨e, he⟩ := h.book j hj
  exact ⟨e, St.get_ne he⟩, St.set_same⟩
theorem ltab_at {i : Nat} (hi : i < 2) : ([.ref (.tab 0), .ref (.tab 1)] : List V)[((i : Int)).toNat]? = some (.ref (.tab i)) := by
  have : i = 0 ∨ i = 1 := by walk_at "om"
  rcases this with rfl | rfl <;> rfl
theorem lbook_at {i : Nat} (hi : i < 2) : ([.ref (.book 0), .ref (.book 1)] : List V)[((i : Int)).toNat]? = some (.ref (.book i)) := by
  have : i = 0 ∨ i = 1 := by walk_at "om"
  rcases this with rfl | rfl <;> rfl
theorem len8 {ws : List Value} (h : ws.length = 8) : ∃ a b c d e f g i, ws = [a, b, c, d, e, f, g, i] := by
  rcases ws with _ | ⟨a, _ | ⟨b, _ | ⟨c, ws⟩⟩⟩
  · simp at h
  · simp at h
  · simp at h
  · obtain ⟨d, e, f, g, i, rfl⟩ := len5 (ws := ws) (by simpa using h); exact ⟨a, b, c, d, e, f, g, i, rfl⟩
end
section
variable {W : Wd} {n : Nat} {env : Env} {ρ : Loc} {st : St} {Q : V → St → Prop} {s : S} {N : Nat}
theorem te_getoi {o arg : Expr} {ap pos : Pos} {pl : Sem Bool} (ok : W.Ok) {es : List (Int × Val)} (w : Option Nat) (h : TE W n o env ρ (fun ov' st₁ => ∃ r ep, ov' = .ref r ∧ st₁ r = some (.dict (dmap es) ep) ∧ TE W n arg env ρ (fun v st₂ => v = oi w ∧ st₂ = st₁ ∧ Q (ov (w.bind fun k => dget es k)) st₁) st₁) st)
    (hcall : eval (.Call (.Attribute o "get" ap) [arg] [] pos) env = (do
      let ov ← eval o env
      standAt ap.atName
      let (f, first) ← holding [ov] (getMethod ov "get" pl)
      callWith pos f first (backTo pos (starEach [arg] env)) (backToKw pos (keywordEach [] env))) := by k_dflt rfl)
    (he : starEach [arg] env = (false, eval arg env) :: starEach [] env := by k_dflt rfl) (hp : (backTo pos (starEach [arg] env)).any (·.1) = false := by k_dflt rfl) : TE W n (.Call (.Attribute o "get" ap) [arg] [] pos) env ρ Q st := by
  refine te_meth (T.imp h fun ov' st₁ ⟨r, ep, e, hr, h⟩ => ⟨"dict.get", ?_, ?_⟩) hcall he hp
  · subst e; exact isMeth_dict hr PySem.F.slot_dict_get PySem.F.type_dict_get
  · refine ta_cons (T.imp h fun v st₂ ⟨e', e2, q⟩ => ta_nil ?_) he
    subst e e' e2
    cases w with
    | none => exact op_get_none ok hr q
    | some k =>
      refine op_get ok hr ?_
      rw [dget_dmap]
      show Q _ _
      cases hq : dget es (k : Int) with
      | none => have q : Q (ov (dget es k)) st₂ := q; rw [hq] at q; exact q
      | some u => have q : Q (ov (dget es k)) st₂ := q; rw [hq] at q; exact q
theorem d_oveq {w : Option Val} (q : Q (.bool true) st) : OP W n VR (op2 (compareOp .Eq)) [ov w, ov w] Q st := by
  cases w with
  | none => exact op_eq (x := .none) (y := .none) rfl rfl rfl rfl (by decide) q
  | some v =>
    refine d_valeq (v := v) (w := v) ?_
    rw [decide_eq_true rfl]; exact q
theorem d_oine {w : Option Nat} (q : Q (.bool false) st) : OP W n VR (op2 (compareOp .NotEq)) [oi w, oi w] Q st := by
  cases w with
  | none => exact op_ne (x := .none) (y := .none) rfl rfl rfl rfl (by decide) q
  | some k =>
    refine op_intne (a := k) (b := k) ?_
    rw [decide_eq_true rfl]; exact q
theorem d_boolne {a b : Bool} (h : a = b) (q : Q (.bool false) st) : OP W n VR (op2 (compareOp .NotEq)) [.bool a, .bool b] Q st := by
  subst h
  refine op_ne (x := .bool a) (y := .bool a) rfl rfl rfl rfl (by simp [PyData.depth]) ?_
  have : (!PyData.eqv (.bool a) (.bool a)) = false := by cases a <;> with_unfolding_all rfl
  rw [this]; exact q
theorem go_ints {gs : List Nat} : V.toD.go (bufMap gs) = some (gs.map fun (i : Nat) => PyData.int i) := by
  unfold bufMap
  induction gs with
  | nil => rfl
  | cons a r ih =>
    rw [List.map_cons, List.map_cons]
    show (V.toD.go (r.map fun (n : Nat) => V.int n)).map _ = _
    rw [ih]; rfl
theorem lay_ints {gs : List Nat} : PyData.canLayAll0 (gs.map fun (i : Nat) => PyData.int i) = true := by
  induction gs with
  | nil => rfl
  | cons a r ih =>
    rw [List.map_cons, PyData.canLayAll0, ih]
    simp [PyData.canLay0]
theorem d_notgiven {r : Role} {gs : List Nat} {k : Nat} (hr : st r = some (.list (bufMap gs))) (q : ∀ b, Q (.bool b) st) : OP W n VR (op2 (compareOp .NotIn)) [.int k, .ref r] Q st :=
  op_notinlist (x := .int k) rfl (.list hr go_ints) (by simp [PyData.canLay0]) lay_ints (by simp [PyData.depth]) (q _)
end

section
variable {W : Wd} {n : Nat} {st : St} {Q : V → St → Prop} {s : S} {N : Nat} {l g : Nat} {B : Nat → List (Int × Val)} {gs : List Nat}
theorem putB_id {i : Nat} : putB B i (B i) = B := by
  funext j; unfold putB; split
  · rename_i q; rw [q]
  · rfl
theorem c_weak_of_none (G : Gd W) (R : Rep s N st) (H : s.RefOk) {a : Int} (h : s.objIn a = none) (q : ∀ st', Rep s N st' → Keep N st st' → Q .none st') : CallOK W (n + 6) "weak_of" [.ref .heap, .int a] Q st :=
  c_weak_of G R H a fun st' R' K' => by
    unfold S.weakOf at R'
    rw [h] at R' ⊢
    exact q st' R' K'
theorem c_weak_of_some (G : Gd W) (R : Rep s N st) (H : s.RefOk) {a : Int} {k : Nat} (h : s.objIn a = some k) (q : ∀ st', Rep (s.setWeak k) N st' → Keep N st st' → Q (.int k) st') : CallOK W (n + 6) "weak_of" [.ref .heap, .int a] Q st :=
  c_weak_of G R H a fun st' R' K' => by
    unfold S.weakOf at R'
    rw [h] at R' ⊢
    exact q st' R' K'
theorem c_law_weak_right (G : Gd W) (R : Rep s N st) (H : LR B gs st) (h : LP l g s B gs) (hl : l ≤ 60) (hg : g ≤ 1000) {way a b : Int} {i : Nat} (hi : i < 2) (hw : 0 ≤ way ∧ way < 4)
    (q : ∀ s' B' gs' N' st', LQ l (g + 1) s' B' gs' → LR B' gs' st' → N ≤ N' → Rep s' N' st' → KeepT N st st' → Q (.bool true) st') :
    CallOK W (n + 12) "_law_weak_right" [.ref .heap, .ref .ltabs, .ref .lbooks, .ref .given, .int way, .int a, .int b, .int i] Q st := by
  refine fn_intro G.ok G.fns (mem_rec (i := 71) rfl (by kernel_rfl)) (ps := ["heap", "tables", "books", "given_out", "way", "a", "b", "which"]) (fun pm code doc ws h => by obtain ⟨a, b, c, d, e, f, g, i, rfl⟩ := len8 h; kernel_rfl) (by decide) (by kernel_rfl) rfl rfl rfl ?_
  intro env henv
  have ok := h.q.calm.ok
  have hlast := h.q.last
  have wfl : ∀ {s' : S} {B' gs' g'}, LQ l g' s' B' gs' → Wf 1000 s' := fun h' => (h'.calm.ok.wf (by have := h'.last; walk_at "om")).up (by decide)
  have w := wfl h.q
  refine ts_cons (tx_swapped (names := ["number", "table", "book"]) ?_ (sw_env henv (by kernel_rfl)))
  walk_at "mm"
  refine c_law_object G R w.ref (ok.valueOf a).2 ?_
  walk_at "mm"
  refine op_listitem H.ltabs (by walk_at "om") (by walk_at "om") (ltab_at hi) ?_
  walk_at "mm"
  refine op_listitem H.lbooks (by walk_at "om") (by walk_at "om") (lbook_at hi) ?_
  walk_at "mm"
  refine ⟨_, rfl, rfl, ?_⟩
  refine tts_cons (tt_bind (.inl (kof henv rfl)) (tts_cons (tt_bind (.inl (kof henv rfl)) (tts_cons (tt_bind (.inl (kof henv rfl)) (tts_nil ?_))))))
  have hway : way = 0 ∨ (way = 1 ∨ way = 2) ∨ way = 3 := by walk_at "om"
  have hgl := h.q.glen
  cases ho : s.objIn a with
  | none =>
    rw [show oi none = V.none from rfl]
    have last : ∀ {st1 : St}, Rep s N st1 → Keep N st st1 → Q (.bool true) st1 := fun R1 K1 => q s B gs N _ (h.q.up (Nat.le_refl l) (Nat.le_succ g)) (H.keep K1) (Nat.le_refl N) R1 K1.toT
    rcases hway with rfl | hway | rfl
    · walk_at "mm"
      refine c_weak_of_none G R w.ref ho fun st1 R1 K1 => ?_
      walk_at "mm"
      refine d_oine (w := none) ⟨_, rfl, ?_⟩
      walk_at "mm"
      refine c_weak_of_none G R1 w.ref ho fun st2 R2 K2 => ?_
      walk_at "mm"
      refine d_oine (w := none) ⟨_, rfl, ?_⟩
      walk_at "mm"
      refine c_weak_read G R2 w.ref hi a ?_
      rw [read_none ho]
      have K12 := K1.trans K2
      obtain ⟨ep, hb⟩ := (H.keep K12).book i hi
      refine te_getoi G.ok (es := B i) none ?_
      walk_at "mm"
      refine ⟨_, _, rfl, hb, ?_⟩
      walk_at "mm"
      refine ⟨rfl, rfl, ?_⟩
      exact d_oveq (w := none) (last R2 K12)
    · have e1 : decide (way = 0) = false := decide_eq_false (by walk_at "om")
      have e2 : decide (way < 3) = true := decide_eq_true (by walk_at "om")
      walk_at "mm"
      refine c_value_of G R w.ref b ?_
      walk_at "mm"
      refine c_wput G R h.q.calm h.q.okeys (by walk_at "om") hi a b (fun _ => ?_) (fun k s' N' st' hk => by rw [ho] at hk; cases hk)
      walk_at "mm"
      refine d_boolne rfl ⟨_, rfl, ?_⟩
      walk_at "mm"
      refine c_weak_read G R w.ref hi a ?_
      rw [read_none ho]
      obtain ⟨ep, hb⟩ := H.book i hi
      refine te_getoi G.ok (es := B i) none ?_
      walk_at "mm"
      refine ⟨_, _, rfl, hb, ?_⟩
      walk_at "mm"
      refine ⟨rfl, rfl, ?_⟩
      exact d_oveq (w := none) (last R Keep.refl)
    · walk_at "mm"
      refine c_wdrop G R h.q.calm h.q.okeys (by walk_at "om") hi a (fun _ => ?_) (fun k v s' N' st' hk => by rw [ho] at hk; cases hk)
      obtain ⟨ep, hb⟩ := H.book i hi
      walk_at "mm"
      refine op_in_none G.ok hb ?_
      refine d_boolne rfl ⟨_, rfl, ?_⟩
      walk_at "mm"
      refine ⟨"dict.pop", isMeth_dict hb PySem.F.slot_dict_pop PySem.F.type_dict_pop, ?_⟩
      walk_at "mm"
      refine op_dpop2_none G.ok hb ?_
      walk_at "mm"
      refine c_weak_read G R w.ref hi a ?_
      rw [read_none ho]
      refine te_getoi G.ok (es := B i) none ?_
      walk_at "mm"
      refine ⟨_, _, rfl, hb, ?_⟩
      walk_at "mm"
      refine ⟨rfl, rfl, ?_⟩
      exact d_oveq (w := none) (last R Keep.refl)
  | some k =>
    rw [show oi (some k) = V.int k from rfl]
    have hkm := (S.objIn_mem ho).1
    have e9 : (!decide ((k : Int) = (k : Int))) = false := by simp
    have last : ∀ {s' : S} {B' : Nat → List (Int × Val)} {gs' : List Nat} {N' : Nat} {st1 : St}, LQ l (g + 1) s' B' gs' → LR B' gs' st1 → N ≤ N' → Rep s' N' st1 → KeepT N st st1 → s'.objIn a = some k → ∀ {v : V}, v = ov (s'.weakRead i a) → OP W (n + 11) VR (op2 (compareOp .Eq)) [v, ov (dget (B' i) k)] (fun v st' => Q v st') st1 := fun L' H' hN R' K' hk' v hv => by
      rw [hv, L'.read hk' hi]
      exact d_oveq (q _ _ _ _ _ L' H' hN R' K')
    rcases hway with rfl | hway | rfl
    · walk_at "mm"
      refine c_weak_of_some G R w.ref ho fun st1 R1 K1 => ?_
      have P1 := h.setWeak (g' := g) hkm (fun x hx => .inl hx) hgl
      have w1 := wfl P1.q
      have hw1 := setWeak_facts s k
      have ho1 : (s.setWeak k).objIn a = some k := by rw [obj_same ok P1.q.calm.ok rfl hw1.1 hw1.2.1]; exact ho
      walk_at "mm"
      refine c_weak_of_some G R1 w1.ref ho1 fun st2 R2 K2 => ?_
      have K12 := K1.trans K2
      have H2 := H.keep K12
      have hg2 := H2.given
      have P2 := P1.setWeak (g' := g) hkm (fun x hx => .inl hx) hgl
      have P2' := P1.setWeak (gs' := gs ++ [k]) (g' := g + 1) hkm (fun x hx => by simpa using hx) (by rw [List.length_append, List.length_singleton]; walk_at "om")
      have w2 := wfl P2.q
      have hw2 := setWeak_facts (s.setWeak k) k
      have ho2 : ((s.setWeak k).setWeak k).objIn a = some k := by rw [obj_same P1.q.calm.ok P2.q.calm.ok rfl hw2.1 hw2.2.1]; exact ho1
      walk_at "mm"
      refine d_notgiven hg2 (fun bb => ?_)
      refine ⟨_, rfl, ?_⟩
      cases bb with
      | false =>
        walk_at "mm"
        refine c_weak_read G R2 w2.ref hi a ?_
        obtain ⟨ep, hb⟩ := H2.book i hi
        refine te_getoi G.ok (es := B i) (some k) ?_
        walk_at "mm"
        refine ⟨_, _, rfl, hb, ?_⟩
        walk_at "mm"
        refine ⟨rfl, rfl, ?_⟩
        exact last (P2.q.up (Nat.le_refl l) (Nat.le_succ g)) H2 (Nat.le_refl N) R2 K12.toT ho2 rfl
      | true =>
        walk_at "mm"
        refine ⟨_, hg2, by unfold bufMap; rw [List.length_map]; walk_at "om", ?_⟩
        rw [bufMap_snoc]
        have R3 : Rep ((s.setWeak k).setWeak k) N (st2.set .given (.list (bufMap (gs ++ [k])))) := R2.other (Nat.le_refl N) trivial
        have H3 := H2.setGiven (gs' := gs ++ [k])
        have K3 : KeepT N st (st2.set .given (.list (bufMap (gs ++ [k])))) := K12.toT.trans (KeepT.set fun k _ => nofun) (Nat.le_refl N)
        generalize (st2.set .given (.list (bufMap (gs ++ [k])))) = st3 at R3 H3 K3
        walk_at "mm"
        refine c_weak_read G R3 w2.ref hi a ?_
        obtain ⟨ep, hb⟩ := H3.book i hi
        refine te_getoi G.ok (es := B i) (some k) ?_
        walk_at "mm"
        refine ⟨_, _, rfl, hb, ?_⟩
        walk_at "mm"
        refine ⟨rfl, rfl, ?_⟩
        exact last P2'.q H3 (Nat.le_refl N) R3 K3 ho2 rfl
    · have e1 : decide (way = 0) = false := decide_eq_false (by walk_at "om")
      have e2 : decide (way < 3) = true := decide_eq_true (by walk_at "om")
      walk_at "mm"
      refine c_value_of G R w.ref b ?_
      walk_at "mm"
      refine c_wput G R h.q.calm h.q.okeys (by walk_at "om") hi a b (fun hk => by rw [ho] at hk; cases hk) (fun k' s' N' st' hk A hN R' K' => ?_)
      rw [ho] at hk; cases hk
      obtain ⟨L', ho'⟩ := h.put (by walk_at "om") ho hi A
      rw [ho] at ho'
      have H1 := H.keep K'
      obtain ⟨ep, hb⟩ := H1.book i hi
      walk_at "mm"
      refine d_boolne rfl ⟨_, rfl, ?_⟩
      walk_at "mm"
      refine op_setitem hb (by rw [dmap_length]; have := h.q.blen hi; walk_at "om") fun ep' => ?_
      rw [dput_dmap]
      have H2 := H1.setBook hi (es := dput (B i) k (s.valueOf b)) (ep := ep')
      have R2 : Rep s' N' (st'.set (.book i) (.dict (dmap (dput (B i) k (s.valueOf b))) ep')) := R'.other (Nat.le_refl N') trivial
      have K2 : KeepT N st (st'.set (.book i) (.dict (dmap (dput (B i) k (s.valueOf b))) ep')) := K'.toT.trans (M := N) (KeepT.set fun k _ => nofun) (Nat.le_refl N)
      generalize (st'.set (.book i) (.dict (dmap (dput (B i) k (s.valueOf b))) ep')) = st2 at H2 R2 K2
      obtain ⟨ep2, hb2⟩ := H2.book i hi
      walk_at "mm"
      refine c_weak_read G R2 (wfl L').ref hi a ?_
      refine te_getoi G.ok (es := putB B i (dput (B i) k (s.valueOf b)) i) (some k) ?_
      walk_at "mm"
      refine ⟨_, _, rfl, hb2, ?_⟩
      walk_at "mm"
      refine ⟨rfl, rfl, ?_⟩
      exact last (L'.up (Nat.le_refl l) (Nat.le_succ g)) H2 hN R2 K2 ho' rfl
    · walk_at "mm"
      have hr : s.weakRead i a = dget (B i) k := h.q.read ho hi
      obtain ⟨ep, hb⟩ := H.book i hi
      have hbl := h.q.blen hi
      refine c_wdrop G R h.q.calm h.q.okeys (by walk_at "om") hi a (fun hn => ?_) (fun k' v s' N' st' hk hv A hN R' K' => ?_)
      · rw [hr] at hn
        walk_at "mm"
        refine op_in G.ok hb ?_
        rw [dget_dmap, hn]
        refine d_boolne rfl ⟨_, rfl, ?_⟩
        walk_at "mm"
        refine ⟨"dict.pop", isMeth_dict hb PySem.F.slot_dict_pop PySem.F.type_dict_pop, ?_⟩
        walk_at "mm"
        have fin : ∀ {st1 : St}, Rep s N st1 → LR B gs st1 → KeepT N st st1 → ∃ ep, st1 (.book i) = some (.dict (dmap (B i)) ep) := fun _ H' _ => H'.book i hi
        refine op_dpop2 G.ok hb (by rw [dmap_length]; walk_at "om") (fun ep' => ?_) fun _ => ?_
        · rw [ddel_dmap, ddel_none hn]
          have H2 := H.setBook hi (es := B i) (ep := ep')
          rw [putB_id] at H2
          have R2 : Rep s N (st.set (.book i) (.dict (dmap (B i)) ep')) := R.other (Nat.le_refl N) trivial
          have K2 : KeepT N st (st.set (.book i) (.dict (dmap (B i)) ep')) := KeepT.set fun k _ => nofun
          generalize (st.set (.book i) (.dict (dmap (B i)) ep')) = st2 at H2 R2 K2
          obtain ⟨ep2, hb2⟩ := H2.book i hi
          walk_at "mm"
          refine c_weak_read G R2 w.ref hi a ?_
          refine te_getoi G.ok (es := B i) (some k) ?_
          walk_at "mm"
          refine ⟨_, _, rfl, hb2, ?_⟩
          walk_at "mm"
          refine ⟨rfl, rfl, ?_⟩
          exact last (h.q.up (Nat.le_refl l) (Nat.le_succ g)) H2 (Nat.le_refl N) R2 K2 ho rfl
        · walk_at "mm"
          refine c_weak_read G R w.ref hi a ?_
          refine te_getoi G.ok (es := B i) (some k) ?_
          walk_at "mm"
          refine ⟨_, _, rfl, hb, ?_⟩
          walk_at "mm"
          refine ⟨rfl, rfl, ?_⟩
          exact last (h.q.up (Nat.le_refl l) (Nat.le_succ g)) H (Nat.le_refl N) R KeepT.refl ho rfl
      · rw [ho] at hk; cases hk
        have hbv : dget (B i) k = some v := by rw [h.same i hi]; exact hv
        obtain ⟨L', ho'⟩ := h.drop ho hi A
        rw [ho] at ho'
        have H1 := H.keep K'
        obtain ⟨ep1, hb1⟩ := H1.book i hi
        walk_at "mm"
        refine op_in G.ok hb1 ?_
        rw [dget_dmap, hbv]
        refine d_boolne rfl ⟨_, rfl, ?_⟩
        walk_at "mm"
        refine ⟨"dict.pop", isMeth_dict hb1 PySem.F.slot_dict_pop PySem.F.type_dict_pop, ?_⟩
        walk_at "mm"
        refine op_dpop2 G.ok hb1 (by rw [dmap_length]; walk_at "om") (fun ep' => ?_) fun hn => by rw [dget_dmap, hbv] at hn; cases hn
        rw [ddel_dmap]
        have H2 := H1.setBook hi (es := ddel (B i) k) (ep := ep')
        have R2 : Rep s' N' (st'.set (.book i) (.dict (dmap (ddel (B i) k)) ep')) := R'.other (Nat.le_refl N') trivial
        have K2 : KeepT N st (st'.set (.book i) (.dict (dmap (ddel (B i) k)) ep')) := K'.toT.trans (M := N) (KeepT.set fun k _ => nofun) (Nat.le_refl N)
        generalize (st'.set (.book i) (.dict (dmap (ddel (B i) k)) ep')) = st2 at H2 R2 K2
        obtain ⟨ep2, hb2⟩ := H2.book i hi
        walk_at "mm"
        refine c_weak_read G R2 (wfl L').ref hi a ?_
        refine te_getoi G.ok (es := putB B i (ddel (B i) k) i) (some k) ?_
        walk_at "mm"
        refine ⟨_, _, rfl, hb2, ?_⟩
        walk_at "mm"
        refine ⟨rfl, rfl, ?_⟩
        exact last (L'.up (Nat.le_refl l) (Nat.le_succ g)) H2 hN R2 K2 ho' rfl
end
end
section
/-! ## what the variables reach -/
noncomputable def seenMap (ks : List Nat) : List (Int × V) := ks.map fun (n : Nat) => ((n : Int), V.bool true)
theorem seen_get {ks : List Nat} {k : Nat} : (dget (seenMap ks) k).isSome = decide (k ∈ ks) := by
  unfold seenMap
  induction ks with
  | nil => rfl
  | cons a r ih =>
    rw [List.map_cons, dget_cons]
    by_cases q : a = k
    · subst q; simp
    · have : ¬ ((a : Int) = k) := by walk_at "om"
      rw [if_neg this, ih]
      simp [Ne.symm q]
theorem seen_put {ks : List Nat} {k : Nat} (h : k ∉ ks) : dput (seenMap ks) k (.bool true) = seenMap (ks ++ [k]) := by
  have h0 : dget (seenMap ks) (k : Int) = none := by
    have := seen_get (ks := ks) (k := k)
    rw [decide_eq_false h] at this
    simpa using this
  rw [dput_absent h0]
  simp [seenMap]
structure ReachI (s : S) (m : Nat) (seen : List Nat) (ws : List Val) : Prop where
  nd : seen.Nodup
  sub : ∀ k ∈ seen, k ∈ s.ids ∧ Reach s k
  pend : ∀ k, .cell k ∈ ws → Reach s k
  closed : ∀ n ∈ seen, ∀ k ∈ s.kids n, k ∈ seen ∨ .cell k ∈ ws
  roots : ∀ e ∈ s.vars, ∀ k, e.2 = .cell k → k ∈ seen ∨ .cell k ∈ ws
  meas : (s.ids.map fun x => if x ∈ seen then 0 else (s.heldBy x).length).sum + ws.length ≤ m
  le : m ≤ 1000
section
variable {s : S} {f : Nat → Int} {m : Nat} {seen : List Nat} {ws : List Val}
theorem reach_start (ok : Ok s f) (hl : s.last ≤ 60) : ReachI s 1000 [] (s.vars.map (·.2)) where
  nd := List.nodup_nil
  sub := fun k hk => by cases hk
  pend := fun k hk => by
    obtain ⟨e, he, q⟩ := List.mem_map.mp hk
    exact Reach.var he q
  closed := fun n hn => by cases hn
  roots := fun e he k hk => .inr (List.mem_map.mpr ⟨e, he, hk⟩)
  meas := by
    have h1 := len_keys (b := 4) ok.vnd ok.vkey
    have h0 := ids_le ok hl
    have : ∀ l : List Nat, (∀ x ∈ l, x ∈ s.ids) → (l.map fun x => if x ∈ ([] : List Nat) then 0 else (s.heldBy x).length).sum ≤ 4 * l.length := fun l => by
      induction l with
      | nil => intro _; simp
      | cons a r ih =>
        intro h
        have := ih fun x hx => h x (List.mem_cons_of_mem _ hx)
        have h1 := len_keys (b := 2) (ok.snd a (h a List.mem_cons_self)) (ok.skey a (h a List.mem_cons_self))
        have h2 := heldBy_len (s := s) (n := a)
        rw [List.map_cons, List.sum_cons, List.length_cons]
        split <;> walk_at "om"
    have := this s.ids fun x hx => hx
    rw [List.length_map]; walk_at "om"
  le := Nat.le_refl _
theorem ReachI.skip {v : Val} (h : ReachI s m seen (ws ++ [v])) (hv : ∀ k, v = .cell k → k ∈ seen) : ∃ j, j < m ∧ ReachI s j seen ws := by
  have hm := h.meas
  rw [List.length_append, List.length_singleton] at hm
  have back : ∀ k, .cell k ∈ ws ++ [v] → k ∈ seen ∨ .cell k ∈ ws := fun k hk => by
    rcases List.mem_append.mp hk with hk | hk
    · exact .inr hk
    · exact .inl (hv k (List.mem_singleton.mp hk).symm)
  refine ⟨m - 1, by walk_at "om", h.nd, h.sub, fun k hk => h.pend k (List.mem_append_left _ hk), fun n hn k hk => ?_, fun e he k hk => ?_, by walk_at "om", by have := h.le; walk_at "om"⟩
  · rcases h.closed n hn k hk with z | z
    · exact .inl z
    · exact back k z
  · rcases h.roots e he k hk with z | z
    · exact .inl z
    · exact back k z
theorem ReachI.take {k : Nat} {vs : List Val} (h : ReachI s m seen (ws ++ [.cell k])) (ok : Ok s f) (hk : k ∉ seen) (hvs : ∀ v, v ∈ vs ↔ v ∈ s.heldBy k) (hvl : vs.length = (s.heldBy k).length) : ∃ j, j < m ∧ ReachI s j (seen ++ [k]) (ws ++ vs) := by
  have hm := h.meas
  rw [List.length_append, List.length_singleton] at hm
  have hr : Reach s k := h.pend k (by simp)
  have hki := hr.mem ok
  have back : ∀ j, .cell j ∈ ws ++ [.cell k] → j ∈ seen ++ [k] ∨ .cell j ∈ ws ++ vs := fun j hj => by
    rcases List.mem_append.mp hj with hj | hj
    · exact .inr (List.mem_append_left _ hj)
    · have := List.mem_singleton.mp hj
      cases this
      exact .inl (by simp)
  have hsum := sum_at (f := fun x => if x ∈ seen then 0 else (s.heldBy x).length) (f' := fun x => if x ∈ seen ++ [k] then 0 else (s.heldBy x).length) ok.nodup hki fun x hx => by
    have : (x ∈ seen ++ [k]) ↔ x ∈ seen := by simp [hx]
    simp only [this]
  simp only [hk, if_false] at hsum
  have e0 : (if k ∈ seen ++ [k] then 0 else (s.heldBy k).length) = 0 := if_pos (by simp)
  rw [e0] at hsum
  refine ⟨m - 1, by walk_at "om", List.nodup_append.mpr ⟨h.nd, by simp, fun a ha b hb q => hk (by rw [← List.mem_singleton.mp hb, ← q]; exact ha)⟩, fun j hj => ?_, fun j hj => ?_, fun n hn j hj => ?_, fun e he j hj => ?_, by rw [List.length_append, hvl]; walk_at "om", by have := h.le; walk_at "om"⟩
  · rcases List.mem_append.mp hj with hj | hj
    · exact h.sub j hj
    · rw [List.mem_singleton.mp hj]; exact ⟨hki, hr⟩
  · rcases List.mem_append.mp hj with hj | hj
    · exact h.pend j (List.mem_append_left _ hj)
    · exact hr.kid hki (mem_heldBy.mp ((hvs _).mp hj))
  · rcases List.mem_append.mp hn with hn | hn
    · rcases h.closed n hn j hj with z | z
      · exact .inl (List.mem_append_left _ z)
      · exact back j z
    · rw [List.mem_singleton.mp hn] at hj
      exact .inr (List.mem_append_right _ ((hvs _).mpr (mem_heldBy.mpr hj)))
  · rcases h.roots e he j hj with z | z
    · exact .inl (List.mem_append_left _ z)
    · exact back j z
theorem ReachI.done (h : ReachI s m seen []) (ok : Ok s f) : ∀ n, n ∈ seen ↔ n ∈ s.ids ∧ Reach s n := fun n => by
  refine ⟨h.sub n, fun hn => ?_⟩
  exact hn.2 (fun k => k ∈ seen) (fun x hx hxs k hk => (h.closed x hxs k hk).resolve_right fun z => by cases z) fun e he k hk => (h.roots e he k hk).resolve_right fun z => by cases z
theorem go_vals {vs : List Val} : V.toD.go (vs.map Val.v) = some (vs.map Val.d) := by
  induction vs with
  | nil => rfl
  | cons a r ih =>
    rw [List.map_cons, List.map_cons]
    show (a.v.toD).bind _ = _
    rw [a.toD]
    show (V.toD.go (r.map Val.v)).map _ = _
    rw [ih]; rfl
theorem lay_vals {vs : List Val} : PyData.canLayAll0 (vs.map Val.d) = true := by
  induction vs with
  | nil => rfl
  | cons a r ih => rw [List.map_cons, PyData.canLayAll0, ih, a.lay]; rfl
theorem depth_vals {vs : List Val} : PyData.depthAll (vs.map Val.d) ≤ 1 := by
  induction vs with
  | nil => exact Nat.zero_le _
  | cons a r ih =>
    rw [List.map_cons, PyData.depthAll]
    have : a.d.depth ≤ 1 := by simp [Val.d, PyData.depth, PyData.depthAll]
    walk_at "om"
end
section
variable {W : Wd} {n : Nat} {st : St} {Q : V → St → Prop}
theorem d_listne {r r' : Role} {vs : List Val} (hr : st r = some (.list (vs.map Val.v))) (hr' : st r' = some (.list [])) (q : Q (.bool (!vs.isEmpty)) st) : OP W n VR (op2 (compareOp .NotEq)) [.ref r, .ref r'] Q st := by
  refine op_dne (.list hr go_vals) (.list (xs := []) (ds := []) hr' rfl) (by simp only [PyData.canLay0]; exact lay_vals) rfl (by have := depth_vals (vs := vs); simp only [PyData.depth]; walk_at "om") ?_
  have : PyData.eqv (.list (vs.map Val.d)) (.list []) = vs.isEmpty := by
    cases vs with
    | nil => with_unfolding_all rfl
    | cons a r => rw [List.map_cons, PyData.eqv, PyData.eqvAll]; rfl
  rw [this]; exact q
end
end
section
/-! ## the cells reached -/
section
variable {W : Wd} {n : Nat} {st : St} {Q : V → St → Prop} {s : S} {N : Nat} {l g : Nat} {B : Nat → List (Int × Val)} {gs : List Nat}
inductive LpR (s : S) (N : Nat) (st : St) (m : Nat) (st' : St) : Prop
  | mk (seen : List Nat) (ws : List Val) (N' ep : Nat) (hI : ReachI s m seen ws) (hN : N + 2 ≤ N') (R : Rep s N' st') (K : Keep N st st') (hl : st' (.tmp N) = some (.list (ws.map Val.v))) (hs : st' (.tmp (N + 1)) = some (.dict (seenMap seen) ep))
theorem c_law_reached (G : Gd W) (R : Rep s N st) (H : LR B gs st) (h : LP l g s B gs) (hl : l ≤ 60)
    (q : ∀ ks N' j st', (∀ n, n ∈ ks ↔ n ∈ s.ids ∧ Reach s n) → ks.Nodup → ks.Pairwise (· ≤ ·) → N ≤ j → j < N' → Rep s N' st' → Keep N st st' → st' (.tmp j) = some (.list (bufMap ks)) → Q (.ref (.tmp j)) st') :
    CallOK W (n + 1) "_law_reached" [.ref .heap, .ref .lbooks] Q st := by
  refine fn_intro G.ok G.fns (mem_rec (i := 72) rfl (by kernel_rfl)) (ps := ["heap", "books"]) (fun pm code doc ws h => by obtain ⟨a, b, rfl⟩ := len2 h; kernel_rfl) (by decide) (by kernel_rfl) rfl rfl rfl ?_
  intro env henv
  have ok := h.q.calm.ok
  have hlast := h.q.last
  obtain ⟨epv, hv⟩ := R.vars
  have hvl := len_keys (b := 4) ok.vnd ok.vkey
  refine ts_cons (tx_swapped (names := ["waiting", "seen"]) ?_ (sw_env henv (by kernel_rfl)))
  walk_at "mm"
  refine te_comp G.ok (.tmp N) (CompOk.of henv (by kernel_rfl)) (ti_vals G.ok ?_)
  walk_at "mm"
  refine ⟨_, _, _, rfl, hv, by simp only [Src.items, List.length_map, dmap_length]; walk_at "om", s.vars.map (fun e => (e.2.v, some e.2.v)), by simp [Src.items, dmap, Function.comp_def], ?_, R.tmp (Nat.le_refl N), ?_⟩
  · intro z hz cenv hc
    rw [henv] at hc
    obtain ⟨e, he, rfl⟩ := List.mem_map.mp hz
    refine tf_nil ⟨rfl, rfl, fun y hy => ?_⟩
    cases hy
    walk_at "mm"
    exact ⟨rfl, rfl⟩
  · have e1 : (s.vars.map (fun e => (e.2.v, some e.2.v))).filterMap (·.2) = (s.vars.map (·.2)).map Val.v := by simp [List.filterMap_map, Function.comp_def]
    rw [e1]
    have R1 : Rep s (N + 1) (st.set (.tmp N) (.list ((s.vars.map (·.2)).map Val.v))) := R.tmpset
    have K1 : Keep N st (st.set (.tmp N) (.list ((s.vars.map (·.2)).map Val.v))) := Keep.set_tmp (Nat.le_refl N)
    have hl1 : (st.set (.tmp N) (.list ((s.vars.map (·.2)).map Val.v))) (.tmp N) = some (.list ((s.vars.map (·.2)).map Val.v)) := St.set_same
    generalize (st.set (.tmp N) (.list ((s.vars.map (·.2)).map Val.v))) = st1 at R1 K1 hl1
    walk_at "mm"
    refine te_dict G.ok (.tmp (N + 1)) (R1.tmp (Nat.le_refl _)) ?_
    have R2 : Rep s (N + 2) (st1.set (.tmp (N + 1)) (.dict [] 0)) := R1.tmpset
    have K2 : Keep N st (st1.set (.tmp (N + 1)) (.dict [] 0)) := K1.trans (Keep.set_tmp (Nat.le_succ N))
    have hl2 : (st1.set (.tmp (N + 1)) (.dict [] 0)) (.tmp N) = some (.list ((s.vars.map (·.2)).map Val.v)) := St.get_ne hl1
    have hs2 : (st1.set (.tmp (N + 1)) (.dict [] 0)) (.tmp (N + 1)) = some (.dict (seenMap []) 0) := St.set_same
    generalize (st1.set (.tmp (N + 1)) (.dict [] 0)) = st2 at R2 K2 hl2 hs2
    walk_at "mm"
    refine ⟨_, rfl, rfl, ?_⟩
    refine tts_cons (tt_bind (.inl (kof henv rfl)) (tts_cons (tt_bind (.inl (kof henv rfl)) (tts_nil ?_))))
    refine ts_cons (tx_while0 (LpR s N st) 1000 ⟨_, _, N + 2, 0, reach_start ok (by walk_at "om"), Nat.le_refl _, R2, K2, hl2, hs2⟩ ?_)
    rintro m st' ⟨seen, ws, N', ep, hI, hN, R', K', hl', hs'⟩
    have hmz := hI.meas
    have hmle := hI.le
    have hsl : seen.length ≤ 60 := by
      have := len_sub seen s.ids hI.nd fun x hx => (hI.sub x hx).1
      have := ids_le ok (by walk_at "om")
      walk_at "om"
    walk_at "mm"
    refine te_list G.ok (.tmp N') ?_
    walk_at "mm"
    refine ⟨R'.tmp (Nat.le_refl N'), ?_⟩
    have R3 : Rep s (N' + 1) (st'.set (.tmp N') (.list [])) := R'.tmpset
    have K3 : Keep N st (st'.set (.tmp N') (.list [])) := K'.trans (Keep.set_tmp (by walk_at "om")) (Nat.le_refl N)
    have hl3 : (st'.set (.tmp N') (.list [])) (.tmp N) = some (.list (ws.map Val.v)) := St.get_ne hl'
    have hs3 : (st'.set (.tmp N') (.list [])) (.tmp (N + 1)) = some (.dict (seenMap seen) ep) := St.get_ne hs'
    have he3 : (st'.set (.tmp N') (.list [])) (.tmp N') = some (.list []) := St.set_same
    generalize (st'.set (.tmp N') (.list [])) = st3 at R3 K3 hl3 hs3 he3
    refine d_listne hl3 he3 ⟨_, rfl, ?_⟩
    rcases List.eq_nil_or_concat ws with rfl | ⟨ws1, v, rfl⟩
    · refine if_f rfl ?_
      refine ts_cons (tx_return ?_)
      refine te_bfun (v := .builtin "sorted") G.ok (G.bi "sorted" (by decide +kernel)) (kof henv rfl) (by decide +kernel) ?_
      walk_at "mm"
      refine op_sortd G.ok hs3 (R3.tmp (Nat.le_refl _)) (by unfold seenMap; rw [List.length_map]; walk_at "om") fun ns hp hso => ?_
      have e2 : (seenMap seen).map (·.1) = seen.map fun (k : Nat) => (k : Int) := by simp [seenMap]
      rw [e2] at hp
      obtain ⟨ks, rfl, hp2⟩ := nat_perm hp
      rw [← bufMap_int]
      refine q ks (N' + 2) (N' + 1) _ (fun n => (hp2.mem_iff).trans (hI.done ok n)) (hp2.nodup_iff.mpr hI.nd) ((List.pairwise_map.mp hso).imp fun h => Int.ofNat_le.mp h) (by walk_at "om") (by walk_at "om") R3.tmpset (K3.trans (Keep.set_tmp (by walk_at "om")) (Nat.le_refl N)) St.set_same
    · have e0 : (!(ws1.concat v).isEmpty) = true := by simp
      refine if_t e0 ?_
      rw [List.concat_eq_append] at hI hl3 hmz
      rw [List.map_append] at hl3
      simp only [List.length_append] at hmz
      walk_at "mm"
      refine ⟨_, _, _, rfl, hl3, by rw [List.length_map]; walk_at "om", ?_⟩
      have R4 : Rep s (N' + 1) (st3.set (.tmp N) (.list (ws1.map Val.v))) := R3.tmpupd (by walk_at "om")
      have K4 : Keep N st (st3.set (.tmp N) (.list (ws1.map Val.v))) := K3.trans (Keep.set_tmp (Nat.le_refl N)) (Nat.le_refl N)
      have hl4 : (st3.set (.tmp N) (.list (ws1.map Val.v))) (.tmp N) = some (.list (ws1.map Val.v)) := St.set_same
      have hs4 : (st3.set (.tmp N) (.list (ws1.map Val.v))) (.tmp (N + 1)) = some (.dict (seenMap seen) ep) := St.get_ne hs3
      generalize (st3.set (.tmp N) (.list (ws1.map Val.v))) = st4 at R4 K4 hl4 hs4
      cases v with
      | int i =>
        refine tt_tuple rfl rfl ?_
        walk_at "mm"
        refine op_streq (by decide +kernel) (by decide +kernel) ⟨_, rfl, ?_⟩
        walk_at "mm"
        obtain ⟨j, hj, hI2⟩ := hI.skip fun k q => by cases q
        exact ⟨Sub.upd rfl (Sub.upd rfl Sub.refl), j, hj, seen, ws1, N' + 1, ep, hI2, by walk_at "om", R4, K4, hl4, hs4⟩
      | cell k =>
        refine tt_tuple rfl rfl ?_
        walk_at "mm"
        refine op_streq (by decide +kernel) (by decide +kernel) ⟨_, rfl, ?_⟩
        walk_at "mm"
        refine op_notin G.ok (i := (k : Int)) hs4 ⟨_, rfl, ?_⟩
        rw [seen_get]
        by_cases hks : k ∈ seen
        · have e5 : (!decide (k ∈ seen)) = false := by simp [hks]
          walk_at "mm"
          obtain ⟨j, hj, hI2⟩ := hI.skip fun k' q => by cases q; exact hks
          exact ⟨Sub.upd rfl (Sub.upd rfl Sub.refl), j, hj, seen, ws1, N' + 1, ep, hI2, by walk_at "om", R4, K4, hl4, hs4⟩
        · have e5 : (!decide (k ∈ seen)) = true := by simp [hks]
          have hkm : k ∈ s.ids := (hI.pend k (by simp)).mem ok
          have hslk := len_keys (b := 2) (ok.snd k hkm) (ok.skey k hkm)
          walk_at "mm"
          refine op_setitem (i := (k : Int)) hs4 (by unfold seenMap; rw [List.length_map]; walk_at "om") fun ep' => ?_
          rw [seen_put hks]
          have R5 : Rep s (N' + 1) (st4.set (.tmp (N + 1)) (.dict (seenMap (seen ++ [k])) ep')) := R4.tmpupd (by walk_at "om")
          have K5 : Keep N st (st4.set (.tmp (N + 1)) (.dict (seenMap (seen ++ [k])) ep')) := K4.trans (Keep.set_tmp (Nat.le_succ N)) (Nat.le_refl N)
          have hl5 : (st4.set (.tmp (N + 1)) (.dict (seenMap (seen ++ [k])) ep')) (.tmp N) = some (.list (ws1.map Val.v)) := St.get_ne hl4
          have hs5 : (st4.set (.tmp (N + 1)) (.dict (seenMap (seen ++ [k])) ep')) (.tmp (N + 1)) = some (.dict (seenMap (seen ++ [k])) ep') := St.set_same
          generalize (st4.set (.tmp (N + 1)) (.dict (seenMap (seen ++ [k])) ep')) = st5 at R5 K5 hl5 hs5
          obtain ⟨eps, hsk⟩ := R5.slotsX hkm (R5.ne hkm)
          walk_at "mm"
          refine te_comp G.ok (.tmp (N' + 1)) (CompOk.of henv (by kernel_rfl)) (ti_dict G.ok ?_)
          walk_at "mm"
          refine d_cellitem R5 hkm ?_
          walk_at "mm"
          refine ⟨_, _, _, rfl, hsk, by simp only [Src.items, List.length_map, dmap_length]; walk_at "om", (s.cell k).slots.map (fun e => (.int e.1, some e.2.v)), by simp [Src.items, dmap, Function.comp_def], ?_, R5.tmp (Nat.le_refl _), ?_⟩
          · intro z hz cenv hc
            rw [henv] at hc
            obtain ⟨e, he, rfl⟩ := List.mem_map.mp hz
            refine tf_nil ⟨rfl, rfl, fun y hy => ?_⟩
            cases hy
            walk_at "mm"
            refine d_cellitem R5 hkm ?_
            walk_at "mm"
            exact d_item (p := .slots k) R5 hkm (fun n e => R5.ne (by cases e; exact hkm)) (w := e.2) (dget_mem (ok.snd k hkm) (k := e.1) (u := e.2) he) ⟨rfl, rfl⟩
          · have e6 : ((s.cell k).slots.map (fun e => (V.int e.1, some e.2.v))).filterMap (·.2) = ((s.cell k).slots.map (·.2)).map Val.v := by simp [List.filterMap_map, Function.comp_def]
            rw [e6]
            generalize hsv : (s.cell k).slots.map (·.2) = sv
            have hsvl : sv.length ≤ 2 := by rw [← hsv, List.length_map]; exact hslk
            have R6 : Rep s (N' + 2) (st5.set (.tmp (N' + 1)) (.list (sv.map Val.v))) := R5.tmpset
            have K6 : Keep N st (st5.set (.tmp (N' + 1)) (.list (sv.map Val.v))) := K5.trans (Keep.set_tmp (by walk_at "om")) (Nat.le_refl N)
            have hl6 : (st5.set (.tmp (N' + 1)) (.list (sv.map Val.v))) (.tmp N) = some (.list (ws1.map Val.v)) := St.get_ne hl5
            have hs6 : (st5.set (.tmp (N' + 1)) (.list (sv.map Val.v))) (.tmp (N + 1)) = some (.dict (seenMap (seen ++ [k])) ep') := St.get_ne hs5
            refine ⟨_, _, _, hl6, rfl, St.set_same, by rw [List.length_map, List.length_map]; walk_at "om", ?_⟩
            rw [← List.map_append]
            generalize (st5.set (.tmp (N' + 1)) (.list (sv.map Val.v))) = st6 at R6 K6 hl6 hs6
            have R7 : Rep s (N' + 2) (st6.set (.tmp N) (.list ((ws1 ++ sv).map Val.v))) := R6.tmpupd (by walk_at "om")
            have K7 : Keep N st (st6.set (.tmp N) (.list ((ws1 ++ sv).map Val.v))) := K6.trans (Keep.set_tmp (Nat.le_refl N)) (Nat.le_refl N)
            have hl7 : (st6.set (.tmp N) (.list ((ws1 ++ sv).map Val.v))) (.tmp N) = some (.list ((ws1 ++ sv).map Val.v)) := St.set_same
            have hs7 : (st6.set (.tmp N) (.list ((ws1 ++ sv).map Val.v))) (.tmp (N + 1)) = some (.dict (seenMap (seen ++ [k])) ep') := St.get_ne hs6
            generalize (st6.set (.tmp N) (.list ((ws1 ++ sv).map Val.v))) = st7 at R7 K7 hl7 hs7
            have H7 := H.keep K7
            have hbk := H7.lbooks
            walk_at "mm"
            refine te_comp G.ok (.tmp (N' + 2)) (CompOk.of henv (by kernel_rfl)) (ti_list G.ok ?_)
            walk_at "mm"
            refine ⟨[0, 1].map (fun i => (.ref (.book i), (dget (B i) k).map Val.v)), rfl, ?_, R7.tmp (Nat.le_refl _), ?_⟩
            · intro z hz cenv hc
              rw [henv] at hc
              obtain ⟨i, hi, rfl⟩ := List.mem_map.mp hz
              have hi2 : i < 2 := by simp at hi; walk_at "om"
              obtain ⟨epb, hbi⟩ := H7.book i hi2
              refine tf_one ?_
              walk_at "mm"
              refine op_in G.ok hbi ?_
              rw [dget_dmap]
              refine ⟨_, rfl, rfl, by simp, fun y hy => ?_⟩
              walk_at "mm"
              refine op_dictitem (i := (k : Int)) hbi (by rw [dget_dmap]; exact hy) ⟨rfl, rfl⟩
            · have e8 : ((([0, 1] : List Nat).map (fun i => (V.ref (.book i), (dget (B i) (k : Int)).map Val.v))).filterMap (·.2)) = (([0, 1] : List Nat).filterMap (fun i => dget (s.tab i) (k : Int))).map Val.v := by
                rw [List.filterMap_map, List.map_filterMap]
                have h0 := h.same 0 (by decide)
                have h1 := h.same 1 (by decide)
                simp only [List.filterMap_cons, List.filterMap_nil, Function.comp, h0, h1]
              rw [e8]
              generalize htv : ([0, 1] : List Nat).filterMap (fun i => dget (s.tab i) (k : Int)) = tv
              have htvl : tv.length ≤ 2 := by rw [← htv]; exact List.length_filterMap_le _ _
              have R8 : Rep s (N' + 3) (st7.set (.tmp (N' + 2)) (.list (tv.map Val.v))) := R7.tmpset
              have K8 : Keep N st (st7.set (.tmp (N' + 2)) (.list (tv.map Val.v))) := K7.trans (Keep.set_tmp (by walk_at "om")) (Nat.le_refl N)
              have hl8 : (st7.set (.tmp (N' + 2)) (.list (tv.map Val.v))) (.tmp N) = some (.list ((ws1 ++ sv).map Val.v)) := St.get_ne hl7
              have hs8 : (st7.set (.tmp (N' + 2)) (.list (tv.map Val.v))) (.tmp (N + 1)) = some (.dict (seenMap (seen ++ [k])) ep') := St.get_ne hs7
              refine ⟨_, _, _, hl8, rfl, St.set_same, by rw [List.length_map, List.length_map, List.length_append]; walk_at "om", ?_⟩
              rw [← List.map_append]
              generalize (st7.set (.tmp (N' + 2)) (.list (tv.map Val.v))) = st8 at R8 K8 hl8 hs8
              walk_at "mm"
              have hhb : s.heldBy k = tv ++ sv := by rw [← htv, ← hsv]; rfl
              obtain ⟨j, hj, hI2⟩ := hI.take (vs := sv ++ tv) ok hks (fun v => by rw [hhb, List.mem_append, List.mem_append]; exact Or.comm) (by rw [hhb, List.length_append, List.length_append]; walk_at "om")
              rw [← List.append_assoc] at hI2
              exact ⟨Sub.upd rfl (Sub.upd rfl Sub.refl), j, hj, seen ++ [k], ws1 ++ sv ++ tv, N' + 3, ep', hI2, by walk_at "om", R8.tmpupd (by walk_at "om"), K8.trans (Keep.set_tmp (Nat.le_refl N)) (Nat.le_refl N), St.set_same, St.get_ne hs8⟩
end
end
section
/-! ## lists and dicts compared -/
theorem eqvAll_self {ds : List PyData} (h : ∀ d ∈ ds, PyData.eqv d d = true) : PyData.eqvAll ds ds = true := by
  induction ds with
  | nil => with_unfolding_all rfl
  | cons a r ih =>
    rw [PyData.eqvAll, h a List.mem_cons_self, ih fun d hd => h d (List.mem_cons_of_mem _ hd)]; rfl
noncomputable def ovd : Option Val → PyData | none => .none | some v => v.d
theorem ov_toD (w : Option Val) : (ov w).toD = some (ovd w) := by
  cases w with
  | none => rfl
  | some v => exact v.toD
theorem ov_lay (w : Option Val) : (ovd w).canLay0 = true := by
  cases w with
  | none => rfl
  | some v => exact v.lay
theorem ov_depth (w : Option Val) : (ovd w).depth ≤ 1 := by
  cases w with
  | none => exact Nat.zero_le _
  | some v => simp [ovd, Val.d, PyData.depth, PyData.depthAll]
theorem ov_eqv (w : Option Val) : PyData.eqv (ovd w) (ovd w) = true := by
  cases w with
  | none => with_unfolding_all rfl
  | some v => show PyData.eqv v.d v.d = true; rw [Val.data_eqv]; simp
section
variable {W : Wd} {n : Nat} {st : St} {Q : V → St → Prop}
theorem d_samene {r r' : Role} {xs : List V} {ds : List PyData} (hr : st r = some (.list xs)) (hr' : st r' = some (.list xs)) (hg : V.toD.go xs = some ds) (hl : PyData.canLayAll0 ds = true) (hd : PyData.depthAll ds ≤ 60) (he : ∀ d ∈ ds, PyData.eqv d d = true) (q : Q (.bool false) st) : OP W n VR (op2 (compareOp .NotEq)) [.ref r, .ref r'] Q st := by
  refine op_dne (.list hr hg) (.list hr' hg) (by simp only [PyData.canLay0]; exact hl) (by simp only [PyData.canLay0]; exact hl) (by simp only [PyData.depth]; walk_at "om") ?_
  have : PyData.eqv (.list ds) (.list ds) = true := by rw [PyData.eqv]; exact eqvAll_self he
  rw [this]; exact q
theorem go_int {ks : List Int} : V.toD.go (ks.map V.int) = some (ks.map PyData.int) := by
  induction ks with
  | nil => rfl
  | cons a r ih =>
    rw [List.map_cons, List.map_cons]
    show (V.toD.go (r.map V.int)).map _ = _
    rw [ih]; rfl
theorem d_intsne {r r' : Role} {ks : List Int} (hr : st r = some (.list (ks.map V.int))) (hr' : st r' = some (.list (ks.map V.int))) (q : Q (.bool false) st) : OP W n VR (op2 (compareOp .NotEq)) [.ref r, .ref r'] Q st := by
  refine d_samene hr hr' go_int ?_ ?_ ?_ q
  · clear hr hr'
    induction ks with
    | nil => rfl
    | cons a r ih => rw [List.map_cons, PyData.canLayAll0, ih]; simp [PyData.canLay0]
  · have : PyData.depthAll (ks.map PyData.int) = 0 := by
      clear hr hr'
      induction ks with
      | nil => rfl
      | cons a r ih => rw [List.map_cons, PyData.depthAll, ih]; rfl
    walk_at "om"
  · intro d hd
    obtain ⟨i, _, rfl⟩ := List.mem_map.mp hd
    simp [PyData.eqv]
theorem d_ovsne {r r' : Role} {ws : List (Option Val)} (hr : st r = some (.list (ws.map ov))) (hr' : st r' = some (.list (ws.map ov))) (q : Q (.bool false) st) : OP W n VR (op2 (compareOp .NotEq)) [.ref r, .ref r'] Q st := by
  refine d_samene (ds := ws.map ovd) hr hr' ?_ ?_ ?_ ?_ q
  · clear hr hr'
    induction ws with
    | nil => rfl
    | cons a r ih =>
      rw [List.map_cons, List.map_cons]
      show ((ov a).toD).bind _ = _
      rw [ov_toD]
      show (V.toD.go (r.map ov)).map _ = _
      rw [ih]; rfl
  · clear hr hr'
    induction ws with
    | nil => rfl
    | cons a r ih => rw [List.map_cons, PyData.canLayAll0, ih, ov_lay]; rfl
  · have : PyData.depthAll (ws.map ovd) ≤ 1 := by
      clear hr hr'
      induction ws with
      | nil => exact Nat.zero_le _
      | cons a r ih => rw [List.map_cons, PyData.depthAll]; have := ov_depth a; walk_at "om"
    walk_at "om"
  · intro d hd
    obtain ⟨i, _, rfl⟩ := List.mem_map.mp hd
    exact ov_eqv i
theorem hits_self {es : List (Int × Val)} : ∀ {l : List (Int × Val)}, (∀ e ∈ l, dget es e.1 = some e.2) → Hits (dmap es) (dmap l) true
  | [], _ => .nil
  | e :: r, h => by
    have h1 : dget (dmap es) e.1 = some e.2.v := by rw [dget_dmap, h e List.mem_cons_self]; rfl
    have := Hits.hit (x := e.2.v) (r := dmap r) h1 e.2.toD e.2.toD e.2.lay e.2.lay e.2.depth (hits_self fun a ha => h a (List.mem_cons_of_mem _ ha))
    rw [Val.data_eqv, decide_eq_true rfl] at this
    exact this
theorem d_dictne {r r' : Role} {es : List (Int × Val)} {p p' : Nat} (ok : W.Ok) (hn : (es.map (·.1)).Nodup) (hr : st r = some (.dict (dmap es) p)) (hr' : st r' = some (.dict (dmap es) p')) (q : Q (.bool false) st) : OP W n VR (op2 (compareOp .NotEq)) [.ref r, .ref r'] Q st := by
  refine op_dictne ok hr hr' (b := true) (fun _ => hits_self fun e he => dget_mem hn (k := e.1) (u := e.2) he) ?_
  rw [beq_self_eq_true]; exact q
end
/-! ## the dead keys of a book -/
noncomputable def deadKeys (s : S) (es : List (Int × Val)) : List Int := es.filterMap fun e => if e.1.toNat ∈ s.ids then none else some e.1
noncomputable def afterPops (es : List (Int × Val)) (ds : List Int) : List (Int × Val) := es.filter fun e => decide (e.1 ∉ ds)
section
variable {s : S} {es : List (Int × Val)} {ds : List Int}
theorem deadKeys_sub : deadKeys s es = (es.map (·.1)).filter fun i => decide (i.toNat ∉ s.ids) := by
  unfold deadKeys
  induction es with
  | nil => rfl
  | cons a r ih =>
    rw [List.filterMap_cons, List.map_cons, List.filter_cons]
    by_cases q : a.1.toNat ∈ s.ids
    · simp only [q, if_true, not_true, decide_false]; exact ih
    · simp only [q, if_false, not_false_eq_true, decide_true, if_true]; rw [ih]
theorem afterPops_all : afterPops es (deadKeys s es) = es.filter fun e => decide (e.1.toNat ∈ s.ids) := by
  unfold afterPops
  apply List.filter_congr
  intro e he
  rw [decide_eq_decide, deadKeys_sub, List.mem_filter]
  simp only [decide_eq_true_eq, List.mem_map]
  constructor
  · intro h
    exact Classical.byContradiction fun q => h ⟨⟨e, he, rfl⟩, q⟩
  · rintro h ⟨_, q⟩; exact q h
theorem afterPops_nil : afterPops es [] = es := List.filter_eq_self.mpr fun e _ => by simp
theorem afterPops_snoc {d : Int} : ddel (afterPops es ds) d = afterPops es (ds ++ [d]) := by
  unfold ddel afterPops
  rw [List.filter_filter]
  apply List.filter_congr
  intro e _
  simp [and_comm]
theorem afterPops_get {d : Int} (hn : (es.map (·.1)).Nodup) (hd : d ∈ es.map (·.1)) (h : d ∉ ds) : ∃ y, dget (afterPops es ds) d = some y := by
  obtain ⟨e, he, rfl⟩ := List.mem_map.mp hd
  refine ⟨e.2, ?_⟩
  unfold afterPops
  rw [dget_filter fun a _ q => by rw [q]; simpa using h]
  exact dget_mem hn (k := e.1) (u := e.2) he
theorem deadKeys_nodup (hn : (es.map (·.1)).Nodup) : (deadKeys s es).Nodup := by rw [deadKeys_sub]; exact hn.filter _
theorem not_take {α : Type} {l : List α} {j : Nat} {d : α} (hn : l.Nodup) (hd : l[j]? = some d) : d ∉ l.take j := fun hm => by
  obtain ⟨i, hi, e⟩ := List.getElem_of_mem hm
  rw [List.getElem_take] at e
  have h1 : i < j := by rw [List.length_take] at hi; walk_at "om"
  have hjl := (List.getElem?_eq_some_iff.mp hd).1
  have e2 : l[j] = d := (List.getElem?_eq_some_iff.mp hd).2
  have := (List.getElem_inj hn).mp (e.trans e2.symm)
  walk_at "om"
end
end
section
/-! ## the law's comparison -/
section
variable {W : Wd} {n : Nat} {st : St} {Q : V → St → Prop} {s : S} {N : Nat} {l g : Nat} {B : Nat → List (Int × Val)} {gs : List Nat}
inductive LpE (s : S) (B : Nat → List (Int × Val)) (gs : List Nat) (N : Nat) (st : St) (j : Nat) (st' : St) : Prop
  | mk (N' : Nat) (hN : N + 1 ≤ N') (R : Rep s N' st') (H : LR (fun i => if i < j then s.tab i else B i) gs st') (K : KeepT N st st') (hp : st' (.tmp N) = some .pair)
theorem c_law_are_same (G : Gd W) (R : Rep s N st) (H : LR B gs st) (h : LQ l g s B gs) (hl : l ≤ 60) (hg : g ≤ 1000)
    (q : ∀ N' st', LR s.tab gs st' → N ≤ N' → Rep s N' st' → KeepT N st st' → Q (.bool true) st') :
    CallOK W (n + 3) "_law_are_same" [.ref .heap, .ref .ltabs, .ref .lbooks, .ref .given] Q st := by
  refine fn_intro G.ok G.fns (mem_rec (i := 73) rfl (by kernel_rfl)) (ps := ["heap", "tables", "books", "given_out"]) (fun pm code doc ws h => by obtain ⟨a, b, c, d, rfl⟩ := len4 h; kernel_rfl) (by decide) (by kernel_rfl) rfl rfl rfl ?_
  intro env henv
  have ok := h.calm.ok
  have hlast := h.last
  have w := (ok.wf (by walk_at "om")).up (c := 1000) (by decide)
  have hlt := H.ltabs
  have hlb := H.lbooks
  refine ts_cons (tx_fort G.ok (ti_zip G.ok (.tmp N) (G.bi "zip" (by decide +kernel)) (kof henv rfl) (by decide +kernel) ?_))
  walk_at "mm"
  refine ⟨_, _, _, _, rfl, hlt, hlb, rfl, R.tmp (Nat.le_refl N), fun a b c d => ?_⟩
  have R0 : Rep s (N + 1) (st.set (.tmp N) .pair) := R.tmpset
  have H0 : LR B gs (st.set (.tmp N) .pair) := H.keep (Keep.set_tmp (N := N) (Nat.le_refl N))
  have K0 : KeepT N st (st.set (.tmp N) .pair) := (Keep.set_tmp (N := N) (Nat.le_refl N)).toT
  have hp0 : (st.set (.tmp N) .pair) (.tmp N) = some .pair := St.set_same
  generalize (st.set (.tmp N) .pair) = st0 at R0 H0 K0 hp0
  refine ⟨LpE s B gs N st, ⟨N + 1, Nat.le_refl _, R0, H0, K0, hp0⟩, ?_, ?_⟩
  · rintro j st' x ⟨N', hN, R', H', K', hp'⟩ hx
    refine ⟨⟨H'.ltabs, H'.lbooks, hp'⟩, ?_⟩
    have hi : j < 2 ∧ x = [.ref (.tab j), .ref (.book j)] := by
      rcases j with _ | _ | j
      · refine ⟨by decide, ?_⟩; simp [TSrc.rows] at hx; exact hx.symm
      · refine ⟨by decide, ?_⟩; simp [TSrc.rows] at hx; exact hx.symm
      · simp [TSrc.rows] at hx
    obtain ⟨hi, rfl⟩ := hi
    have hbl := h.blen hi
    obtain ⟨ep, hb⟩ := H'.book j hi
    rw [if_neg (Nat.lt_irrefl j)] at hb
    walk_at "mm"
    refine tx_for0 G.ok (.inl (kof henv rfl)) (ti_list G.ok ?_)
    refine te_comp G.ok (.tmp N') (CompOk.of henv (by kernel_rfl)) (ti_dict G.ok ?_)
    walk_at "mm"
    obtain ⟨epc, hcs⟩ := R'.cells
    refine ⟨_, _, _, rfl, hb, by simp only [Src.items, List.length_map, dmap_length]; walk_at "om", (B j).map (fun e => (.int e.1, if e.1.toNat ∈ s.ids then none else some (.int e.1))), by simp [Src.items, dmap, Function.comp_def], ?_, R'.tmp (Nat.le_refl _), ?_⟩
    · intro z hz cenv hc
      rw [henv] at hc
      obtain ⟨e, he, rfl⟩ := List.mem_map.mp hz
      have hpos := (h.bpos j hi e he).1
      refine tf_one ?_
      walk_at "mm"
      refine op_notin G.ok hcs ?_
      rw [dget_cells]
      show ∃ _, _ ∧ _
      by_cases z : e.1.toNat ∈ s.ids
      · rw [if_pos ⟨hpos, z⟩, if_pos z]
        exact ⟨_, rfl, rfl, rfl, fun y hy => by cases hy⟩
      · rw [if_neg fun q => z q.2, if_neg z]
        refine ⟨_, rfl, rfl, rfl, fun y hy => ?_⟩
        cases hy
        walk_at "mm"
        exact ⟨rfl, rfl⟩
    · have e1 : ((B j).map (fun e => (V.int e.1, if e.1.toNat ∈ s.ids then none else some (V.int e.1)))).filterMap (·.2) = (deadKeys s (B j)).map V.int := by
        unfold deadKeys
        rw [List.filterMap_map, List.map_filterMap]
        congr 1
        funext e
        simp only [Function.comp]
        split <;> rfl
      rw [e1]
      have hdn := deadKeys_nodup (s := s) (h.bnd j hi)
      have hdm : ∀ d ∈ deadKeys s (B j), d ∈ (B j).map (·.1) := fun d hd => by rw [deadKeys_sub] at hd; exact (List.mem_filter.mp hd).1
      have hall := afterPops_all (s := s) (es := B j)
      generalize deadKeys s (B j) = ds at hdn hdm hall
      have R1 : Rep s (N' + 1) (st'.set (.tmp N') (.list (ds.map V.int))) := R'.tmpset
      have H1 : LR (fun i => if i < j then s.tab i else B i) gs (st'.set (.tmp N') (.list (ds.map V.int))) := H'.keep (Keep.set_tmp (N := N) (by walk_at "om"))
      have K1 : KeepT (N + 1) st' (st'.set (.tmp N') (.list (ds.map V.int))) := (Keep.set_tmp (N := N + 1) (by walk_at "om")).toT
      have hb1 : (st'.set (.tmp N') (.list (ds.map V.int))) (.book j) = some (.dict (dmap (B j)) ep) := St.get_ne hb
      have hd1 : (st'.set (.tmp N') (.list (ds.map V.int))) (.tmp N') = some (.list (ds.map V.int)) := St.set_same
      refine ⟨_, _, rfl, hd1, ?_⟩
      generalize (st'.set (.tmp N') (.list (ds.map V.int))) = st1 at R1 H1 K1 hb1 hd1
      have other : ∀ {es : List (Int × Val)} {e : Nat} {st2 : St}, (∀ i, i < 2 → i ≠ j → st2 (.book i) = st1 (.book i)) → st2 .ltabs = st1 .ltabs → st2 .lbooks = st1 .lbooks → st2 .given = st1 .given → st2 (.book j) = some (.dict (dmap (s.tab j)) e) → LR (fun i => if i < j + 1 then s.tab i else B i) gs st2 := fun {es e st2} h1 h2 h3 h4 h5 => ⟨h2.trans H1.ltabs, h3.trans H1.lbooks, fun i hi' => by
        by_cases z : i = j
        · subst z; rw [if_pos (Nat.lt_succ_self _)]; exact ⟨e, h5⟩
        · obtain ⟨e', he'⟩ := H1.book i hi'
          refine ⟨e', ?_⟩
          rw [h1 i hi' z, he']
          by_cases y : i < j
          · rw [if_pos y, if_pos (by walk_at "om")]
          · rw [if_neg y, if_neg (by walk_at "om")], h4.trans H1.given⟩
      refine ⟨fun i st' => ∃ e, st' = st1.set (.book j) (.dict (dmap (afterPops (B j) (ds.take i))) e), ⟨ep, ?_⟩, ?_, ?_⟩
      · funext r
        by_cases z : r = .book j
        · rw [z, hb1, List.take_zero, afterPops_nil, St.set_same]
        · rw [St.set_ne z]
      · rintro i st' v ⟨e, rfl⟩ hv
        simp only [Src.items, List.getElem?_map, Option.map_eq_some_iff] at hv
        obtain ⟨d, hd, rfl⟩ := hv
        refine ⟨St.get_ne hd1, ?_⟩
        have hbk : (st1.set (.book j) (.dict (dmap (afterPops (B j) (ds.take i))) e)) (.book j) = some (.dict (dmap (afterPops (B j) (ds.take i))) e) := St.set_same
        obtain ⟨y, hy⟩ := afterPops_get (h.bnd j hi) (hdm d (List.mem_of_getElem? hd)) (not_take hdn hd)
        walk_at "mm"
        refine ⟨_, _, _, rfl, hbk, ?_⟩
        walk_at "mm"
        refine ⟨_, y.v, rfl, rfl, by rw [dmap_length]; exact Nat.le_trans (List.length_filter_le _ _) (by walk_at "om"), by rw [dget_dmap, hy]; rfl, fun ep' => ?_⟩
        walk_at "mm"
        refine ⟨Sub.upd rfl Sub.refl, ep', ?_⟩
        rw [ddel_dmap, afterPops_snoc, take_snoc hd, St.set_set]
      · rintro st' ⟨e, rfl⟩
        refine ⟨St.get_ne hd1, ?_⟩
        have e2 : ds.take (Src.list (.tmp N') (ds.map V.int)).items.length = ds := by simp [Src.items]
        rw [e2, hall, ← h.tab j hi]
        have R2 : Rep s (N' + 1) (st1.set (.book j) (.dict (dmap (s.tab j)) e)) := R1.other (Nat.le_refl _) trivial
        have hb2 : (st1.set (.book j) (.dict (dmap (s.tab j)) e)) (.book j) = some (.dict (dmap (s.tab j)) e) := St.set_same
        have H2 : LR (fun i => if i < j + 1 then s.tab i else B i) gs (st1.set (.book j) (.dict (dmap (s.tab j)) e)) := other (es := []) (fun i _ hne => St.set_ne fun q => hne (by cases q; rfl)) rfl rfl rfl hb2
        have K2 : KeepT (N + 1) st' (st1.set (.book j) (.dict (dmap (s.tab j)) e)) := K1.trans (M := N + 1) (KeepT.set fun k _ => nofun) (Nat.le_refl _)
        generalize (st1.set (.book j) (.dict (dmap (s.tab j)) e)) = st2 at R2 hb2 H2 K2
        have htl : (s.tab j).length ≤ 100 := by rw [h.tab j hi]; exact Nat.le_trans (List.length_filter_le _ _) hbl
        obtain ⟨epe, he2⟩ := R2.ent hi
        walk_at "mm"
        refine c_weak_keys G R2 hi (by walk_at "om") fun R3 => ?_
        have hk3 : (st2.set (.tmp (N' + 1)) (.list ((s.tab j).map fun e => .int e.1))) (.tmp (N' + 1)) = some (.list ((s.tab j).map fun e => .int e.1)) := St.set_same
        have hb3 : (st2.set (.tmp (N' + 1)) (.list ((s.tab j).map fun e => .int e.1))) (.book j) = some (.dict (dmap (s.tab j)) e) := St.get_ne hb2
        have H3 := H2.keep (Keep.set_tmp (N := N) (k := N' + 1) (o := .list ((s.tab j).map fun e => .int e.1)) (by walk_at "om"))
        have K3 : KeepT (N + 1) st' (st2.set (.tmp (N' + 1)) (.list ((s.tab j).map fun e => .int e.1))) := K2.trans (M := N + 1) (Keep.set_tmp (by walk_at "om")).toT (Nat.le_refl _)
        generalize (st2.set (.tmp (N' + 1)) (.list ((s.tab j).map fun e => .int e.1))) = st3 at R3 hk3 hb3 H3 K3
        refine te_bfun (v := .type "list") G.ok (G.bi "list" (by decide +kernel)) (kof henv rfl) (by decide +kernel) ?_
        walk_at "mm"
        refine op_listd G.ok hb3 (R3.tmp (Nat.le_refl _)) (by rw [dmap_length]; walk_at "om") ?_
        have e3 : (dmap (s.tab j)).map (fun e => V.int e.1) = (s.tab j).map fun e => .int e.1 := dmap_keys _
        rw [e3]
        have e4 : ((s.tab j).map fun e => V.int e.1) = ((s.tab j).map (·.1)).map V.int := by rw [List.map_map]; rfl
        rw [e4] at hk3 ⊢
        generalize (s.tab j).map (·.1) = ks at hk3
        have R4 : Rep s (N' + 3) (st3.set (.tmp (N' + 2)) (.list (ks.map V.int))) := R3.tmpset
        have hk4 : (st3.set (.tmp (N' + 2)) (.list (ks.map V.int))) (.tmp (N' + 2)) = some (.list (ks.map V.int)) := St.set_same
        have hk4' : (st3.set (.tmp (N' + 2)) (.list (ks.map V.int))) (.tmp (N' + 1)) = some (.list (ks.map V.int)) := St.get_ne hk3
        have hb4 : (st3.set (.tmp (N' + 2)) (.list (ks.map V.int))) (.book j) = some (.dict (dmap (s.tab j)) e) := St.get_ne hb3
        have H4 := H3.keep (Keep.set_tmp (N := N) (k := N' + 2) (o := .list (ks.map V.int)) (by walk_at "om"))
        have K4 : KeepT (N + 1) st' (st3.set (.tmp (N' + 2)) (.list (ks.map V.int))) := K3.trans (M := N + 1) (Keep.set_tmp (by walk_at "om")).toT (Nat.le_refl _)
        generalize (st3.set (.tmp (N' + 2)) (.list (ks.map V.int))) = st4 at R4 hk4 hk4' hb4 H4 K4
        refine d_intsne hk4' hk4 ⟨_, rfl, ?_⟩
        obtain ⟨epe4, he4⟩ := R4.ent hi
        walk_at "mm"
        refine d_dictne G.ok (ok.tnd j hi) he4 hb4 ⟨_, rfl, ?_⟩
        walk_at "mm"
        refine te_comp G.ok (.tmp (N' + 3)) (CompOk.of henv (by kernel_rfl)) (ti_vals G.ok ?_)
        walk_at "mm"
        refine ⟨_, _, _, rfl, hb4, by simp only [Src.items, List.length_map, dmap_length]; walk_at "om", (s.tab j).map (fun e => (e.2.v, none)), by simp [Src.items, dmap, Function.comp_def], ?_, R4.tmp (Nat.le_refl _), ?_⟩
        · intro z hz cenv hc
          rw [henv] at hc
          obtain ⟨ee, hee, rfl⟩ := List.mem_map.mp hz
          obtain ⟨ei, ev⟩ := ee
          refine tf_one ?_
          walk_at "mm"
          cases ev with
          | int i =>
            walk_at "mm"
            exact ⟨rfl, rfl, fun y hy => by cases hy⟩
          | cell k =>
            have hkm : k ∈ s.ids := ok.alive k (S.mem_allHeld.mpr (.inr (.inr ⟨j, hi, _, hee, rfl⟩)))
            obtain ⟨epc4, hcs4⟩ := R4.cells
            have e7 : (Val.cell k).isCell = true := rfl
            walk_at "mm"
            refine op_notin G.ok hcs4 ?_
            have e8 : (!(dget (cellMap s.ids) (Val.cell k).num).isSome) = false := by
              show (!(dget (cellMap s.ids) (k : Int)).isSome) = false
              rw [dget_cell hkm]; rfl
            rw [e8]
            exact ⟨_, rfl, rfl, rfl, fun y hy => by cases hy⟩
        · have e5 : ((s.tab j).map (fun e => (e.2.v, (none : Option V)))).filterMap (·.2) = [] := by
            rw [List.filterMap_map, List.filterMap_eq_nil_iff]; intro a _; rfl
          rw [e5]
          have R5 : Rep s (N' + 4) (st4.set (.tmp (N' + 3)) (.list [])) := R4.tmpset
          have hn5 : (st4.set (.tmp (N' + 3)) (.list [])) (.tmp (N' + 3)) = some (.list []) := St.set_same
          have H5 := H4.keep (Keep.set_tmp (N := N) (k := N' + 3) (o := .list []) (by walk_at "om"))
          have K5 : KeepT (N + 1) st' (st4.set (.tmp (N' + 3)) (.list [])) := K4.trans (M := N + 1) (Keep.set_tmp (by walk_at "om")).toT (Nat.le_refl _)
          generalize (st4.set (.tmp (N' + 3)) (.list [])) = st5 at R5 hn5 H5 K5
          walk_at "mm"
          refine te_list G.ok (.tmp (N' + 4)) ?_
          walk_at "mm"
          refine ⟨R5.tmp (Nat.le_refl _), ?_⟩
          have R6 : Rep s (N' + 5) (st5.set (.tmp (N' + 4)) (.list [])) := R5.tmpset
          have H6 := H5.keep (Keep.set_tmp (N := N) (k := N' + 4) (o := .list []) (by walk_at "om"))
          have K6 : KeepT (N + 1) st' (st5.set (.tmp (N' + 4)) (.list [])) := K5.trans (M := N + 1) (Keep.set_tmp (by walk_at "om")).toT (Nat.le_refl _)
          refine d_listne (vs := []) (St.get_ne hn5) St.set_same ⟨_, rfl, ?_⟩
          walk_at "mm"
          refine ⟨Sub.upd rfl (Sub.upd rfl Sub.refl), N' + 5, by walk_at "om", R6, H6, K'.trans (M := N + 1) K6 (Nat.le_succ N), ?_⟩
          rw [K6 N (Nat.lt_succ_self N)]; exact hp'
  · rintro st' ⟨N', hN, R', H', K', hp'⟩
    refine ⟨⟨H'.ltabs, H'.lbooks, hp'⟩, ?_⟩
    have e0 : (TSrc.zip Role.ltabs Role.lbooks [V.ref (Role.tab 0), V.ref (Role.tab 1)] [V.ref (Role.book 0), V.ref (Role.book 1)] (Role.tmp N) a b c d).rows.length = 2 := rfl
    rw [e0] at H'
    have H' : LR s.tab gs st' := ⟨H'.ltabs, H'.lbooks, fun i hi => by
      obtain ⟨e, he⟩ := H'.book i hi
      exact ⟨e, by rw [if_pos hi] at he; exact he⟩, H'.given⟩
    have hgv := H'.given
    have hgl := h.glen
    walk_at "mm"
    refine te_comp G.ok (.tmp N') (CompOk.of henv (by kernel_rfl)) (ti_list G.ok ?_)
    walk_at "mm"
    refine ⟨by simp only [Src.items, bufMap, List.length_map]; walk_at "om", gs.map (fun (x : Nat) => (.int (x : Int), some (ov (s.weakGet x)))), by simp [Src.items, bufMap, Function.comp_def], ?_, R'.tmp (Nat.le_refl _), ?_⟩
    · intro z hz cenv hc
      rw [henv] at hc
      obtain ⟨x, hx, rfl⟩ := List.mem_map.mp hz
      refine tf_nil ⟨rfl, rfl, fun y hy => ?_⟩
      cases hy
      walk_at "mm"
      exact c_weak_get G R' x ⟨rfl, rfl⟩
    · have e1 : (gs.map (fun (x : Nat) => (V.int (x : Int), some (ov (s.weakGet x))))).filterMap (·.2) = (gs.map s.weakGet).map ov := by simp [List.filterMap_map, Function.comp_def]
      rw [e1]
      have R1 : Rep s (N' + 1) (st'.set (.tmp N') (.list ((gs.map s.weakGet).map ov))) := R'.tmpset
      have h1 : (st'.set (.tmp N') (.list ((gs.map s.weakGet).map ov))) (.tmp N') = some (.list ((gs.map s.weakGet).map ov)) := St.set_same
      have H1 := H'.keep (Keep.set_tmp (N := N) (k := N') (o := .list ((gs.map s.weakGet).map ov)) (by walk_at "om"))
      have K1 : KeepT N st (st'.set (.tmp N') (.list ((gs.map s.weakGet).map ov))) := K'.trans (M := N) (Keep.set_tmp (by walk_at "om")).toT (Nat.le_refl _)
      generalize (st'.set (.tmp N') (.list ((gs.map s.weakGet).map ov))) = st1 at R1 h1 H1 K1
      have hgv1 := H1.given
      walk_at "mm"
      refine te_comp G.ok (.tmp (N' + 1)) (CompOk.of henv (by kernel_rfl)) (ti_list G.ok ?_)
      walk_at "mm"
      obtain ⟨epc, hcs⟩ := R1.cells
      refine ⟨by simp only [Src.items, bufMap, List.length_map]; walk_at "om", gs.map (fun (x : Nat) => (.int (x : Int), some (ov (s.weakGet x)))), by simp [Src.items, bufMap, Function.comp_def], ?_, R1.tmp (Nat.le_refl _), ?_⟩
      · intro z hz cenv hc
        rw [henv] at hc
        obtain ⟨x, hx, rfl⟩ := List.mem_map.mp hz
        refine tf_nil ⟨rfl, rfl, fun y hy => ?_⟩
        cases hy
        have hw := h.gw x hx
        walk_at "mm"
        refine op_in G.ok (i := (x : Int)) hcs ?_
        by_cases hxm : x ∈ s.ids
        · rw [dget_cell hxm]
          refine ⟨_, rfl, ?_⟩
          have e9 : s.weakGet x = some (.cell x) := by unfold S.weakGet; rw [if_pos hxm, if_pos (hw hxm)]
          rw [e9]
          walk_at "mm"
          exact ⟨rfl, rfl⟩
        · have e8 : dget (cellMap s.ids) (x : Int) = none := by rw [dget_cells, if_neg fun z => hxm (by simpa using z.2)]
          rw [e8]
          refine ⟨_, rfl, ?_⟩
          have e9 : s.weakGet x = none := by unfold S.weakGet; rw [if_neg hxm]
          rw [e9]
          walk_at "mm"
          exact ⟨rfl, rfl⟩
      · rw [e1]
        have R2 : Rep s (N' + 2) (st1.set (.tmp (N' + 1)) (.list ((gs.map s.weakGet).map ov))) := R1.tmpset
        have h2 : (st1.set (.tmp (N' + 1)) (.list ((gs.map s.weakGet).map ov))) (.tmp (N' + 1)) = some (.list ((gs.map s.weakGet).map ov)) := St.set_same
        have h2' : (st1.set (.tmp (N' + 1)) (.list ((gs.map s.weakGet).map ov))) (.tmp N') = some (.list ((gs.map s.weakGet).map ov)) := St.get_ne h1
        have H2 := H1.keep (Keep.set_tmp (N := N) (k := N' + 1) (o := .list ((gs.map s.weakGet).map ov)) (by walk_at "om"))
        have K2 : KeepT N st (st1.set (.tmp (N' + 1)) (.list ((gs.map s.weakGet).map ov))) := K1.trans (M := N) (Keep.set_tmp (by walk_at "om")).toT (Nat.le_refl _)
        generalize (st1.set (.tmp (N' + 1)) (.list ((gs.map s.weakGet).map ov))) = st2 at R2 h2 h2' H2 K2
        refine d_ovsne h2' h2 ⟨_, rfl, ?_⟩
        walk_at "mm"
        refine c_counts_right G R2 w ok.ndd ok.alive (fun k hk => ?_) fun N2 st3 hN2 R3 K3 => ?_
        · have := ok.cnt k hk
          rw [this]
          show ((lsum s.allHeld (one k) : Nat) : Int) + 0 = _
          rw [lsum_one]; simp
        · walk_at "mm"
          exact q N2 st3 (H2.keep (K3.le (M := N) (by walk_at "om"))) (by walk_at "om") R3 (K2.trans (M := N) (K3.le (M := N) (by walk_at "om")).toT (Nat.le_refl _))
end
end
section
/-! ## the law's collection -/
section
variable {s s' : S} {l g : Nat} {B : Nat → List (Int × Val)} {gs : List Nat}
theorem LP.lost (h : LP l g s B gs) (hc : Calm s') (ho : s'.okeys) (L : Lost s s') : LQ l g s' B gs where
  calm := hc
  okeys := ho
  last := by rw [L.last]; exact h.q.last
  tab := fun i hi => by rw [L.tab i hi, h.same i hi]
  bpos := h.q.bpos
  bnd := h.q.bnd
  gle := fun x hx => by rw [L.last]; exact h.q.gle x hx
  glen := h.q.glen
  gw := fun x hx hm => by rw [L.weak]; exact h.q.gw x hx (L.ids x hm)
end
section
variable {W : Wd} {n : Nat} {st : St} {Q : V → St → Prop} {s : S} {N : Nat} {l g : Nat} {B : Nat → List (Int × Val)} {gs : List Nat}
theorem d_niles {r r' : Role} (hr : st r = some (.list [])) (hr' : st r' = some (.list [])) (q : Q (.bool true) st) : OP W n VR (op2 (compareOp .Eq)) [.ref r, .ref r'] Q st := by
  refine op_deq (.list (xs := []) (ds := []) hr rfl) (.list (xs := []) (ds := []) hr' rfl) rfl rfl (by simp [PyData.depth, PyData.depthAll]) ?_
  have : PyData.eqv (.list []) (.list []) = true := by with_unfolding_all rfl
  rw [this]; exact q
theorem c_law_collected (G : Gd W) (R : Rep s N st) (H : LR B gs st) (h : LP l g s B gs) (hl : l ≤ 60) (hg : g ≤ 1000)
    (q : ∀ s' N' st', LP l g s' s'.tab gs → (∀ n ∈ s'.ids, Reach s' n) → s'.vars = s.vars → LR s'.tab gs st' → N ≤ N' → Rep s' N' st' → KeepT N st st' → Q (.bool true) st') :
    CallOK W (n + 13) "_law_collected" [.ref .heap, .ref .ltabs, .ref .lbooks, .ref .given] Q st := by
  refine fn_intro G.ok G.fns (mem_rec (i := 74) rfl (by kernel_rfl)) (ps := ["heap", "tables", "books", "given_out"]) (fun pm code doc ws h => by obtain ⟨a, b, c, d, rfl⟩ := len4 h; kernel_rfl) (by decide) (by kernel_rfl) rfl rfl rfl ?_
  intro env henv
  have ok := h.q.calm.ok
  have hlast := h.q.last
  have hidz := ids_le ok (by walk_at "om")
  walk_at "mm"
  refine c_law_reached G R H h hl fun ks N1 j st1 hks hkn hkp hj hj1 R1 K1 hr1 => ?_
  obtain ⟨epc, hcs⟩ := R1.cells
  have hkz : ks.length ≤ 60 := by
    have := len_sub ks s.ids hkn fun x hx => ((hks x).mp hx).1
    walk_at "om"
  refine ts_cons (tx_name (.inl (kof henv rfl)) ?_)
  refine te_bfun (v := .builtin "len") G.ok (G.bi "len" (by decide +kernel)) (kof henv rfl) (by decide +kernel) ?_
  walk_at "mm"
  refine op_lend G.ok hcs (by unfold cellMap; rw [List.length_map]; walk_at "om") ?_
  walk_at "mm"
  refine c_collect G R1 h.q.calm h.q.okeys (by walk_at "om") fun s2 N2 st2 hT hb2 hN2 R2 K2 => ?_
  have hr2 := (K2.tmp (k := j) hj1).trans hr1
  have hperm : s2.ids.Perm ks := (List.perm_ext_iff_of_nodup hT.calm.ok.nodup hkn).mpr fun a => (hT.ids a).trans (hks a).symm
  walk_at "mm"
  refine te_bfun (v := .builtin "len") G.ok (G.bi "len" (by decide +kernel)) (kof henv rfl) (by decide +kernel) ?_
  walk_at "mm"
  refine op_lenl hr2 (by unfold bufMap; rw [List.length_map]; walk_at "om") ?_
  have f1 := ok.frd
  have f2 := hT.calm.ok.frd
  have f3 := hT.lost.last
  have f4 := hperm.length_eq
  have e1 : (!decide (((s2.freed : Int) - s.freed) = (((cellMap s.ids).length : Nat) : Int) - (((bufMap ks).length : Nat) : Int))) = false := by
    unfold cellMap bufMap
    rw [List.length_map, List.length_map]
    simp only [Bool.not_eq_false', decide_eq_true_eq]
    walk_at "om"
  walk_at "mm"
  obtain ⟨epc2, hcs2⟩ := R2.cells
  have hidz2 := ids_le hT.calm.ok (by walk_at "om")
  refine te_bfun (v := .builtin "sorted") G.ok (G.bi "sorted" (by decide +kernel)) (kof henv rfl) (by decide +kernel) ?_
  walk_at "mm"
  refine op_sortd G.ok hcs2 (R2.tmp (Nat.le_refl _)) (by unfold cellMap; rw [List.length_map]; walk_at "om") fun ns hp hso => ?_
  have e2 : (cellMap s2.ids).map (·.1) = s2.ids.map fun (k : Nat) => (k : Int) := by simp [cellMap]
  rw [e2] at hp
  obtain ⟨ks2, rfl, hp2⟩ := nat_perm hp
  have hks2 : ks2 = ks := List.Perm.eq_of_pairwise (le := fun a b : Nat => a ≤ b) (fun a b _ _ h1 h2 => Nat.le_antisymm h1 h2) ((List.pairwise_map.mp hso).imp fun h => Int.ofNat_le.mp h) hkp (hp2.trans hperm)
  subst hks2
  have R3 : Rep s2 (N2 + 1) (st2.set (.tmp N2) (.list ((ks2.map fun (k : Nat) => (k : Int)).map V.int))) := R2.tmpset
  have K3 : Keep N1 st1 (st2.set (.tmp N2) (.list ((ks2.map fun (k : Nat) => (k : Int)).map V.int))) := K2.trans (Keep.set_tmp (by walk_at "om")) (Nat.le_refl _)
  have h3 : (st2.set (.tmp N2) (.list ((ks2.map fun (k : Nat) => (k : Int)).map V.int))) (.tmp N2) = some (.list ((ks2.map fun (k : Nat) => (k : Int)).map V.int)) := St.set_same
  have h3' : (st2.set (.tmp N2) (.list ((ks2.map fun (k : Nat) => (k : Int)).map V.int))) (.tmp j) = some (.list ((ks2.map fun (k : Nat) => (k : Int)).map V.int)) := by rw [← bufMap_int]; exact St.get_ne hr2
  generalize (st2.set (.tmp N2) (.list ((ks2.map fun (k : Nat) => (k : Int)).map V.int))) = st3 at R3 K3 h3 h3'
  walk_at "mm"
  refine d_intsne h3 h3' ⟨_, rfl, ?_⟩
  have H3 : LR B gs st3 := (H.keep K1).keep K3
  have hq := h.lost hT.calm hT.okeys hT.lost
  walk_at "mm"
  refine c_law_are_same G R3 H3 hq hl hg fun N4 st4 H4 hN4 R4 K4 => ?_
  have hb4 := R4.buffer
  rw [hb2] at hb4
  walk_at "mm"
  refine te_list G.ok (.tmp N4) ?_
  walk_at "mm"
  refine ⟨R4.tmp (Nat.le_refl _), ?_⟩
  have R5 : Rep s2 (N4 + 1) (st4.set (.tmp N4) (.list [])) := R4.tmpset
  have hb5 : (st4.set (.tmp N4) (.list [])) (.buf s2.bk) = some (.list []) := St.get_ne hb4
  refine d_niles hb5 St.set_same ?_
  refine q s2 (N4 + 1) _ (hq.same hl) hT.live hT.lost.vars (H4.keep (Keep.set_tmp (N := N) (by walk_at "om"))) (by walk_at "om") R5 ?_
  exact ((K1.toT.trans (M := N) (K3.le (M := N) (by walk_at "om")).toT (Nat.le_refl _)).trans (M := N) (fun k hk => K4 k (by walk_at "om")) (Nat.le_refl _)).trans (M := N) (Keep.set_tmp (by walk_at "om")).toT (Nat.le_refl _)
end
end
section
/-! ## the law's start -/
section
variable {W : Wd} {n : Nat} {st : St} {Q : V → St → Prop} {s : S} {N : Nat}
theorem c_new_table (G : Gd W) {fs : List (Str × V)} {xs : List V} {i : Nat} (hh : st .heap = some (.inst "Counted" fs)) (ht : lk fs "tables" = some (.ref .tabs)) (hx : st .tabs = some (.list xs)) (hz : xs.length ≤ 10) (h1 : st (.tab i) = none) (h2 : st (.ent i) = none)
    (q : ∀ st' fs', st' (.tab i) = some (.inst "WeakTable" fs') → lk fs' "entries" = some (.ref (.ent i)) → st' (.ent i) = some (.dict [] 0) → st' .tabs = some (.list (xs ++ [.ref (.tab i)])) → (∀ r, r ≠ .tab i → r ≠ .ent i → r ≠ .tabs → st' r = st r) → Q (.ref (.tab i)) st') : CallOK W (n + 3) "new_table" [.ref .heap] Q st := by
  refine fn_intro G.ok G.fns (mem_rec (i := 49) rfl (by kernel_rfl)) (ps := ["heap"]) (fun pm code doc ws h => by obtain ⟨a, rfl⟩ := len1 h; kernel_rfl) (by decide) (by kernel_rfl) rfl rfl rfl ?_
  intro env henv
  refine ts_cons (tx_name (.inl (kof henv rfl)) ?_)
  refine te_new G.ok (.tab i) (ps := ["self", "number"]) (G.newc 45 _ _ _ _ rfl rfl) (kof henv rfl) (by decide) (by kernel_rfl) rfl rfl rfl (fun name doc pm an cdv ct ws h => by obtain ⟨a, b, rfl⟩ := len2 h; kernel_rfl) ?_
  refine ta_cons ?_
  refine te_bfun (v := .builtin "len") G.ok (G.bi "len" (by decide +kernel)) (kof henv rfl) (by decide +kernel) ?_
  walk_at "mm"
  refine op_attr G.ok G.counted hh ht (by decide) ?_
  walk_at "mm"
  refine op_lenl hx (by walk_at "om") ?_
  walk_at "mm"
  refine ⟨h1, rfl, fun env' henv' => ?_⟩
  have c0 : (st.set (.tab i) (.inst "WeakTable" [])) (.tab i) = some (.inst "WeakTable" []) := St.set_same
  have c1 : ∀ r, r ≠ .tab i → (st.set (.tab i) (.inst "WeakTable" [])) r = st r := fun r h => St.set_ne h
  generalize (st.set (.tab i) (.inst "WeakTable" [])) = st1 at c0 c1
  walk_at "mm"
  refine op_setattr G.ok G.table c0 (by decide) (by decide) ?_
  have d0 : (st1.set (.tab i) (.inst "WeakTable" (setF [] "number" (.int xs.length)))) (.tab i) = some (.inst "WeakTable" (setF [] "number" (.int xs.length))) := St.set_same
  have d1 : ∀ r, r ≠ .tab i → (st1.set (.tab i) (.inst "WeakTable" (setF [] "number" (.int xs.length)))) r = st r := fun r h => (St.set_ne h).trans (c1 r h)
  generalize (st1.set (.tab i) (.inst "WeakTable" (setF [] "number" (.int xs.length)))) = st2 at d0 d1
  walk_at "mm"
  refine te_dict G.ok (.ent i) ((d1 (.ent i) fun h => by cases h).trans h2) ?_
  walk_at "mm"
  refine op_setattr G.ok G.table (St.get_ne d0) (by decide) (by repeat first | refine setF_go0 ?_ | refine setF_go ?_ | decide) ?_
  walk_at "mm"
  refine op_attr G.ok G.counted (fs := fs) (r := .heap) (St.get_ne (St.get_ne ((d1 .heap fun h => by cases h).trans hh))) ht (by decide) ?_
  have e2 : ((st2.set (.ent i) (.dict [] 0)).set (.tab i) (.inst "WeakTable" (setF (setF [] "number" (.int xs.length)) "entries" (.ref (.ent i))))) .tabs = some (.list xs) := St.get_ne (St.get_ne ((d1 .tabs fun h => by cases h).trans hx))
  have e0 : ((st2.set (.ent i) (.dict [] 0)).set (.tab i) (.inst "WeakTable" (setF (setF [] "number" (.int xs.length)) "entries" (.ref (.ent i))))) (.tab i) = some (.inst "WeakTable" (setF (setF [] "number" (.int xs.length)) "entries" (.ref (.ent i)))) := St.set_same
  have e1 : ((st2.set (.ent i) (.dict [] 0)).set (.tab i) (.inst "WeakTable" (setF (setF [] "number" (.int xs.length)) "entries" (.ref (.ent i))))) (.ent i) = some (.dict [] 0) := St.get_ne St.set_same
  have e3 : ∀ r, r ≠ .tab i → r ≠ .ent i → ((st2.set (.ent i) (.dict [] 0)).set (.tab i) (.inst "WeakTable" (setF (setF [] "number" (.int xs.length)) "entries" (.ref (.ent i))))) r = st r := fun r h1 h2 => (St.set_ne h1).trans ((St.set_ne h2).trans (d1 r h1))
  generalize ((st2.set (.ent i) (.dict [] 0)).set (.tab i) (.inst "WeakTable" (setF (setF [] "number" (.int xs.length)) "entries" (.ref (.ent i))))) = st3 at e0 e1 e2 e3
  walk_at "mm"
  refine ⟨_, e2, by walk_at "om", ?_⟩
  walk_at "mm"
  exact q _ _ (St.get_ne e0) lk_same (St.get_ne e1) St.set_same fun r h1 h2 h3 => (St.set_ne h3).trans (e3 r h1 h2)
theorem counted_new (G : Gd W) {env : Env} {ρ : Loc} {p pos : Pos} {sc : Scope} {args : List Expr} (hsc : env.scope = sc) (hk : sc.names.lookup ("Counted" : Str) = some .globalImplicit) {QV : V → St → Prop}
    (h : TA W (n + 2) args pos env ρ (fun vs st' => vs = [.int 1000] ∧ (∃ xs, st' (.tmp 0) = some (.list xs)) ∧ (∀ r, r ≠ .tmp 0 → st' r = none) ∧
      ∀ st'' fs, st'' .heap = some (.inst "Counted" fs) → HeapF 0 0 0 fs → st'' .cells = some (.dict [] 0) → st'' .vars = some (.dict [] 0) → st'' .log = some (.list []) → st'' (.buf 0) = some (.list []) → st'' .tabs = some (.list []) → st'' (.tmp 0) = st' (.tmp 0) →
        (∀ r, r ≠ .tmp 0 → r ≠ .heap → r ≠ .cells → r ≠ .vars → r ≠ .log → r ≠ .buf 0 → r ≠ .plan → r ≠ .tabs → st'' r = none) → QV (.ref .heap) st'') st)
    (he : PlainArgs env args := by first | exact trivial | rfl) (hp : (backTo pos (starEach args env)).any (·.1) = false := by rfl) :
    TE W (n + 2) (.Call (.Name "Counted" p) args [] pos) env ρ QV st := by
  refine te_new G.ok .heap (ps := ["self", "full"]) (G.newc 5 _ _ _ _ rfl rfl) (kof hsc hk) (by decide) (by kernel_rfl) rfl rfl rfl (fun name doc pm an cdv ct ws h => by obtain ⟨a, b, rfl⟩ := len2 h; kernel_rfl) ?_ (he := he) (hp := hp)
  refine T.imp h fun vs st1 ⟨e, ⟨xs, ht⟩, hn, q⟩ => ?_
  subst e
  refine ⟨hn _ (fun h => by cases h), rfl, fun env' henv' => ?_⟩
  have n0 : ∀ r, r ≠ .tmp 0 → st1 r = none := hn
  walk_at "mm"
  refine te_dict G.ok .cells (by repeat (first | exact n0 _ (fun h => by cases h) | refine St.get_ne ?_)) ?_
  walk_at "mm"
  refine op_setattr G.ok G.counted (by first | exact St.set_same | exact St.get_ne St.set_same) (by decide) (by repeat first | refine setF_go0 ?_ | refine setF_go ?_ | decide) ?_
  walk_at "mm"
  refine te_dict G.ok .vars (by repeat (first | exact n0 _ (fun h => by cases h) | refine St.get_ne ?_)) ?_
  walk_at "mm"
  refine op_setattr G.ok G.counted (by first | exact St.set_same | exact St.get_ne St.set_same) (by decide) (by repeat first | refine setF_go0 ?_ | refine setF_go ?_ | decide) ?_
  walk_at "mm"
  refine te_list G.ok .log ?_
  walk_at "mm"
  refine ⟨(by repeat (first | exact n0 _ (fun h => by cases h) | refine St.get_ne ?_)), ?_⟩
  walk_at "mm"
  refine op_setattr G.ok G.counted (by first | exact St.set_same | exact St.get_ne St.set_same) (by decide) (by repeat first | refine setF_go0 ?_ | refine setF_go ?_ | decide) ?_
  walk_at "mm"
  refine op_setattr G.ok G.counted (by first | exact St.set_same | exact St.get_ne St.set_same) (by decide) (by repeat first | refine setF_go0 ?_ | refine setF_go ?_ | decide) ?_
  walk_at "mm"
  refine te_list G.ok (.buf 0) ?_
  walk_at "mm"
  refine ⟨(by repeat (first | exact n0 _ (fun h => by cases h) | refine St.get_ne ?_)), ?_⟩
  walk_at "mm"
  refine op_setattr G.ok G.counted (by first | exact St.set_same | exact St.get_ne St.set_same) (by decide) (by repeat first | refine setF_go0 ?_ | refine setF_go ?_ | decide) ?_
  walk_at "mm"
  refine op_setattr G.ok G.counted (by first | exact St.set_same | exact St.get_ne St.set_same) (by decide) (by repeat first | refine setF_go0 ?_ | refine setF_go ?_ | decide) ?_
  walk_at "mm"
  refine op_setattr G.ok G.counted (by first | exact St.set_same | exact St.get_ne St.set_same) (by decide) (by repeat first | refine setF_go0 ?_ | refine setF_go ?_ | decide) ?_
  walk_at "mm"
  refine te_dict G.ok .plan (by repeat (first | exact n0 _ (fun h => by cases h) | refine St.get_ne ?_)) ?_
  walk_at "mm"
  refine op_setattr G.ok G.counted (by first | exact St.set_same | exact St.get_ne St.set_same) (by decide) (by repeat first | refine setF_go0 ?_ | refine setF_go ?_ | decide) ?_
  walk_at "mm"
  refine te_list G.ok .tabs ?_
  walk_at "mm"
  refine ⟨(by repeat (first | exact n0 _ (fun h => by cases h) | refine St.get_ne ?_)), ?_⟩
  walk_at "mm"
  refine op_setattr G.ok G.counted (by first | exact St.set_same | exact St.get_ne St.set_same) (by decide) (by repeat first | refine setF_go0 ?_ | refine setF_go ?_ | decide) ?_
  walk_at "mm"
  refine q _ _ St.set_same ⟨(by repeat first | refine setF_go0 ?_ | refine setF_go ?_ | decide), (by repeat first | ((with_reducible refine lk_same' ?_); rfl) | ((with_reducible refine lk_set ?_ ?_); decide)), (by repeat first | ((with_reducible refine lk_same' ?_); rfl) | ((with_reducible refine lk_set ?_ ?_); decide)), (by repeat first | ((with_reducible refine lk_same' ?_); rfl) | ((with_reducible refine lk_set ?_ ?_); decide)), (by repeat first | ((with_reducible refine lk_same' ?_); rfl) | ((with_reducible refine lk_set ?_ ?_); decide)), (by repeat first | ((with_reducible refine lk_same' ?_); rfl) | ((with_reducible refine lk_set ?_ ?_); decide)), (by repeat first | ((with_reducible refine lk_same' ?_); rfl) | ((with_reducible refine lk_set ?_ ?_); decide)), (by repeat first | ((with_reducible refine lk_same' ?_); rfl) | ((with_reducible refine lk_set ?_ ?_); decide))⟩ (by repeat first | exact St.set_same | refine St.get_ne ?_) (by repeat first | exact St.set_same | refine St.get_ne ?_) (by repeat first | exact St.set_same | refine St.get_ne ?_) (by repeat first | exact St.set_same | refine St.get_ne ?_) (by repeat first | exact St.set_same | refine St.get_ne ?_) (by repeat first | rfl | refine St.get_ne ?_) fun r h0 h1 h2 h3 h4 h5 h6 h7 => ?_
  simp only [St.set, h1, h2, h3, h4, h5, h6, h7, if_false]
  exact n0 r h0
end
end
section
/-! ## the start and the end -/
noncomputable def s0 : S := { ids := [], cell := fun _ => Cel.new .arr, vars := [], tab := fun _ => [], last := 0, buffer := [], bk := 0, freed := 0, logn := 0 }
theorem calm0 : Calm s0 where
  ok := { nodup := List.nodup_nil, pos := fun n hn => (by cases hn), vnd := List.nodup_nil, tnd := fun i hi => List.nodup_nil, snd := fun n hn => (by cases hn), vkey := fun e he => (by cases he), skey := fun n hn => (by cases hn), tkey := fun i hi e he => (by cases he), alive := fun k hk => (by cases hk), cnt := fun n hn => (by cases hn), rf := fun r hr => (by cases hr), bnd := List.nodup_nil, bmem := fun n => ⟨fun h => (by cases h), fun h => (by cases h.1)⟩, col := fun n hn => (by cases hn), log := Nat.le_refl _, frd := rfl }
  susp := fun C _ _ _ _ n hn => (by cases hn)
theorem LP0 : LP 0 0 s0 (fun _ => []) [] := ⟨⟨calm0, fun i hi e he => (by cases he), Nat.le_refl _, fun i hi => rfl, fun i hi e he => (by cases he), fun i hi => List.nodup_nil, fun x hx => (by cases hx), Nat.le_refl _, fun x hx => (by cases hx)⟩, fun i hi => rfl⟩
theorem rep0 {st : St} {fs f0 f1 : List (Str × V)} (h1 : st .heap = some (.inst "Counted" fs)) (h2 : HeapF 0 0 0 fs) (h3 : st .cells = some (.dict [] 0)) (h4 : st .vars = some (.dict [] 0)) (h5 : st .log = some (.list [])) (h6 : st (.buf 0) = some (.list [])) (h7 : st .tabs = some (.list [.ref (.tab 0), .ref (.tab 1)]))
    (t0 : st (.tab 0) = some (.inst "WeakTable" f0)) (g0 : lk f0 "entries" = some (.ref (.ent 0))) (t1 : st (.tab 1) = some (.inst "WeakTable" f1)) (g1 : lk f1 "entries" = some (.ref (.ent 1))) (u0 : st (.ent 0) = some (.dict [] 0)) (u1 : st (.ent 1) = some (.dict [] 0))
    (hb : ∀ j, 0 < j → st (.buf j) = none) (hc : ∀ n, st (.cell n) = none) (hs : ∀ n, st (.slots n) = none) (ht : ∀ k, 1 ≤ k → st (.tmp k) = none) : Rep s0 1 st where
  all := fun r => by
    cases r with
    | heap => exact ⟨fs, h1, h2⟩
    | cells => exact ⟨0, h3⟩
    | vars => exact ⟨0, h4⟩
    | log => exact ⟨[], h5, rfl⟩
    | tabs => exact h7
    | tab i =>
      intro hi
      have : i = 0 ∨ i = 1 := by walk_at "om"
      rcases this with rfl | rfl
      · exact ⟨f0, t0, g0⟩
      · exact ⟨f1, t1, g1⟩
    | ent i =>
      intro hi
      have : i = 0 ∨ i = 1 := by walk_at "om"
      rcases this with rfl | rfl
      · exact ⟨0, u0⟩
      · exact ⟨0, u1⟩
    | buf j =>
      refine ⟨fun h => ?_, fun h => hb j h⟩
      have : j = 0 := h
      subst this; exact h6
    | cell n => exact ⟨fun h => (by cases h), fun _ => hc n⟩
    | slots n => exact ⟨fun h => (by cases h), fun _ => hs n⟩
    | tmp k => exact fun h => ht k h
    | _ => trivial
  range := fun n hn => by cases hn
  nodup := List.nodup_nil
section
variable {s s' : S} {l g : Nat} {B : Nat → List (Int × Val)} {gs : List Nat}
theorem LQ.unset (h : LQ l g s B gs) {a : Int} (af : After (s.change (.unset a)).1 s') : LQ l g s' B gs ∧ s'.vars = ddel s.vars a := by
  refine ⟨⟨af.calm, af.okeys, by rw [af.lost.last]; exact h.last, fun i hi => ?_, h.bpos, h.bnd, fun x hx => by rw [af.lost.last]; exact h.gle x hx, h.glen, fun x hx hm => by rw [af.lost.weak]; exact h.gw x hx (af.lost.ids x hm)⟩, af.lost.vars⟩
  rw [af.lost.tab i hi]
  show (s.tab i).filter _ = _
  rw [h.tab i hi, List.filter_filter]
  apply List.filter_congr
  intro e _
  by_cases q : e.1.toNat ∈ s'.ids
  · have : e.1.toNat ∈ s.ids := af.lost.ids _ q
    simp [q, this]
  · simp [q]
theorem end_ids (ok : Ok s fun _ => 0) (hv : s.vars = []) (hr : ∀ n ∈ s.ids, Reach s n) : s.ids = [] := List.eq_nil_iff_forall_not_mem.mpr fun n hn => hr n hn (fun _ => False) (fun _ _ h => h.elim) fun e he => by rw [hv] at he; cases he
theorem end_tab (ok : Ok s fun _ => 0) (hi : s.ids = []) {i : Nat} (h2 : i < 2) : s.tab i = [] := List.eq_nil_iff_forall_not_mem.mpr fun e he => by
  obtain ⟨n, hn, _⟩ := ok.tkey i h2 e he
  rw [hi] at hn; cases hn
end
end
section
/-! ## the law -/
section
variable {W : Wd} {n : Nat} {env : Env} {ρ : Loc} {st : St} {Q : Fl → Loc → St → Prop}
theorem if_join {c : Bool} {a b : List Stmt} (M : St → Prop) (h : (if c = true then TXs W n a env ρ (fun f ρ' st' => f = .next ∧ ρ' = ρ ∧ M st') else TXs W n b env ρ (fun f ρ' st' => f = .next ∧ ρ' = ρ ∧ M st')) st) (hq : ∀ st', M st' → Q .next ρ st') : (if c = true then TXs W n a env ρ Q else TXs W n b env ρ Q) st := by
  cases c
  · rw [if_neg (by decide)] at h ⊢
    exact TS.mono h fun f ρ' st' ⟨e1, e2, m⟩ => by subst e1; subst e2; exact hq st' m
  · rw [if_pos rfl] at h ⊢
    exact TS.mono h fun f ρ' st' ⟨e1, e2, m⟩ => by subst e1; subst e2; exact hq st' m
theorem fmod_range (X : Int) {m : Int} (hm : 0 < m) : 0 ≤ X.fmod m ∧ X.fmod m < m := ⟨Int.fmod_nonneg_of_pos X hm, Int.fmod_lt_of_pos X hm⟩
end
section
variable {W : Wd}
inductive LpL (I : S → (Nat → List (Int × Val)) → List Nat → Prop) (ns : List Int) (st' : St) : Prop
  | mk (s' : S) (B' : Nat → List (Int × Val)) (gs' : List Nat) (N' : Nat) (hI : I s' B' gs') (H : LR B' gs' st') (hN : 2 ≤ N') (R : Rep s' N' st') (hs : st' (.tmp 0) = some (.list (ns.map V.int))) (ht : st' (.tmp 1) = some (.list (told.map V.int)))
inductive LpV (s2 : S) (gs' : List Nat) (j : Nat) (st' : St) : Prop
  | mk (s' : S) (N' : Nat) (hI : LQ 32 16 s' s2.tab gs') (H : LR s2.tab gs' st') (hN : 2 ≤ N') (R : Rep s' N' st') (hv : ∀ e ∈ s'.vars, (j : Int) ≤ e.1)
theorem law_run (G : Gd W) {A : Around} {s : Shared} {fa a : Addr} {vs : List Value} {ns : List Int} (hA : Room 14 A) (hm : W.mg "law" = some (.ref fa)) (hs : s.heap = W.h0) (hg : s.gens = #[]) (hos : s.os = W.os) (hl : s.heap.IsList a vs.toArray) (hi : IntsAre vs ns) (hz : vs.length ≤ 63) :
    wpAny (model W.prog W.w) A (call (.ref fa) [.ref a]) (fun v s' => v = .bool true ∧ s'.os = W.os ∧ s'.gens = #[] ∧ ∀ b o, W.h0.get? b = some o → s'.heap.get? b = some o) noE s := by
  refine top_run G.ok G.fns (n := 13) (mem_rec (i := 75) rfl (by kernel_rfl)) (fun pm code doc ws h => by obtain ⟨a, rfl⟩ := len1 h; kernel_rfl) (by kernel_rfl) rfl rfl rfl hA hm hs hg hos hl hi hz ?_
  intro env henv
  have hnl : ns.length = vs.length := by
    have := (ints_vr (k := kp0) (h := s.heap) hi).length
    simpa using this.symm
  have z0 : (St.set (fun _ => none) (.tmp 0) (.list (ns.map V.int))) (.tmp 0) = some (.list (ns.map V.int)) := St.set_same
  have z1 : ∀ r, r ≠ .tmp 0 → (St.set (fun _ => none) (.tmp 0) (.list (ns.map V.int))) r = none := fun r h => St.set_ne h
  generalize (St.set (fun _ => none) (.tmp 0) (.list (ns.map V.int))) = st0 at z0 z1
  refine ts_cons (tx_name (.inl (kof henv rfl)) ?_)
  refine counted_new (n := 11) G henv (by kernel_rfl) ?_
  walk_at "mm"
  refine ⟨rfl, ⟨_, z0⟩, z1, fun st1 fs h1 h2 h3 h4 h5 h6 h7 h8 h9 => ?_⟩
  refine ts_cons (tx_swapped (names := ["tables", "books", "given_out"]) ?_ (sw_env henv (by kernel_rfl)))
  walk_at "mm"
  refine te_list G.ok .ltabs ?_
  walk_at "mm"
  refine c_new_table (i := 0) G h1 h2.tables h7 (by decide) (h9 _ (rk rfl) (rk rfl) (rk rfl) (rk rfl) (rk rfl) (rk rfl) (rk rfl) (rk rfl)) (h9 _ (rk rfl) (rk rfl) (rk rfl) (rk rfl) (rk rfl) (rk rfl) (rk rfl) (rk rfl)) fun st2 f0 t0 g0 u0 x2 o2 => ?_
  have k2 : st2 .heap = st1 .heap := o2 _ (rk rfl) (rk rfl) (rk rfl)
  walk_at "mm"
  refine c_new_table (i := 1) G (k2.trans h1) h2.tables x2 (by decide) ((o2 (.tab 1) (by decide) (rk rfl) (rk rfl)).trans (h9 _ (rk rfl) (rk rfl) (rk rfl) (rk rfl) (rk rfl) (rk rfl) (rk rfl) (rk rfl))) ((o2 (.ent 1) (rk rfl) (by decide) (rk rfl)).trans (h9 _ (rk rfl) (rk rfl) (rk rfl) (rk rfl) (rk rfl) (rk rfl) (rk rfl) (rk rfl))) fun st3 f1 t1 g1 u1 x3 o3 => ?_
  have other : ∀ r, r ≠ .tmp 0 → r ≠ .heap → r ≠ .cells → r ≠ .vars → r ≠ .log → r ≠ .buf 0 → r ≠ .plan → r ≠ .tabs → r ≠ .tab 0 → r ≠ .ent 0 → r ≠ .tab 1 → r ≠ .ent 1 → st3 r = none := fun r a1 a2 a3 a4 a5 a6 a7 a8 a9 a10 a11 a12 => (o3 r a11 a12 a8).trans ((o2 r a9 a10 a8).trans (h9 r a1 a2 a3 a4 a5 a6 a7 a8))
  have keep3 : ∀ r, r ≠ .tabs → r ≠ .tab 0 → r ≠ .ent 0 → r ≠ .tab 1 → r ≠ .ent 1 → st3 r = st1 r := fun r a8 a9 a10 a11 a12 => (o3 r a11 a12 a8).trans (o2 r a9 a10 a8)
  have R3 : Rep s0 1 st3 := rep0 (fs := fs) (f0 := f0) (f1 := f1) ((keep3 .heap (rk rfl) (rk rfl) (rk rfl) (rk rfl) (rk rfl)).trans h1) h2 ((keep3 .cells (rk rfl) (rk rfl) (rk rfl) (rk rfl) (rk rfl)).trans h3) ((keep3 .vars (rk rfl) (rk rfl) (rk rfl) (rk rfl) (rk rfl)).trans h4) ((keep3 .log (rk rfl) (rk rfl) (rk rfl) (rk rfl) (rk rfl)).trans h5) ((keep3 (.buf 0) (rk rfl) (rk rfl) (rk rfl) (rk rfl) (rk rfl)).trans h6) x3
    ((o3 (.tab 0) (by decide) (rk rfl) (rk rfl)).trans t0) g0 t1 g1 ((o3 (.ent 0) (rk rfl) (by decide) (rk rfl)).trans u0) u1
    (fun j hj => other _ (rk rfl) (rk rfl) (rk rfl) (rk rfl) (rk rfl) (fun q => by cases q; walk_at "om") (rk rfl) (rk rfl) (rk rfl) (rk rfl) (rk rfl) (rk rfl)) (fun n => other _ (rk rfl) (rk rfl) (rk rfl) (rk rfl) (rk rfl) (rk rfl) (rk rfl) (rk rfl) (rk rfl) (rk rfl) (rk rfl) (rk rfl)) (fun n => other _ (rk rfl) (rk rfl) (rk rfl) (rk rfl) (rk rfl) (rk rfl) (rk rfl) (rk rfl) (rk rfl) (rk rfl) (rk rfl) (rk rfl))
    (fun k hk => other _ (fun q => by cases q; walk_at "om") (rk rfl) (rk rfl) (rk rfl) (rk rfl) (rk rfl) (rk rfl) (rk rfl) (rk rfl) (rk rfl) (rk rfl) (rk rfl))
  have s3 : st3 (.tmp 0) = some (.list (ns.map V.int)) := (keep3 (.tmp 0) (rk rfl) (rk rfl) (rk rfl) (rk rfl) (rk rfl)).trans (h8.trans z0)
  have m1 : st3 .ltabs = none := other _ (rk rfl) (rk rfl) (rk rfl) (rk rfl) (rk rfl) (rk rfl) (rk rfl) (rk rfl) (rk rfl) (rk rfl) (rk rfl) (rk rfl)
  have m2 : st3 .lbooks = none := other _ (rk rfl) (rk rfl) (rk rfl) (rk rfl) (rk rfl) (rk rfl) (rk rfl) (rk rfl) (rk rfl) (rk rfl) (rk rfl) (rk rfl)
  have m3 : ∀ i, st3 (.book i) = none := fun i => other _ (rk rfl) (rk rfl) (rk rfl) (rk rfl) (rk rfl) (rk rfl) (rk rfl) (rk rfl) (rk rfl) (rk rfl) (rk rfl) (rk rfl)
  have m4 : st3 .given = none := other _ (rk rfl) (rk rfl) (rk rfl) (rk rfl) (rk rfl) (rk rfl) (rk rfl) (rk rfl) (rk rfl) (rk rfl) (rk rfl) (rk rfl)
  clear other keep3 o2 o3 x2 x3 k2
  walk_at "mm"
  refine ⟨m1, ?_⟩
  walk_at "mm"
  refine te_list G.ok .lbooks ?_
  walk_at "mm"
  refine te_dict G.ok (.book 0) (St.get_ne (m3 0)) ?_
  walk_at "mm"
  refine te_dict G.ok (.book 1) (St.get_ne (St.get_ne (m3 1))) ?_
  walk_at "mm"
  refine ⟨St.get_ne (St.get_ne (St.get_ne m2)), ?_⟩
  walk_at "mm"
  refine te_list G.ok .given ?_
  walk_at "mm"
  refine ⟨St.get_ne (St.get_ne (St.get_ne (St.get_ne m4))), ?_⟩
  walk_at "mm"
  refine ⟨_, rfl, rfl, ?_⟩
  refine tts_cons (tt_bind (.inl (kof henv rfl)) (tts_cons (tt_bind (.inl (kof henv rfl)) (tts_cons (tt_bind (.inl (kof henv rfl)) (tts_nil ?_))))))
  have R4 : Rep s0 1 (((((st3.set .ltabs (.list [.ref (.tab 0), .ref (.tab 1)])).set (.book 0) (.dict [] 0)).set (.book 1) (.dict [] 0)).set .lbooks (.list [.ref (.book 0), .ref (.book 1)])).set .given (.list [])) := ((((R3.other (r := .ltabs) (Nat.le_refl 1) trivial).other (r := .book 0) (Nat.le_refl 1) trivial).other (r := .book 1) (Nat.le_refl 1) trivial).other (r := .lbooks) (Nat.le_refl 1) trivial).other (r := .given) (Nat.le_refl 1) trivial
  have H4 : LR (fun _ => []) [] (((((st3.set .ltabs (.list [.ref (.tab 0), .ref (.tab 1)])).set (.book 0) (.dict [] 0)).set (.book 1) (.dict [] 0)).set .lbooks (.list [.ref (.book 0), .ref (.book 1)])).set .given (.list [])) := ⟨St.get_ne (St.get_ne (St.get_ne (St.get_ne St.set_same))), St.get_ne St.set_same, fun i hi => by
    have : i = 0 ∨ i = 1 := by walk_at "om"
    rcases this with rfl | rfl
    · exact ⟨0, St.get_ne (St.get_ne (St.get_ne St.set_same))⟩
    · exact ⟨0, St.get_ne (St.get_ne St.set_same)⟩, St.set_same⟩
  have s4 : (((((st3.set .ltabs (.list [.ref (.tab 0), .ref (.tab 1)])).set (.book 0) (.dict [] 0)).set (.book 1) (.dict [] 0)).set .lbooks (.list [.ref (.book 0), .ref (.book 1)])).set .given (.list [])) (.tmp 0) = some (.list (ns.map V.int)) := St.get_ne (St.get_ne (St.get_ne (St.get_ne (St.get_ne s3))))
  generalize (((((st3.set .ltabs (.list [.ref (.tab 0), .ref (.tab 1)])).set (.book 0) (.dict [] 0)).set (.book 1) (.dict [] 0)).set .lbooks (.list [.ref (.book 0), .ref (.book 1)])).set .given (.list [])) = st4 at R4 H4 s4
  refine ts_cons (tx_fort G.ok (ti_enum G.ok (G.bi "enumerate" (by decide +kernel)) (kof henv rfl) (by decide +kernel) ?_))
  walk_at "mm"
  refine c_law_told G (.tmp 1) (R4.tmp (Nat.le_refl 1)) ?_
  have R5 : Rep s0 2 (st4.set (.tmp 1) (.list (told.map V.int))) := R4.tmpset
  have H5 : LR (fun _ => []) [] (st4.set (.tmp 1) (.list (told.map V.int))) := H4.keep (Keep.set_tmp (N := 1) (Nat.le_refl 1))
  have s5 : (st4.set (.tmp 1) (.list (told.map V.int))) (.tmp 0) = some (.list (ns.map V.int)) := St.get_ne s4
  have t5 : (st4.set (.tmp 1) (.list (told.map V.int))) (.tmp 1) = some (.list (told.map V.int)) := St.set_same
  generalize (st4.set (.tmp 1) (.list (told.map V.int))) = st5 at R5 H5 s5 t5
  walk_at "mm"
  refine ⟨_, _, rfl, t5, fun a b => ?_⟩
  refine ⟨fun j => LpL (LP (2 * j) j) ns, ⟨s0, _, _, 2, LP0, H5, Nat.le_refl 2, R5, s5, t5⟩, ?_, ?_⟩
  · rintro j st' x ⟨s', B', gs', N', hP, H', hN, R', hsc, htl⟩ hx
    refine ⟨htl, ?_⟩
    have hx' : ∃ t : Int, told[j]? = some t ∧ x = [.int j, .int t] := by
      simp only [TSrc.rows, List.getElem?_map, List.getElem?_zipIdx, Option.map_eq_some_iff] at hx
      obtain ⟨⟨y, i⟩, ⟨y', ⟨t, ht, hy⟩, hyi⟩, rfl⟩ := hx
      cases hyi
      exact ⟨t, ht, by rw [← hy]; simp⟩
    obtain ⟨t, ht, rfl⟩ := hx'
    have hj : j < 16 := (List.getElem?_eq_some_iff.mp ht).1
    refine tt_tuple rfl rfl ?_
    refine tts_cons (tt_name (.inl (kof henv rfl)) (tts_cons (tt_name (.inl (kof henv rfl)) (tts_nil ?_))))
    refine ts_cons (tx_name (.inl (kof henv rfl)) ?_)
    refine te_bin ?_
    refine te_local (kof henv rfl) rfl ?_
    refine T.imp (G := fun v st'' => (∃ m : Int, v = .int m) ∧ st'' = st') ?_ ?_
    · walk_at "mm"
      refine te_bfun (v := .builtin "len") G.ok (G.bi "len" (by decide +kernel)) (kof henv rfl) (by decide +kernel) ?_
      walk_at "mm"
      refine op_lenl hsc (by rw [List.length_map, hnl]; walk_at "om") ?_
      walk_at "mm"
      rw [List.length_map]
      by_cases hlen : j < ns.length
      · have e1 : decide ((j : Int) < (ns.length : Int)) = true := decide_eq_true (by walk_at "om")
        walk_at "mm"
        refine op_listitem hsc (by walk_at "om") (by walk_at "om") (x := .int ns[j]) (by simp [hlen]) ⟨⟨_, rfl⟩, rfl⟩
      · have e1 : decide ((j : Int) < (ns.length : Int)) = false := decide_eq_false (by walk_at "om")
        walk_at "mm"
        exact ⟨⟨0, rfl⟩, rfl⟩
    · rintro v st'' ⟨⟨m, rfl⟩, rfl⟩
      walk_at "mm"
      generalize t + m = X
      refine op_mod (by decide) ?_
      walk_at "mm"
      refine op_fdiv (by decide) (by decide) ?_
      walk_at "mm"
      refine op_mod (by decide) ?_
      walk_at "mm"
      refine op_fdiv (by decide) (by decide) ?_
      walk_at "mm"
      refine op_mod (by decide) ?_
      walk_at "mm"
      refine op_fdiv (by decide) (by decide) ?_
      walk_at "mm"
      refine op_mod (by decide) ?_
      walk_at "mm"
      refine op_fdiv (by decide) (by decide) ?_
      walk_at "mm"
      have b1 := fmod_range X (m := 14) (by decide)
      have b2 := fmod_range (X.fdiv 14) (m := 4) (by decide)
      have b3 := fmod_range (X.fdiv 56) (m := 4) (by decide)
      have b4 := fmod_range (X.fdiv 224) (m := 2) (by decide)
      generalize X.fmod 14 = way at b1
      generalize (X.fdiv 14).fmod 4 = va at b2
      generalize (X.fdiv 56).fmod 4 = vb at b3
      generalize (X.fdiv 224).fmod 2 = vk at b4
      generalize X.fdiv 448 = vn
      refine if_join (LpL (LQ (2 * (j + 1)) (j + 1)) ns) ?_ ?_
      · have hlast := hP.q.last
        by_cases hway : way < 10
        · refine if_t (decide_eq_true hway) ?_
          walk_at "mm"
          refine c_law_deed G ?_
          walk_at "mm"
          refine c_deed G R' hP.q.calm hP.q.okeys (d := deedOf way va vb vk vn) (deedOf_fit b2 b3 b4) (by walk_at "om") fun s2 N2 st2 A hN2 R2 K2 => ?_
          walk_at "mm"
          have L2 := hP.deed (deedOf_fit (way := way) (n := vn) b2 b3 b4) (by walk_at "om") A
          exact ⟨rfl, rfl, s2, B', gs', N2, L2.up (by walk_at "om") (by walk_at "om"), H'.keep K2, by walk_at "om", R2, (K2.tmp (by walk_at "om")).trans hsc, (K2.tmp (by walk_at "om")).trans htl⟩
        · refine if_f (decide_eq_false hway) ?_
          obtain ⟨i, rfl⟩ := Int.eq_ofNat_of_zero_le b4.1
          have hi2 : i < 2 := by walk_at "om"
          walk_at "mm"
          refine c_law_weak_right G R' H' hP (by walk_at "om") (by walk_at "om") (i := i) hi2 (by walk_at "om") fun s2 B2 gs2 N2 st2 L2 H2 hN2 R2 K2 => ?_
          walk_at "mm"
          exact ⟨rfl, rfl, s2, B2, gs2, N2, L2.up (by walk_at "om") (by walk_at "om"), H2, by walk_at "om", R2, (K2 0 (by walk_at "om")).trans hsc, (K2 1 (by walk_at "om")).trans htl⟩
      · rintro st2 ⟨s2, B2, gs2, N2, L2, H2, hN2, R2, hsc2, htl2⟩
        walk_at "mm"
        refine c_law_are_same G R2 H2 L2 (by walk_at "om") (by walk_at "om") fun N3 st3 H3 hN3 R3 K3 => ?_
        have P3 := L2.same (by walk_at "om")
        have hsc3 := (K3 0 (by walk_at "om")).trans hsc2
        have htl3 := (K3 1 (by walk_at "om")).trans htl2
        walk_at "mm"
        refine op_mod (by decide) ?_
        walk_at "mm"
        by_cases h6 : vn.fmod 6 = 5
        · refine if_t (decide_eq_true h6) ?_
          walk_at "mm"
          refine c_law_collected G R3 H3 P3 (by walk_at "om") (by walk_at "om") fun s4 N4 st4 P4 _ _ H4 hN4 R4 K4 => ?_
          walk_at "mm"
          refine ⟨?_, s4, s4.tab, gs2, N4, P4, H4, by walk_at "om", R4, (K4 0 (by walk_at "om")).trans hsc3, (K4 1 (by walk_at "om")).trans htl3⟩
          repeat (first | exact Sub.refl | refine Sub.upd rfl ?_)
        · refine if_f (decide_eq_false h6) ?_
          walk_at "mm"
          refine ⟨?_, s2, s2.tab, gs2, N3, P3, H3, by walk_at "om", R3, hsc3, htl3⟩
          repeat (first | exact Sub.refl | refine Sub.upd rfl ?_)
  · rintro st' ⟨s', B', gs', N', hP, H', hN, R', hsc, htl⟩
    refine ⟨htl, ?_⟩
    have e0 : (TSrc.enum (.tmp 1) (told.map V.int) a b).rows.length = 16 := rfl
    rw [e0] at hP
    clear e0
    walk_at "mm"
    refine c_law_collected G R' H' hP (by walk_at "om") (by walk_at "om") fun s2 N2 st2 P2 _ _ H2 hN2 R2 K2 => ?_
    walk_at "mm"
    refine tx_for0 G.ok (.inl (kof henv rfl)) (ti_range (m := 4) G.ok (by decide) (G.bi "range" (by decide +kernel)) (kof henv rfl) (by decide +kernel) ?_)
    walk_at "mm"
    refine ⟨rfl, ?_⟩
    refine ⟨LpV s2 gs', ⟨s2, N2, P2.q, H2, by walk_at "om", R2, fun e he => (P2.q.calm.ok.vkey e he).1⟩, ?_, ?_⟩
    · rintro j st3 v ⟨s3, N3, L3, H3, hN3, R3, hv3⟩ hv
      have hj : j < 4 ∧ v = .int j := by
        simp only [Src.items, List.getElem?_map, Option.map_eq_some_iff] at hv
        obtain ⟨i, hi, rfl⟩ := hv
        obtain ⟨h1, h2⟩ := List.getElem?_eq_some_iff.mp hi
        simp at h1 h2
        subst h2
        exact ⟨h1, rfl⟩
      obtain ⟨hj, rfl⟩ := hj
      refine ⟨trivial, ?_⟩
      have hlast := L3.last
      walk_at "mm"
      refine c_deed G R3 L3.calm L3.okeys (d := .unset j) trivial (by walk_at "om") fun s4 N4 st4 A hN4 R4 K4 => ?_
      obtain ⟨L4, hv4⟩ := L3.unset A
      walk_at "mm"
      refine ⟨Sub.upd rfl Sub.refl, s4, N4, L4, H3.keep K4, by walk_at "om", R4, fun e he => ?_⟩
      rw [hv4] at he
      obtain ⟨he1, he2⟩ := mem_ddel.mp he
      have := hv3 e he1
      walk_at "om"
    · rintro st3 ⟨s3, N3, L3, H3, hN3, R3, hv3⟩
      refine ⟨trivial, ?_⟩
      have hvars : s3.vars = [] := List.eq_nil_iff_forall_not_mem.mpr fun e he => by
        have h1 := hv3 e he
        have h2 := (L3.calm.ok.vkey e he).2
        have e4 : (Src.range 4).items.length = 4 := rfl
        rw [e4] at h1
        walk_at "om"
      walk_at "mm"
      refine c_law_are_same G R3 H3 L3 (by walk_at "om") (by walk_at "om") fun N4 st4 H4 hN4 R4 K4 => ?_
      walk_at "mm"
      refine c_law_collected G R4 H4 (L3.same (by walk_at "om")) (by walk_at "om") (by walk_at "om") fun s5 N5 st5 P5 hr5 hv5 H5 hN5 R5 K5 => ?_
      have hids := end_ids P5.q.calm.ok (hv5.trans hvars) hr5
      obtain ⟨epc, hcs⟩ := R5.cells
      rw [hids] at hcs
      walk_at "mm"
      refine te_dict G.ok (.tmp N5) (R5.tmp (Nat.le_refl _)) ?_
      have R6 : Rep s5 (N5 + 1) (st5.set (.tmp N5) (.dict [] 0)) := R5.tmpset
      have H6 : LR s5.tab gs' (st5.set (.tmp N5) (.dict [] 0)) := H5.keep (Keep.set_tmp (N := 1) (by walk_at "om"))
      refine op_dicteq (b := true) G.ok (St.get_ne hcs) St.set_same (fun _ => .nil) ?_
      generalize (st5.set (.tmp N5) (.dict [] 0)) = st6 at R6 H6
      have d0 := H6.book 0 (by decide)
      have d1 := H6.book 1 (by decide)
      rw [end_tab P5.q.calm.ok hids (by decide)] at d0 d1
      obtain ⟨q0, d0⟩ := d0
      obtain ⟨q1, d1⟩ := d1
      have lb := H6.lbooks
      walk_at "mm"
      refine te_list G.ok (.tmp (N5 + 3)) ?_
      walk_at "mm"
      refine te_dict G.ok (.tmp (N5 + 1)) (R6.tmp (Nat.le_refl _)) ?_
      walk_at "mm"
      refine te_dict G.ok (.tmp (N5 + 2)) (St.get_ne (R6.tmp (by walk_at "om"))) ?_
      walk_at "mm"
      refine ⟨St.get_ne (St.get_ne (R6.tmp (by walk_at "om"))), ?_⟩
      exact op_books G.ok (St.get_ne (St.get_ne (St.get_ne lb))) St.set_same (St.get_ne (St.get_ne (St.get_ne d0))) (St.get_ne (St.get_ne (St.get_ne d1))) (St.get_ne (St.get_ne St.set_same)) (St.get_ne St.set_same) (rk rfl) (rk rfl) rfl
end
end
section
/-! ## the head's facts -/
section
variable {K : Frag} {w : World} {s : Shared} {mg mb : Str → Option Value}
theorem clsAt_of {c : Str} {C : Addr} (X : K.In s.heap) (g : s.heap.Ns mainGlobals mg) (e : nsIn K mainGlobals c = some (some (.ref C))) (h : goodCls K C = true) : ClsAt ⟨pw, w, s.heap, s.os, mg, mb, K⟩ c := ⟨fun C' hC' => by
  have e1 := mg_of X g e
  have hC' : mg c = some (.ref C') := hC'
  rw [e1] at hC'
  cases hC'
  exact h⟩
theorem clsNew_of {c qual : Str} {params : Arguments} {body : List Stmt} {scope : Scope} {C fI : Addr} {oc : Value} {od : Option Addr} {osl : Array (Option Value)} {name : Str} {doc pm cdv ct : Value} {an : Option Addr}
    (X : K.In s.heap) (g : s.heap.Ns mainGlobals mg) (e : nsIn K mainGlobals c = some (some (.ref C))) (h1 : makesIn K C = true) (h2 : keepIn K (.ref C) = true)
    (h3 : findIn K (.ref C) "__init__" = some (some (.ref fI))) (h4 : typeIn K (.ref fI) = some (.type "function"))
    (h5 : K.lookup fI = some ⟨oc, od, .func (fnOf name qual params body scope .none .none doc pm an cdv ct), osl⟩) (h6 : codeIn K cdv qual = true) :
    ClsNew ⟨pw, w, s.heap, s.os, mg, mb, K⟩ c qual params body scope := ⟨C, fI, mg_of X g e, h1, h2, h3, h4, oc, od, osl, name, doc, pm, an, cdv, ct, h5, h6⟩
theorem fns_all : (fnames.all fun f => (recsOf pw).any fun d => d.name == f) = true := by decide +kernel
theorem gd_of {p : Program} {loose : List Str} {mean : ExcName → Option Value} (T : Top p loose mean mg mb s.heap) (hp : recsOf p = recsOf pw) (X : K.In s.heap)
    (c1 : ClsAt ⟨pw, w, s.heap, s.os, mg, mb, K⟩ "Counted") (c2 : ClsAt ⟨pw, w, s.heap, s.os, mg, mb, K⟩ "Cell") (c3 : ClsAt ⟨pw, w, s.heap, s.os, mg, mb, K⟩ "WeakTable")
    (n4 : ∀ c a b sc, clsInit 4 = some (c, a, b, sc) → ClsNew ⟨pw, w, s.heap, s.os, mg, mb, K⟩ c "Cell.__init__" a b sc)
    (n5 : ∀ c a b sc, clsInit 5 = some (c, a, b, sc) → ClsNew ⟨pw, w, s.heap, s.os, mg, mb, K⟩ c "Counted.__init__" a b sc)
    (n45 : ∀ c a b sc, clsInit 45 = some (c, a, b, sc) → ClsNew ⟨pw, w, s.heap, s.os, mg, mb, K⟩ c "WeakTable.__init__" a b sc)
    (b : ∀ f ∈ [("len" : Str), "sorted", "list", "reversed", "enumerate", "zip", "range"], nsIn K mainGlobals f = some none) : Gd ⟨pw, w, s.heap, s.os, mg, mb, K⟩ := by
  have fns : Wd.Fns ⟨pw, w, s.heap, s.os, mg, mb, K⟩ := ⟨fun d hd => T.fn d (hp ▸ hd)⟩
  refine ⟨⟨T.g, T.b, T.nolimit, X, T.builtins⟩, fns, fun f hf => ?_, c1, c2, c3, fun i c a b' sc hi h => ?_, fun f hf => ?_⟩
  · have hf' := List.all_eq_true.mp fns_all f (List.contains_iff_mem.mp hf)
    obtain ⟨d, hd, hn⟩ := List.any_eq_true.mp hf'
    exact fns.at_ hd (beq_iff_eq.mp hn)
  · have hi' : i = 4 ∨ i = 5 ∨ i = 45 := by simpa using hi
    rcases hi' with rfl | rfl | rfl
    · exact n4 _ _ _ _ h
    · exact n5 _ _ _ _ h
    · exact n45 _ _ _ _ h
  · exact mg_none_of X T.g (b f (List.contains_iff_mem.mp hf))
end
end
section
/-! ## the head: what the text's top leaves -/
noncomputable def hE (P : Params) (k : Str) (t : Nat) (v : Value) : DictEntry := ⟨PyData.keyHash P k, .str k t, v⟩
noncomputable def fP (i : Nat) : Option (Str × Arguments × List Stmt × Scope) := match pw.main.body[i]? with
  | some (.FunctionDef n a b _ _ _ sc _ _ _) => some (n, a, b, sc)
  | some (.ClassDef _ _ _ (.FunctionDef n a b _ _ _ sc _ _ _ :: _) _ _ _ _ _ _ _) => some (n, a, b, sc)
  | _ => none
noncomputable def fD (i : Nat) (q : Str) (g : Addr) (m c : Value) : Data := match fP i with
  | some (n, a, b, sc) => .func { name := n, qualname := q, params := a, body := .stmts b, scope := sc, globals := g, closure := [], defaults := .none, kwdefaults := .none, pyModule := m, code := c }
  | none => .plain
noncomputable def e0 : Obj := ⟨.type "tuple", none, .seq ⟨[]⟩ 0, ⟨[]⟩⟩
noncomputable def f0 : Obj := ⟨.none, none, .fields ⟨[]⟩, ⟨[]⟩⟩
noncomputable def sVs : Nat → List Str → List Value
  | _, [] => []
  | t, s :: r => .str s t :: sVs (t + 1) r
noncomputable def tS (t : Nat) (l : List Str) : Obj := ⟨.type "tuple", none, .seq ⟨sVs t l⟩ 0, ⟨[]⟩⟩
noncomputable def cD (n q : Str) (t : Nat) (line k : Int) (fl : Int) (a : Nat) (b : Bool) (x : Int) (l : List Value) (T : Nat) : Obj :=
  ⟨.type "code", none, .fields ⟨[.str n t, .str q (t + 1), .str "/claim/cut.py" (t + 2), .int line 0, .int k 0, .int 0 0, .int 0 0, .int fl 0, .ref a, .bool b, .int x 0, .ref (a + 1), .none] ++ l ++ [.int T 0, .int line 0, .str "/claim/cut.py" (T + 1)]⟩, ⟨[]⟩⟩

noncomputable def d3 (P : Params) (m : Str) (t k n : Nat) : Obj := ⟨.type "dict", none, .dict ⟨hE P "__name__" 165 (.str m t) :: [hE P "__doc__" 166 (.none), hE P "__package__" 167 (.none), hE P "__loader__" 168 (.builtin "__main__.__loader__#opaque"), hE P "__spec__" 169 (.none), hE P "__annotations__" 170 (.ref 6), hE P "__builtins__" 171 (.ref 4), hE P "__file__" 173 (.str "/claim/cut.py" 172), hE P "__cached__" 174 (.none), hE P "PhpFault" 217 (.ref 31), hE P "Misused" 233 (.ref 44), hE P "Cell" 274 (.ref 63), hE P "Counted" 311 (.ref 84), hE P "new_cell" 319 (.ref 95), hE P "cell_of" 327 (.ref 102), hE P "is_ref" 336 (.ref 109), hE P "inner" 344 (.ref 116), hE P "value_of" 352 (.ref 123), hE P "gain" 361 (.ref 130), hE P "held_by" 367 (.ref 135), hE P "replaced" 377 (.ref 142), hE P "taken_out" 385 (.ref 149), hE P "written" 395 (.ref 156), hE P "ref_in" 406 (.ref 163), hE P "in_copy" 416 (.ref 170), hE P "copied" 426 (.ref 177), hE P "has_elements" 434 (.ref 184), hE P "container" 444 (.ref 191), hE P "set_int" 453 (.ref 198), hE P "new_array" 461 (.ref 205), hE P "new_object" 471 (.ref 212), hE P "assign" 480 (.ref 219), hE P "put" 493 (.ref 226), hE P "take" 504 (.ref 233), hE P "make_ref" 513 (.ref 240), hE P "put_ref" 526 (.ref 247), hE P "unset" 534 (.ref 254), hE P "unset_at" 545 (.ref 261), hE P "change" 554 (.ref 268), hE P "suspect" 562 (.ref 275), hE P "cleared" 572 (.ref 282), hE P "free_cell" 581 (.ref 289), hE P "wants_destructor" 588 (.ref 296), hE P "begin_destructor" 598 (.ref 303), hE P "losing" 604 (.ref 308), hE P "lose" 613 (.ref 315), hE P "settle" 623 (.ref 322), hE P "release" 631 (.ref 329), hE P "do_deed" 639 (.ref 336), hE P "all_held" 645 (.ref 341), hE P "counts_right" 655 (.ref 348), hE P "WeakTable" 687 (.ref 365), hE P "object_in" 696 (.ref 376), hE P "weak_of" 705 (.ref 383), hE P "weak_get" 714 (.ref 390), hE P "new_table" 722 (.ref 397), hE P "weak_put" 735 (.ref 404), hE P "weak_read" 745 (.ref 411), hE P "weak_drop" 755 (.ref 418), hE P "weak_keys" 762 (.ref 425), hE P "children" 770 (.ref 430), hE P "mark_grey" 781 (.ref 437), hE P "scan_black" 791 (.ref 444), hE P "scan" 801 (.ref 451), hE P "gather" 813 (.ref 458), hE P "find_rings" 819 (.ref 463), hE P "run_destructors" 828 (.ref 470), hE P "still_held" 834 (.ref 475), hE P "without_held" 840 (.ref 480), hE P "free_all" 850 (.ref 487), hE P "turn" 856 (.ref 492), hE P "collect" 864 (.ref 499), hE P "_law_told" 872 (.ref 506), hE P "_law_deed" 883 (.ref 513), hE P "_law_object" 892 (.ref 520), hE P "_law_weak_right" 910 (.ref 527), hE P "_law_reached" 916 (.ref 532), hE P "_law_are_same" 922 (.ref 537), hE P "_law_collected" 934 (.ref 544), hE P "law" 954 (.ref 551)].take k⟩ n, ⟨[]⟩⟩
noncomputable def d12 (k : Nat) : Obj := ⟨.none, none, .fields ⟨([(2, 20), (7, 40), (10, 52), (20, 73), (32, 94), (36, 101), (38, 108), (41, 115), (43, 122), (45, 129), (50, 134), (55, 141), (59, 148), (61, 155), (65, 162), (73, 169), (78, 176), (84, 183), (86, 190), (92, 197), (94, 204), (96, 211), (100, 218), (102, 225), (108, 232), (113, 239), (115, 246), (121, 253), (123, 260), (128, 267), (150, 274), (156, 281), (161, 288), (174, 295), (176, 302), (184, 307), (186, 314), (197, 321), (204, 328), (206, 335), (208, 340), (218, 347), (232, 354), (237, 375), (240, 382), (246, 389), (249, 396), (253, 403), (263, 410), (266, 417), (272, 424), (275, 429), (277, 436), (286, 443), (295, 450), (305, 457), (317, 462), (327, 469), (334, 474), (351, 479), (355, 486), (360, 491), (367, 498), (373, 505), (375, 512), (385, 519), (388, 526), (406, 531), (415, 536), (426, 543), (432, 550)].take k).flatMap fun (p : Int × Nat) => [.int p.1 0, .int 0 0, .ref p.2]⟩, ⟨[]⟩⟩
noncomputable def d2 (P : Params) : Obj := ⟨.none, none, .dict ⟨[hE P "type.__subclasses__.Exception.0" 214 (.int 31 0), hE P "type.__subclasses__.Exception.n" 215 (.int 1 0)]⟩ 2, ⟨[]⟩⟩
noncomputable def chunks (P : Params) : List (Nat × List Obj) := [(11, [boot_o_0 P, boot_o_1 P, d2 P, d3 P "law_pf0213_01" 865 79 80, boot_o_4 P, boot_o_5 P, boot_o_6 P, boot_o_7 P, boot_o_8 P, boot_o_9 P, boot_o_10 P]),
  (25, [e0, d12 71, cD "<module>" "<module>" 182 1 0 0 11 false 181 [.none, .none, .none] 185, ⟨.type "frame", none, .plain, ⟨[some (.ref 13), some (.ref 3), some (.ref 3), none, some (.str "__main__" 164), none, some (.ref 0)]⟩⟩, ⟨.type "tuple", none, .seq ⟨[.type "Exception"]⟩ 0, ⟨[]⟩⟩, ⟨.type "builtin_function_or_method", none, .fields ⟨[.builtin "type.__prepare__", .type "type"]⟩, ⟨[]⟩⟩, ⟨.type "dict", none, .dict ⟨[hE P "__module__" 196 (.str "phpcore.faults" 187), hE P "__qualname__" 198 (.str "PhpFault" 197), hE P "__firstlineno__" 200 (.int 2 199), hE P "__init__" 208 (.ref 28), hE P "__static_attributes__" 210 (.ref 29)]⟩ 5, ⟨[]⟩⟩, e0, ⟨.none, none, .fields ⟨[.int 4 0, .int 4 0, .ref 27]⟩, ⟨[]⟩⟩, cD "PhpFault" "PhpFault" 191 2 0 0 18 false 181 [.none, .none, .none] 194, ⟨.type "frame", none, .plain, ⟨[some (.ref 20), some (.ref 3), some (.ref 17), none, some (.str "phpcore.faults" 187), none, some (.ref 0)]⟩⟩, e0, f0, tS 204 ["self", "why"]]),
  (39, [e0, ⟨.none, none, fD 1 "PhpFault.__init__" 0 (.none) (.none), ⟨[]⟩⟩, cD "__init__" "PhpFault.__init__" 201 4 2 3 22 true 181 [.ref 24, .ref 25, .ref 26] 206, ⟨.type "function", none, fD 1 "PhpFault.__init__" 3 (.str "phpcore.faults" 187) (.ref 27), ⟨[]⟩⟩, tS 209 ["why"], ⟨.type "dict", none, .dict ⟨[hE P "__module__" 196 (.str "phpcore.faults" 187), hE P "__firstlineno__" 200 (.int 2 199), hE P "__init__" 208 (.ref 28), hE P "__static_attributes__" 210 (.ref 29), hE P "__weakref__" 212 (.ref 32), hE P "__doc__" 213 (.none)]⟩ 3, ⟨[]⟩⟩, ⟨.type "type", none, .cls { name := "PhpFault", bases := [.type "Exception"], mro := [.ref 31, .type "Exception", .type "BaseException", .type "object"], ns := 30, qualname := "PhpFault", subclasses := [.ref 44] }, ⟨[some (.ref 15), none, some (.str "PhpFault" 189), some (.str "PhpFault" 197), some (.builtin "Exception.__new__"), some (.bool true)]⟩⟩, ⟨.type "getset_descriptor", none, .fields ⟨[.str "__weakref__" 211, .ref 31, .builtin "ExceptionGroup.__weakref__", .none]⟩, ⟨[]⟩⟩, ⟨.type "super", none, .fields ⟨[.ref 31, .ref 31, .ref 31]⟩, ⟨[]⟩⟩, ⟨.type "builtin_function_or_method", none, .fields ⟨[.builtin "object.__init_subclass__", .ref 31]⟩, ⟨[]⟩⟩, ⟨.type "tuple", none, .seq ⟨[.ref 31]⟩ 0, ⟨[]⟩⟩, ⟨.type "builtin_function_or_method", none, .fields ⟨[.builtin "type.__prepare__", .type "type"]⟩, ⟨[]⟩⟩, ⟨.type "dict", none, .dict ⟨[hE P "__module__" 225 (.str "phpcore.faults" 187), hE P "__qualname__" 227 (.str "Misused" 226), hE P "__firstlineno__" 229 (.int 7 228), hE P "__static_attributes__" 230 (.ref 42)]⟩ 4, ⟨[]⟩⟩, e0]),
  (53, [f0, cD "Misused" "Misused" 220 7 0 0 38 false 181 [.none, .none, .none] 223, ⟨.type "frame", none, .plain, ⟨[some (.ref 40), some (.ref 3), some (.ref 37), none, some (.str "phpcore.faults" 187), none, some (.ref 0)]⟩⟩, e0, ⟨.type "dict", none, .dict ⟨[hE P "__module__" 225 (.str "phpcore.faults" 187), hE P "__firstlineno__" 229 (.int 7 228), hE P "__static_attributes__" 230 (.ref 42), hE P "__doc__" 231 (.none)]⟩ 2, ⟨[]⟩⟩, ⟨.type "type", none, .cls { name := "Misused", bases := [.ref 31], mro := [.ref 44, .ref 31, .type "Exception", .type "BaseException", .type "object"], ns := 43, qualname := "Misused", subclasses := [] }, ⟨[some (.ref 35), none, some (.str "Misused" 218), some (.str "Misused" 226), some (.builtin "Exception.__new__"), some (.bool true)]⟩⟩, ⟨.type "super", none, .fields ⟨[.ref 44, .ref 44, .ref 44]⟩, ⟨[]⟩⟩, ⟨.type "builtin_function_or_method", none, .fields ⟨[.builtin "object.__init_subclass__", .ref 44]⟩, ⟨[]⟩⟩, e0, ⟨.type "builtin_function_or_method", none, .fields ⟨[.builtin "type.__prepare__", .type "type"]⟩, ⟨[]⟩⟩, ⟨.type "dict", none, .dict ⟨[hE P "__module__" 243 (.str "phpcore.counted" 234), hE P "__qualname__" 245 (.str "Cell" 244), hE P "__firstlineno__" 247 (.int 10 246), hE P "__init__" 256 (.ref 60), hE P "__static_attributes__" 267 (.ref 61)]⟩ 5, ⟨[]⟩⟩, e0, ⟨.none, none, .fields ⟨[.int 12 0, .int 4 0, .ref 59]⟩, ⟨[]⟩⟩, cD "Cell" "Cell" 238 10 0 0 50 false 181 [.none, .none, .none] 241]),
  (67, [⟨.type "frame", none, .plain, ⟨[some (.ref 52), some (.ref 3), some (.ref 49), none, some (.str "phpcore.counted" 234), none, some (.ref 0)]⟩⟩, e0, f0, tS 251 ["self", "sort", "number"], e0, ⟨.none, none, fD 4 "Cell.__init__" 0 (.none) (.none), ⟨[]⟩⟩, cD "__init__" "Cell.__init__" 248 12 3 3 54 true 181 [.ref 56, .ref 57, .ref 58] 254, ⟨.type "function", none, fD 4 "Cell.__init__" 3 (.str "phpcore.counted" 234) (.ref 59), ⟨[]⟩⟩, tS 257 ["colour", "count", "has_destructor", "is_buffered", "is_destructed", "is_freed", "number", "slots", "sort", "weak"], ⟨.type "dict", none, .dict ⟨[hE P "__module__" 243 (.str "phpcore.counted" 234), hE P "__firstlineno__" 247 (.int 10 246), hE P "__init__" 256 (.ref 60), hE P "__static_attributes__" 267 (.ref 61), hE P "__dict__" 269 (.ref 64), hE P "__weakref__" 271 (.ref 65), hE P "__doc__" 272 (.none)]⟩ 4, ⟨[]⟩⟩, ⟨.type "type", none, .cls { name := "Cell", bases := [.type "object"], mro := [.ref 63, .type "object"], ns := 62, qualname := "Cell", subclasses := [] }, ⟨[none, none, some (.str "Cell" 236), some (.str "Cell" 244), some (.builtin "object.__new__"), some (.bool true)]⟩⟩, ⟨.type "getset_descriptor", none, .fields ⟨[.str "__dict__" 268, .ref 63, .builtin "function.__dict__", .builtin "function.__dict__#set"]⟩, ⟨[]⟩⟩, ⟨.type "getset_descriptor", none, .fields ⟨[.str "__weakref__" 270, .ref 63, .builtin "ExceptionGroup.__weakref__", .none]⟩, ⟨[]⟩⟩, ⟨.type "super", none, .fields ⟨[.ref 63, .ref 63, .ref 63]⟩, ⟨[]⟩⟩]),
  (81, [⟨.type "builtin_function_or_method", none, .fields ⟨[.builtin "object.__init_subclass__", .ref 63]⟩, ⟨[]⟩⟩, e0, ⟨.type "builtin_function_or_method", none, .fields ⟨[.builtin "type.__prepare__", .type "type"]⟩, ⟨[]⟩⟩, ⟨.type "dict", none, .dict ⟨[hE P "__module__" 282 (.str "phpcore.counted" 234), hE P "__qualname__" 284 (.str "Counted" 283), hE P "__firstlineno__" 286 (.int 20 285), hE P "__init__" 294 (.ref 81), hE P "__static_attributes__" 304 (.ref 82)]⟩ 5, ⟨[]⟩⟩, e0, ⟨.none, none, .fields ⟨[.int 22 0, .int 4 0, .ref 80]⟩, ⟨[]⟩⟩, cD "Counted" "Counted" 277 20 0 0 71 false 181 [.none, .none, .none] 280, ⟨.type "frame", none, .plain, ⟨[some (.ref 73), some (.ref 3), some (.ref 70), none, some (.str "phpcore.counted" 234), none, some (.ref 0)]⟩⟩, e0, f0, tS 290 ["self", "full"], e0, ⟨.none, none, fD 5 "Counted.__init__" 0 (.none) (.none), ⟨[]⟩⟩, cD "__init__" "Counted.__init__" 287 22 2 3 75 true 181 [.ref 77, .ref 78, .ref 79] 292]),
  (95, [⟨.type "function", none, fD 5 "Counted.__init__" 3 (.str "phpcore.counted" 234) (.ref 80), ⟨[]⟩⟩, tS 295 ["buffer", "cells", "freed", "full", "last", "log", "plan", "tables", "vars"], ⟨.type "dict", none, .dict ⟨[hE P "__module__" 282 (.str "phpcore.counted" 234), hE P "__firstlineno__" 286 (.int 20 285), hE P "__init__" 294 (.ref 81), hE P "__static_attributes__" 304 (.ref 82), hE P "__dict__" 306 (.ref 85), hE P "__weakref__" 308 (.ref 86), hE P "__doc__" 309 (.none)]⟩ 4, ⟨[]⟩⟩, ⟨.type "type", none, .cls { name := "Counted", bases := [.type "object"], mro := [.ref 84, .type "object"], ns := 83, qualname := "Counted", subclasses := [] }, ⟨[none, none, some (.str "Counted" 275), some (.str "Counted" 283), some (.builtin "object.__new__"), some (.bool true)]⟩⟩, ⟨.type "getset_descriptor", none, .fields ⟨[.str "__dict__" 305, .ref 84, .builtin "function.__dict__", .builtin "function.__dict__#set"]⟩, ⟨[]⟩⟩, ⟨.type "getset_descriptor", none, .fields ⟨[.str "__weakref__" 307, .ref 84, .builtin "ExceptionGroup.__weakref__", .none]⟩, ⟨[]⟩⟩, ⟨.type "super", none, .fields ⟨[.ref 84, .ref 84, .ref 84]⟩, ⟨[]⟩⟩, ⟨.type "builtin_function_or_method", none, .fields ⟨[.builtin "object.__init_subclass__", .ref 84]⟩, ⟨[]⟩⟩, e0, f0, tS 315 ["heap", "sort"], e0, ⟨.none, none, fD 6 "new_cell" 0 (.none) (.none), ⟨[]⟩⟩, cD "new_cell" "new_cell" 312 32 2 3 89 true 181 [.ref 91, .ref 92, .ref 93] 317]),
  (109, [⟨.type "function", none, fD 6 "new_cell" 3 (.str "phpcore.counted" 234) (.ref 94), ⟨[]⟩⟩, e0, f0, tS 323 ["heap", "value"], e0, ⟨.none, none, fD 7 "cell_of" 0 (.none) (.none), ⟨[]⟩⟩, cD "cell_of" "cell_of" 320 36 2 3 96 true 181 [.ref 98, .ref 99, .ref 100] 325, ⟨.type "function", none, fD 7 "cell_of" 3 (.str "phpcore.counted" 234) (.ref 101), ⟨[]⟩⟩, e0, f0, tS 331 ["heap", "value", "cell"], e0, ⟨.none, none, fD 8 "is_ref" 0 (.none) (.none), ⟨[]⟩⟩, cD "is_ref" "is_ref" 328 38 2 3 103 true 181 [.ref 105, .ref 106, .ref 107] 334]),
  (123, [⟨.type "function", none, fD 8 "is_ref" 3 (.str "phpcore.counted" 234) (.ref 108), ⟨[]⟩⟩, e0, f0, tS 340 ["heap", "value"], e0, ⟨.none, none, fD 9 "inner" 0 (.none) (.none), ⟨[]⟩⟩, cD "inner" "inner" 337 41 2 3 110 true 181 [.ref 112, .ref 113, .ref 114] 342, ⟨.type "function", none, fD 9 "inner" 3 (.str "phpcore.counted" 234) (.ref 115), ⟨[]⟩⟩, e0, f0, tS 348 ["heap", "var"], e0, ⟨.none, none, fD 10 "value_of" 0 (.none) (.none), ⟨[]⟩⟩, cD "value_of" "value_of" 345 43 2 3 117 true 181 [.ref 119, .ref 120, .ref 121] 350]),
  (137, [⟨.type "function", none, fD 10 "value_of" 3 (.str "phpcore.counted" 234) (.ref 122), ⟨[]⟩⟩, e0, f0, tS 356 ["heap", "value", "cell"], e0, ⟨.none, none, fD 11 "gain" 0 (.none) (.none), ⟨[]⟩⟩, cD "gain" "gain" 353 45 2 3 124 true 181 [.ref 126, .ref 127, .ref 128] 359, ⟨.type "function", none, fD 11 "gain" 3 (.str "phpcore.counted" 234) (.ref 129), ⟨[]⟩⟩, e0, f0, ⟨.none, none, fD 12 "held_by" 0 (.none) (.none), ⟨[]⟩⟩, cD "held_by" "held_by" 362 50 2 3 131 true 181 [.none, .none, .ref 133] 365, ⟨.type "function", none, fD 12 "held_by" 3 (.str "phpcore.counted" 234) (.ref 134), ⟨[]⟩⟩, e0]),
  (151, [f0, tS 371 ["slots", "key", "value", "old"], e0, ⟨.none, none, fD 13 "replaced" 0 (.none) (.none), ⟨[]⟩⟩, cD "replaced" "replaced" 368 55 3 3 136 true 181 [.ref 138, .ref 139, .ref 140] 375, ⟨.type "function", none, fD 13 "replaced" 3 (.str "phpcore.counted" 234) (.ref 141), ⟨[]⟩⟩, e0, f0, tS 381 ["slots", "key"], e0, ⟨.none, none, fD 14 "taken_out" 0 (.none) (.none), ⟨[]⟩⟩, cD "taken_out" "taken_out" 378 59 2 3 143 true 181 [.ref 145, .ref 146, .ref 147] 383, ⟨.type "function", none, fD 14 "taken_out" 3 (.str "phpcore.counted" 234) (.ref 148), ⟨[]⟩⟩, e0]),
  (165, [f0, tS 389 ["heap", "slots", "key", "value"], e0, ⟨.none, none, fD 15 "written" 0 (.none) (.none), ⟨[]⟩⟩, cD "written" "written" 386 61 4 3 150 true 181 [.ref 152, .ref 153, .ref 154] 393, ⟨.type "function", none, fD 15 "written" 3 (.str "phpcore.counted" 234) (.ref 155), ⟨[]⟩⟩, e0, f0, tS 399 ["heap", "slots", "key", "held", "made"], e0, ⟨.none, none, fD 16 "ref_in" 0 (.none) (.none), ⟨[]⟩⟩, cD "ref_in" "ref_in" 396 65 3 3 157 true 181 [.ref 159, .ref 160, .ref 161] 404, ⟨.type "function", none, fD 16 "ref_in" 3 (.str "phpcore.counted" 234) (.ref 162), ⟨[]⟩⟩, e0]),
  (179, [f0, tS 410 ["heap", "cell", "value", "held"], e0, ⟨.none, none, fD 17 "in_copy" 0 (.none) (.none), ⟨[]⟩⟩, cD "in_copy" "in_copy" 407 73 3 3 164 true 181 [.ref 166, .ref 167, .ref 168] 414, ⟨.type "function", none, fD 17 "in_copy" 3 (.str "phpcore.counted" 234) (.ref 169), ⟨[]⟩⟩, e0, f0, tS 420 ["heap", "cell", "made", "key"], e0, ⟨.none, none, fD 18 "copied" 0 (.none) (.none), ⟨[]⟩⟩, cD "copied" "copied" 417 78 2 3 171 true 181 [.ref 173, .ref 174, .ref 175] 424, ⟨.type "function", none, fD 18 "copied" 3 (.str "phpcore.counted" 234) (.ref 176), ⟨[]⟩⟩, e0]),
  (193, [f0, tS 430 ["heap", "var"], e0, ⟨.none, none, fD 19 "has_elements" 0 (.none) (.none), ⟨[]⟩⟩, cD "has_elements" "has_elements" 427 84 2 3 178 true 181 [.ref 180, .ref 181, .ref 182] 432, ⟨.type "function", none, fD 19 "has_elements" 3 (.str "phpcore.counted" 234) (.ref 183), ⟨[]⟩⟩, e0, f0, tS 438 ["heap", "var", "cell", "made"], e0, ⟨.none, none, fD 20 "container" 0 (.none) (.none), ⟨[]⟩⟩, cD "container" "container" 435 86 2 3 185 true 181 [.ref 187, .ref 188, .ref 189] 442, ⟨.type "function", none, fD 20 "container" 3 (.str "phpcore.counted" 234) (.ref 190), ⟨[]⟩⟩, e0]),
  (207, [f0, tS 448 ["heap", "var", "n"], e0, ⟨.none, none, fD 21 "set_int" 0 (.none) (.none), ⟨[]⟩⟩, cD "set_int" "set_int" 445 92 3 3 192 true 181 [.ref 194, .ref 195, .ref 196] 451, ⟨.type "function", none, fD 21 "set_int" 3 (.str "phpcore.counted" 234) (.ref 197), ⟨[]⟩⟩, e0, f0, tS 457 ["heap", "var"], e0, ⟨.none, none, fD 22 "new_array" 0 (.none) (.none), ⟨[]⟩⟩, cD "new_array" "new_array" 454 94 2 3 199 true 181 [.ref 201, .ref 202, .ref 203] 459, ⟨.type "function", none, fD 22 "new_array" 3 (.str "phpcore.counted" 234) (.ref 204), ⟨[]⟩⟩, e0]),
  (221, [f0, tS 465 ["heap", "var", "has_destructor", "made"], e0, ⟨.none, none, fD 23 "new_object" 0 (.none) (.none), ⟨[]⟩⟩, cD "new_object" "new_object" 462 96 3 3 206 true 181 [.ref 208, .ref 209, .ref 210] 469, ⟨.type "function", none, fD 23 "new_object" 3 (.str "phpcore.counted" 234) (.ref 211), ⟨[]⟩⟩, e0, f0, tS 475 ["heap", "var", "other"], e0, ⟨.none, none, fD 24 "assign" 0 (.none) (.none), ⟨[]⟩⟩, cD "assign" "assign" 472 100 3 3 213 true 181 [.ref 215, .ref 216, .ref 217] 478, ⟨.type "function", none, fD 24 "assign" 3 (.str "phpcore.counted" 234) (.ref 218), ⟨[]⟩⟩, e0]),
  (235, [f0, tS 484 ["heap", "var", "key", "other", "value", "cell", "losses"], e0, ⟨.none, none, fD 25 "put" 0 (.none) (.none), ⟨[]⟩⟩, cD "put" "put" 481 102 4 3 220 true 181 [.ref 222, .ref 223, .ref 224] 491, ⟨.type "function", none, fD 25 "put" 3 (.str "phpcore.counted" 234) (.ref 225), ⟨[]⟩⟩, e0, f0, tS 497 ["heap", "var", "other", "key", "value"], e0, ⟨.none, none, fD 26 "take" 0 (.none) (.none), ⟨[]⟩⟩, cD "take" "take" 494 108 4 3 227 true 181 [.ref 229, .ref 230, .ref 231] 502, ⟨.type "function", none, fD 26 "take" 3 (.str "phpcore.counted" 234) (.ref 232), ⟨[]⟩⟩, e0]),
  (249, [f0, tS 508 ["heap", "var", "other"], e0, ⟨.none, none, fD 27 "make_ref" 0 (.none) (.none), ⟨[]⟩⟩, cD "make_ref" "make_ref" 505 113 3 3 234 true 181 [.ref 236, .ref 237, .ref 238] 511, ⟨.type "function", none, fD 27 "make_ref" 3 (.str "phpcore.counted" 234) (.ref 239), ⟨[]⟩⟩, e0, f0, tS 517 ["heap", "var", "key", "other", "value", "cell", "losses"], e0, ⟨.none, none, fD 28 "put_ref" 0 (.none) (.none), ⟨[]⟩⟩, cD "put_ref" "put_ref" 514 115 4 3 241 true 181 [.ref 243, .ref 244, .ref 245] 524, ⟨.type "function", none, fD 28 "put_ref" 3 (.str "phpcore.counted" 234) (.ref 246), ⟨[]⟩⟩, e0]),
  (263, [f0, tS 530 ["heap", "var"], e0, ⟨.none, none, fD 29 "unset" 0 (.none) (.none), ⟨[]⟩⟩, cD "unset" "unset" 527 121 2 3 248 true 181 [.ref 250, .ref 251, .ref 252] 532, ⟨.type "function", none, fD 29 "unset" 3 (.str "phpcore.counted" 234) (.ref 253), ⟨[]⟩⟩, e0, f0, tS 538 ["heap", "var", "key", "cell", "losses"], e0, ⟨.none, none, fD 30 "unset_at" 0 (.none) (.none), ⟨[]⟩⟩, cD "unset_at" "unset_at" 535 123 3 3 255 true 181 [.ref 257, .ref 258, .ref 259] 543, ⟨.type "function", none, fD 30 "unset_at" 3 (.str "phpcore.counted" 234) (.ref 260), ⟨[]⟩⟩, e0]),
  (277, [f0, tS 549 ["heap", "name", "args"], e0, ⟨.none, none, fD 31 "change" 0 (.none) (.none), ⟨[]⟩⟩, cD "change" "change" 546 128 3 3 262 true 181 [.ref 264, .ref 265, .ref 266] 552, ⟨.type "function", none, fD 31 "change" 3 (.str "phpcore.counted" 234) (.ref 267), ⟨[]⟩⟩, e0, f0, tS 558 ["heap", "cell"], e0, ⟨.none, none, fD 32 "suspect" 0 (.none) (.none), ⟨[]⟩⟩, cD "suspect" "suspect" 555 150 2 3 269 true 181 [.ref 271, .ref 272, .ref 273] 560, ⟨.type "function", none, fD 32 "suspect" 3 (.str "phpcore.counted" 234) (.ref 274), ⟨[]⟩⟩, e0]),
  (291, [f0, tS 566 ["heap", "number", "found", "table"], e0, ⟨.none, none, fD 33 "cleared" 0 (.none) (.none), ⟨[]⟩⟩, cD "cleared" "cleared" 563 156 2 3 276 true 181 [.ref 278, .ref 279, .ref 280] 570, ⟨.type "function", none, fD 33 "cleared" 3 (.str "phpcore.counted" 234) (.ref 281), ⟨[]⟩⟩, e0, f0, tS 576 ["heap", "cell", "losses"], e0, ⟨.none, none, fD 34 "free_cell" 0 (.none) (.none), ⟨[]⟩⟩, cD "free_cell" "free_cell" 573 161 2 3 283 true 181 [.ref 285, .ref 286, .ref 287] 579, ⟨.type "function", none, fD 34 "free_cell" 3 (.str "phpcore.counted" 234) (.ref 288), ⟨[]⟩⟩, e0]),
  (305, [f0, tS 585 ["cell"], e0, ⟨.none, none, fD 35 "wants_destructor" 0 (.none) (.none), ⟨[]⟩⟩, cD "wants_destructor" "wants_destructor" 582 174 1 3 290 true 181 [.ref 292, .ref 293, .ref 294] 586, ⟨.type "function", none, fD 35 "wants_destructor" 3 (.str "phpcore.counted" 234) (.ref 295), ⟨[]⟩⟩, e0, f0, tS 592 ["heap", "cell", "tasks", "deed"], e0, ⟨.none, none, fD 36 "begin_destructor" 0 (.none) (.none), ⟨[]⟩⟩, cD "begin_destructor" "begin_destructor" 589 176 2 3 297 true 181 [.ref 299, .ref 300, .ref 301] 596, ⟨.type "function", none, fD 36 "begin_destructor" 3 (.str "phpcore.counted" 234) (.ref 302), ⟨[]⟩⟩, e0]),
  (319, [f0, ⟨.none, none, fD 37 "losing" 0 (.none) (.none), ⟨[]⟩⟩, cD "losing" "losing" 599 184 1 3 304 true 181 [.none, .none, .ref 306] 602, ⟨.type "function", none, fD 37 "losing" 3 (.str "phpcore.counted" 234) (.ref 307), ⟨[]⟩⟩, e0, f0, tS 608 ["heap", "value", "cell"], e0, ⟨.none, none, fD 38 "lose" 0 (.none) (.none), ⟨[]⟩⟩, cD "lose" "lose" 605 186 2 3 309 true 181 [.ref 311, .ref 312, .ref 313] 611, ⟨.type "function", none, fD 38 "lose" 3 (.str "phpcore.counted" 234) (.ref 314), ⟨[]⟩⟩, e0, f0, tS 617 ["heap", "tasks", "sort", "what"]]),
  (333, [e0, ⟨.none, none, fD 39 "settle" 0 (.none) (.none), ⟨[]⟩⟩, cD "settle" "settle" 614 197 2 3 316 true 181 [.ref 318, .ref 319, .ref 320] 621, ⟨.type "function", none, fD 39 "settle" 3 (.str "phpcore.counted" 234) (.ref 321), ⟨[]⟩⟩, e0, f0, tS 627 ["heap", "value"], e0, ⟨.none, none, fD 40 "release" 0 (.none) (.none), ⟨[]⟩⟩, cD "release" "release" 624 204 2 3 323 true 181 [.ref 325, .ref 326, .ref 327] 629, ⟨.type "function", none, fD 40 "release" 3 (.str "phpcore.counted" 234) (.ref 328), ⟨[]⟩⟩, e0, f0, tS 635 ["heap", "deed"]]),
  (347, [e0, ⟨.none, none, fD 41 "do_deed" 0 (.none) (.none), ⟨[]⟩⟩, cD "do_deed" "do_deed" 632 206 2 3 330 true 181 [.ref 332, .ref 333, .ref 334] 637, ⟨.type "function", none, fD 41 "do_deed" 3 (.str "phpcore.counted" 234) (.ref 335), ⟨[]⟩⟩, e0, f0, ⟨.none, none, fD 42 "all_held" 0 (.none) (.none), ⟨[]⟩⟩, cD "all_held" "all_held" 640 208 1 3 337 true 181 [.none, .none, .ref 339] 643, ⟨.type "function", none, fD 42 "all_held" 3 (.str "phpcore.counted" 234) (.ref 340), ⟨[]⟩⟩, e0, f0, tS 649 ["heap", "counts", "number", "value"], e0, ⟨.none, none, fD 43 "counts_right" 0 (.none) (.none), ⟨[]⟩⟩]),
  (361, [cD "counts_right" "counts_right" 646 218 1 3 342 true 181 [.ref 344, .ref 345, .ref 346] 653, ⟨.type "function", none, fD 43 "counts_right" 3 (.str "phpcore.counted" 234) (.ref 347), ⟨[]⟩⟩, e0, ⟨.type "builtin_function_or_method", none, .fields ⟨[.builtin "type.__prepare__", .type "type"]⟩, ⟨[]⟩⟩, ⟨.type "dict", none, .dict ⟨[hE P "__module__" 665 (.str "phpcore.weaks" 656), hE P "__qualname__" 667 (.str "WeakTable" 666), hE P "__firstlineno__" 669 (.int 232 668), hE P "__init__" 677 (.ref 362), hE P "__static_attributes__" 680 (.ref 363)]⟩ 5, ⟨[]⟩⟩, e0, ⟨.none, none, .fields ⟨[.int 234 0, .int 4 0, .ref 361]⟩, ⟨[]⟩⟩, cD "WeakTable" "WeakTable" 660 232 0 0 352 false 181 [.none, .none, .none] 663, ⟨.type "frame", none, .plain, ⟨[some (.ref 354), some (.ref 3), some (.ref 351), none, some (.str "phpcore.weaks" 656), none, some (.ref 0)]⟩⟩, e0, f0, tS 673 ["self", "number"], e0, ⟨.none, none, fD 45 "WeakTable.__init__" 0 (.none) (.none), ⟨[]⟩⟩]),
  (375, [cD "__init__" "WeakTable.__init__" 670 234 2 3 356 true 181 [.ref 358, .ref 359, .ref 360] 675, ⟨.type "function", none, fD 45 "WeakTable.__init__" 3 (.str "phpcore.weaks" 656) (.ref 361), ⟨[]⟩⟩, tS 678 ["entries", "number"], ⟨.type "dict", none, .dict ⟨[hE P "__module__" 665 (.str "phpcore.weaks" 656), hE P "__firstlineno__" 669 (.int 232 668), hE P "__init__" 677 (.ref 362), hE P "__static_attributes__" 680 (.ref 363), hE P "__dict__" 682 (.ref 366), hE P "__weakref__" 684 (.ref 367), hE P "__doc__" 685 (.none)]⟩ 4, ⟨[]⟩⟩, ⟨.type "type", none, .cls { name := "WeakTable", bases := [.type "object"], mro := [.ref 365, .type "object"], ns := 364, qualname := "WeakTable", subclasses := [] }, ⟨[none, none, some (.str "WeakTable" 658), some (.str "WeakTable" 666), some (.builtin "object.__new__"), some (.bool true)]⟩⟩, ⟨.type "getset_descriptor", none, .fields ⟨[.str "__dict__" 681, .ref 365, .builtin "function.__dict__", .builtin "function.__dict__#set"]⟩, ⟨[]⟩⟩, ⟨.type "getset_descriptor", none, .fields ⟨[.str "__weakref__" 683, .ref 365, .builtin "ExceptionGroup.__weakref__", .none]⟩, ⟨[]⟩⟩, ⟨.type "super", none, .fields ⟨[.ref 365, .ref 365, .ref 365]⟩, ⟨[]⟩⟩, ⟨.type "builtin_function_or_method", none, .fields ⟨[.builtin "object.__init_subclass__", .ref 365]⟩, ⟨[]⟩⟩, e0, f0, tS 691 ["heap", "var", "cell"], e0, ⟨.none, none, fD 46 "object_in" 0 (.none) (.none), ⟨[]⟩⟩]),
  (389, [cD "object_in" "object_in" 688 237 2 3 370 true 181 [.ref 372, .ref 373, .ref 374] 694, ⟨.type "function", none, fD 46 "object_in" 3 (.str "phpcore.weaks" 656) (.ref 375), ⟨[]⟩⟩, e0, f0, tS 700 ["heap", "var", "cell"], e0, ⟨.none, none, fD 47 "weak_of" 0 (.none) (.none), ⟨[]⟩⟩, cD "weak_of" "weak_of" 697 240 2 3 377 true 181 [.ref 379, .ref 380, .ref 381] 703, ⟨.type "function", none, fD 47 "weak_of" 3 (.str "phpcore.weaks" 656) (.ref 382), ⟨[]⟩⟩, e0, f0, tS 709 ["heap", "weak", "cell"], e0, ⟨.none, none, fD 48 "weak_get" 0 (.none) (.none), ⟨[]⟩⟩]),
  (403, [cD "weak_get" "weak_get" 706 246 2 3 384 true 181 [.ref 386, .ref 387, .ref 388] 712, ⟨.type "function", none, fD 48 "weak_get" 3 (.str "phpcore.weaks" 656) (.ref 389), ⟨[]⟩⟩, e0, f0, tS 718 ["heap", "table"], e0, ⟨.none, none, fD 49 "new_table" 0 (.none) (.none), ⟨[]⟩⟩, cD "new_table" "new_table" 715 249 1 3 391 true 181 [.ref 393, .ref 394, .ref 395] 720, ⟨.type "function", none, fD 49 "new_table" 3 (.str "phpcore.weaks" 656) (.ref 396), ⟨[]⟩⟩, e0, f0, tS 726 ["heap", "table", "var", "other", "cell", "value", "old"], e0, ⟨.none, none, fD 50 "weak_put" 0 (.none) (.none), ⟨[]⟩⟩]),
  (417, [cD "weak_put" "weak_put" 723 253 4 3 398 true 181 [.ref 400, .ref 401, .ref 402] 733, ⟨.type "function", none, fD 50 "weak_put" 3 (.str "phpcore.weaks" 656) (.ref 403), ⟨[]⟩⟩, e0, f0, tS 739 ["heap", "table", "var", "cell"], e0, ⟨.none, none, fD 51 "weak_read" 0 (.none) (.none), ⟨[]⟩⟩, cD "weak_read" "weak_read" 736 263 3 3 405 true 181 [.ref 407, .ref 408, .ref 409] 743, ⟨.type "function", none, fD 51 "weak_read" 3 (.str "phpcore.weaks" 656) (.ref 410), ⟨[]⟩⟩, e0, f0, tS 749 ["heap", "table", "var", "cell"], e0, ⟨.none, none, fD 52 "weak_drop" 0 (.none) (.none), ⟨[]⟩⟩]),
  (431, [cD "weak_drop" "weak_drop" 746 266 3 3 412 true 181 [.ref 414, .ref 415, .ref 416] 753, ⟨.type "function", none, fD 52 "weak_drop" 3 (.str "phpcore.weaks" 656) (.ref 417), ⟨[]⟩⟩, e0, f0, tS 759 ["table"], e0, ⟨.none, none, fD 53 "weak_keys" 0 (.none) (.none), ⟨[]⟩⟩, cD "weak_keys" "weak_keys" 756 272 1 3 419 true 181 [.ref 421, .ref 422, .ref 423] 760, ⟨.type "function", none, fD 53 "weak_keys" 3 (.str "phpcore.weaks" 656) (.ref 424), ⟨[]⟩⟩, e0, f0, ⟨.none, none, fD 55 "children" 0 (.none) (.none), ⟨[]⟩⟩, cD "children" "children" 765 275 2 3 426 true 181 [.none, .none, .ref 428] 768, ⟨.type "function", none, fD 55 "children" 3 (.str "phpcore.collector" 763) (.ref 429), ⟨[]⟩⟩]),
  (445, [e0, f0, tS 774 ["heap", "cell", "waiting", "here", "child"], e0, ⟨.none, none, fD 56 "mark_grey" 0 (.none) (.none), ⟨[]⟩⟩, cD "mark_grey" "mark_grey" 771 277 2 3 431 true 181 [.ref 433, .ref 434, .ref 435] 779, ⟨.type "function", none, fD 56 "mark_grey" 3 (.str "phpcore.collector" 763) (.ref 436), ⟨[]⟩⟩, e0, f0, tS 785 ["heap", "cell", "waiting", "child"], e0, ⟨.none, none, fD 57 "scan_black" 0 (.none) (.none), ⟨[]⟩⟩, cD "scan_black" "scan_black" 782 286 2 3 438 true 181 [.ref 440, .ref 441, .ref 442] 789, ⟨.type "function", none, fD 57 "scan_black" 3 (.str "phpcore.collector" 763) (.ref 443), ⟨[]⟩⟩]),
  (459, [e0, f0, tS 795 ["heap", "cell", "waiting", "here"], e0, ⟨.none, none, fD 58 "scan" 0 (.none) (.none), ⟨[]⟩⟩, cD "scan" "scan" 792 295 2 3 445 true 181 [.ref 447, .ref 448, .ref 449] 799, ⟨.type "function", none, fD 58 "scan" 3 (.str "phpcore.collector" 763) (.ref 450), ⟨[]⟩⟩, e0, f0, tS 805 ["heap", "cells", "found", "waiting", "here", "child"], e0, ⟨.none, none, fD 59 "gather" 0 (.none) (.none), ⟨[]⟩⟩, cD "gather" "gather" 802 305 2 3 452 true 181 [.ref 454, .ref 455, .ref 456] 811, ⟨.type "function", none, fD 59 "gather" 3 (.str "phpcore.collector" 763) (.ref 457), ⟨[]⟩⟩]),
  (473, [e0, f0, ⟨.none, none, fD 60 "find_rings" 0 (.none) (.none), ⟨[]⟩⟩, cD "find_rings" "find_rings" 814 317 1 3 459 true 181 [.none, .none, .ref 461] 817, ⟨.type "function", none, fD 60 "find_rings" 3 (.str "phpcore.collector" 763) (.ref 462), ⟨[]⟩⟩, e0, f0, tS 823 ["heap", "numbers", "number"], e0, ⟨.none, none, fD 61 "run_destructors" 0 (.none) (.none), ⟨[]⟩⟩, cD "run_destructors" "run_destructors" 820 327 2 3 464 true 181 [.ref 466, .ref 467, .ref 468] 826, ⟨.type "function", none, fD 61 "run_destructors" 3 (.str "phpcore.collector" 763) (.ref 469), ⟨[]⟩⟩, e0, f0]),
  (487, [⟨.none, none, fD 62 "still_held" 0 (.none) (.none), ⟨[]⟩⟩, cD "still_held" "still_held" 829 334 2 3 471 true 181 [.none, .none, .ref 473] 832, ⟨.type "function", none, fD 62 "still_held" 3 (.str "phpcore.collector" 763) (.ref 474), ⟨[]⟩⟩, e0, f0, ⟨.none, none, fD 63 "without_held" 0 (.none) (.none), ⟨[]⟩⟩, cD "without_held" "without_held" 835 351 2 3 476 true 181 [.none, .none, .ref 478] 838, ⟨.type "function", none, fD 63 "without_held" 3 (.str "phpcore.collector" 763) (.ref 479), ⟨[]⟩⟩, e0, f0, tS 844 ["heap", "numbers", "losses", "number"], e0, ⟨.none, none, fD 64 "free_all" 0 (.none) (.none), ⟨[]⟩⟩, cD "free_all" "free_all" 841 355 2 3 481 true 181 [.ref 483, .ref 484, .ref 485] 848]),
  (501, [⟨.type "function", none, fD 64 "free_all" 3 (.str "phpcore.collector" 763) (.ref 486), ⟨[]⟩⟩, e0, f0, ⟨.none, none, fD 65 "turn" 0 (.none) (.none), ⟨[]⟩⟩, cD "turn" "turn" 851 360 1 3 488 true 181 [.none, .none, .ref 490] 854, ⟨.type "function", none, fD 65 "turn" 3 (.str "phpcore.collector" 763) (.ref 491), ⟨[]⟩⟩, e0, f0, tS 860 ["heap", "before"], e0, ⟨.none, none, fD 66 "collect" 0 (.none) (.none), ⟨[]⟩⟩, cD "collect" "collect" 857 367 1 3 493 true 181 [.ref 495, .ref 496, .ref 497] 862, ⟨.type "function", none, fD 66 "collect" 3 (.str "phpcore.collector" 763) (.ref 498), ⟨[]⟩⟩, e0]),
  (515, [f0, e0, e0, ⟨.none, none, fD 68 "_law_told" 0 (.none) (.none), ⟨[]⟩⟩, cD "_law_told" "_law_told" 867 373 0 3 500 true 181 [.ref 502, .ref 503, .ref 504] 870, ⟨.type "function", none, fD 68 "_law_told" 3 (.str "law_pf0213_01" 865) (.ref 505), ⟨[]⟩⟩, e0, f0, tS 876 ["way", "a", "b", "key", "n"], e0, ⟨.none, none, fD 69 "_law_deed" 0 (.none) (.none), ⟨[]⟩⟩, cD "_law_deed" "_law_deed" 873 375 5 3 507 true 181 [.ref 509, .ref 510, .ref 511] 881, ⟨.type "function", none, fD 69 "_law_deed" 3 (.str "law_pf0213_01" 865) (.ref 512), ⟨[]⟩⟩, e0]),
  (529, [f0, tS 887 ["heap", "var", "value"], e0, ⟨.none, none, fD 70 "_law_object" 0 (.none) (.none), ⟨[]⟩⟩, cD "_law_object" "_law_object" 884 385 2 3 514 true 181 [.ref 516, .ref 517, .ref 518] 890, ⟨.type "function", none, fD 70 "_law_object" 3 (.str "law_pf0213_01" 865) (.ref 519), ⟨[]⟩⟩, e0, f0, tS 896 ["heap", "tables", "books", "given_out", "way", "a", "b", "which", "number", "table", "book", "value"], e0, ⟨.none, none, fD 71 "_law_weak_right" 0 (.none) (.none), ⟨[]⟩⟩, cD "_law_weak_right" "_law_weak_right" 893 388 8 3 521 true 181 [.ref 523, .ref 524, .ref 525] 908, ⟨.type "function", none, fD 71 "_law_weak_right" 3 (.str "law_pf0213_01" 865) (.ref 526), ⟨[]⟩⟩, e0]),
  (543, [f0, ⟨.none, none, fD 72 "_law_reached" 0 (.none) (.none), ⟨[]⟩⟩, cD "_law_reached" "_law_reached" 911 406 2 3 528 true 181 [.none, .none, .ref 530] 914, ⟨.type "function", none, fD 72 "_law_reached" 3 (.str "law_pf0213_01" 865) (.ref 531), ⟨[]⟩⟩, e0, f0, ⟨.none, none, fD 73 "_law_are_same" 0 (.none) (.none), ⟨[]⟩⟩, cD "_law_are_same" "_law_are_same" 917 415 4 3 533 true 181 [.none, .none, .ref 535] 920, ⟨.type "function", none, fD 73 "_law_are_same" 3 (.str "law_pf0213_01" 865) (.ref 536), ⟨[]⟩⟩, e0, f0, tS 926 ["heap", "tables", "books", "given_out", "here", "many"], e0, ⟨.none, none, fD 74 "_law_collected" 0 (.none) (.none), ⟨[]⟩⟩]),
  (552, [cD "_law_collected" "_law_collected" 923 426 4 3 538 true 181 [.ref 540, .ref 541, .ref 542] 932, ⟨.type "function", none, fD 74 "_law_collected" 3 (.str "law_pf0213_01" 865) (.ref 543), ⟨[]⟩⟩, e0, f0, tS 938 ["script", "heap", "tables", "books", "given_out", "k", "told_one", "x", "way", "a", "b", "key", "n", "var"], e0, ⟨.none, none, fD 75 "law" 0 (.none) (.none), ⟨[]⟩⟩, cD "law" "law" 935 432 1 3 545 true 181 [.ref 547, .ref 548, .ref 549] 952, ⟨.type "function", none, fD 75 "law" 3 (.str "law_pf0213_01" 865) (.ref 550), ⟨[]⟩⟩])]
noncomputable def nth : List Obj → Nat → Obj
  | [], _ => default
  | o :: r, i => match i with
    | 0 => o
    | i + 1 => nth r i
noncomputable def pick : List (Nat × List Obj) → Nat → Nat → Obj
  | [], _, _ => default
  | (e, os) :: r, s, i => match Nat.blt i e with
    | true => nth os (i - s)
    | false => pick r e i
noncomputable def ob (P : Params) (i : Nat) : Obj := pick (chunks P) 0 i
noncomputable def bt (f : Nat → Obj) (n : Nat) : Nat → Nat → Nat → BT
  | 0, _, _ => .nil
  | k + 1, a, b => match Nat.blt b n with
    | true => .node (f b) (bt f n k (2 * a) (a + b)) (bt f n k (2 * a) (2 * a + b))
    | false => .nil
noncomputable def lst (f : Nat → Obj) : Nat → Nat → List Obj
  | 0, _ => []
  | k + 1, i => f i :: lst f k (i + 1)
noncomputable def hp (P : Params) : Heap := ⟨⟨lst (ob P) 552 0⟩, {}⟩
noncomputable def hp0 (P : Params) : Heap := ⟨⟨[boot_o_0 P, boot_o_1 P, boot_o_2 P, boot_o_3 P, boot_o_4 P, boot_o_5 P, boot_o_6 P, boot_o_7 P, boot_o_8 P, boot_o_9 P, boot_o_10 P, e0, f0, cD "<module>" "<module>" 182 1 0 0 11 false 181 [.none, .none, .none] 185, ⟨.type "frame", none, .plain, ⟨[some (.ref 13), some (.ref 3), some (.ref 3), none, some (.str "__main__" 164), none, some (.ref 0)]⟩⟩]⟩, {}⟩
noncomputable def bt0 (P : Params) : BT := bt (nth (hp0 P).objs.toList) 15 5 1 0
noncomputable def bt1 (P : Params) : BT := bt (ob P) 552 11 1 0
noncomputable def ob2 (P : Params) (x y : Obj) (i : Nat) : Obj := match Nat.beq i 3 with
  | true => x
  | false => match Nat.beq i 12 with
    | true => y
    | false => ob P i
noncomputable def btS5 (P : Params) : BT := bt (ob2 P (d3 P "phpcore.counted" 234 12 13) (d12 4)) 89 8 1 0
noncomputable def btS24 (P : Params) : BT := bt (ob2 P (d3 P "phpcore.counted" 234 31 32) (d12 23)) 220 9 1 0
noncomputable def btS44 (P : Params) : BT := bt (ob2 P (d3 P "phpcore.weaks" 656 50 51) (d12 42)) 349 10 1 0
noncomputable def btS60 (P : Params) : BT := bt (ob2 P (d3 P "phpcore.collector" 763 65 66) (d12 57)) 464 10 1 0
end
section
noncomputable def env0 : Env := { scope := pw.main.scope, locals := mainNs, globals := mainNs, cells := [], code := .ref 13, frame := some 14 }
noncomputable abbrev pos0 : Pos := { line := 0, col := 0, endLine := 0, endCol := 0 }
noncomputable abbrev pos1 : Pos := { line := 432, col := 0, endLine := 453, endCol := 49 }
noncomputable abbrev cd0 : Code := .body (behindTheImports pw) env0
theorem h_size (w : World) : ((boot_heap w.params).isNs mainGlobals && (Array.mk [] : Array GenState).size == 0, (boot_heap w.params).objs.size, (boot_heap w.params).nsMap mainGlobals "__annotations__") = (true, 11, some (.ref 6)) := by
  kernel_rfl
theorem h_pre : ∀ (w : World), (fun os => topGo treeTable pw w 11 (some (.ref 6)) 12 ⟨boot_heap w.params, Array.mk [], boot_drawn, boot_toks, os⟩ (topStub pw)) =
    fun os => some (⟨hp0 w.params, Array.mk [], boot_drawn, 187, os⟩, ⟨denote treeTable cd0, cd0, pos0, [topFrame pos0]⟩) := by
  rw [PySem.W.Fast.te15667345088766844465, PySem.W.Fast.te14364793385576792824, PySem.W.Fast.te11892475500146522536]
  intro w
  kernel_rfl
theorem h_block : ∀ (w : World), (fun os => segRun treeTable pw w 11 (some (.ref 6)) 1 1 ⟨hp0 w.params, Array.mk [], boot_drawn, 187, os⟩ (blockOf (behindTheImports pw) env0 cd0 pos0 [topFrame pos0])) =
    fun os => some (.next, (SharedT.mk (bt0 w.params) 15 {} (Array.mk []) boot_drawn 187 os).abs, cd0, pos0) := by
  rw [PySem.W.Fast.te14374325043358763698, PySem.W.Fast.te14364793385576792824]
  intro w
  kernel_rfl
noncomputable abbrev stm (a b : Nat) : List Stmt := ((behindTheImports pw).take b).drop a
theorem h_run5 : ∀ (w : World), (fun os => segRunT treeTable pw w 11 (some (.ref 6)) 1 981 (SharedT.mk (bt0 w.params) 15 {} (Array.mk []) boot_drawn 187 os) (piecesOf (stm 0 6) env0 cd0 ⟨0, 0, 0, 0⟩ [topFrame pos0])) =
    fun os => some (.next, SharedT.mk (btS5 w.params) 89 {} (Array.mk []) boot_drawn 312 os, cd0, ⟨20, 0, 31, 24⟩) := by
  rw [PySem.W.Fast.te10110043849684766642, PySem.W.Fast.te14364793385576792824]
  intro w
  kernel_rfl
theorem h_run24 : ∀ (w : World), (fun os => segRunT treeTable pw w 11 (some (.ref 6)) 1 645 (SharedT.mk (btS5 w.params) 89 {} (Array.mk []) boot_drawn 312 os) (piecesOf (stm 6 25) env0 cd0 ⟨20, 0, 31, 24⟩ [topFrame pos0])) =
    fun os => some (.next, SharedT.mk (btS24 w.params) 220 {} (Array.mk []) boot_drawn 481 os, cd0, ⟨100, 0, 101, 75⟩) := by
  rw [PySem.W.Fast.te10110043849684766642, PySem.W.Fast.te14364793385576792824]
  intro w
  kernel_rfl
theorem h_run44 : ∀ (w : World), (fun os => segRunT treeTable pw w 11 (some (.ref 6)) 1 658 (SharedT.mk (btS24 w.params) 220 {} (Array.mk []) boot_drawn 481 os) (piecesOf (stm 25 45) env0 cd0 ⟨100, 0, 101, 75⟩ [topFrame pos0])) =
    fun os => some (.next, SharedT.mk (btS44 w.params) 349 {} (Array.mk []) boot_drawn 658 os, cd0, ⟨231, 0, 231, 8⟩) := by
  rw [PySem.W.Fast.te10110043849684766642, PySem.W.Fast.te14364793385576792824]
  intro w
  kernel_rfl
theorem h_run60 : ∀ (w : World), (fun os => segRunT treeTable pw w 11 (some (.ref 6)) 1 726 (SharedT.mk (btS44 w.params) 349 {} (Array.mk []) boot_drawn 658 os) (piecesOf (stm 45 61) env0 cd0 ⟨231, 0, 231, 8⟩ [topFrame pos0])) =
    fun os => some (.next, SharedT.mk (btS60 w.params) 464 {} (Array.mk []) boot_drawn 820 os, cd0, ⟨317, 0, 326, 33⟩) := by
  rw [PySem.W.Fast.te10110043849684766642, PySem.W.Fast.te14364793385576792824]
  intro w
  kernel_rfl
theorem h_run75 : ∀ (w : World), (fun os => segRunT treeTable pw w 11 (some (.ref 6)) 1 500 (SharedT.mk (btS60 w.params) 464 {} (Array.mk []) boot_drawn 820 os) (piecesOf (stm 61 76) env0 cd0 ⟨317, 0, 326, 33⟩ [topFrame pos0])) =
    fun os => some (.next, SharedT.mk (bt1 w.params) 552 {} (Array.mk []) boot_drawn 955 os, cd0, ⟨432, 0, 453, 49⟩) := by
  rw [PySem.W.Fast.te10110043849684766642, PySem.W.Fast.te14364793385576792824]
  intro w
  kernel_rfl
theorem stm_all : stm 0 6 ++ (stm 6 25 ++ (stm 25 45 ++ (stm 45 61 ++ (stm 61 76 ++ [])))) = behindTheImports pw := by kernel_rfl
theorem h_fin : ∀ (w : World), (fun os => topRun treeTable pw w 11 (some (.ref 6)) 2 (SharedT.mk (bt1 w.params) 552 {} (Array.mk []) boot_drawn 955 os).abs ⟨doneF .next, cd0, pos1, [topFrame pos0]⟩) =
    fun os => some ⟨hp w.params, Array.mk [], boot_drawn, 955, os⟩ := by
  rw [PySem.W.Fast.te14082659384304107361, PySem.W.Fast.te14364793385576792824]
  intro w
  kernel_rfl
end
section
noncomputable def qv : Program := { pw with main := { pw.main with body := pw.main.body.filter fun s => match s with | .Assign _ _ _ => false | _ => true } }
noncomputable def ka : List Addr := [3, 59, 60, 62, 63, 80, 81, 83, 84, 361, 362, 364, 365]
noncomputable def kk (P : Params) : Frag := ka.map fun a => (a, ob P a)
theorem ka_eq : ∀ P, ka = (kk P).map (·.1) := fun _ => rfl
noncomputable abbrev hk : Hook := kHook kk ka ka_eq
noncomputable abbrev xt : Shared → Bool := fun s => xlAt qv [] s && recOk (PySem.Challenge.rw_pf0213_01).row.records s
noncomputable abbrev sF (w : World) (os : OsState) : Shared := ⟨hp w.params, Array.mk [], boot_drawn, 955, os⟩
theorem h_look1 : ∀ w : World, (fun os => (staticsOk (importedModules pw.main.body) (boot_heap w.params) (hp w.params) && namesBound pw (hp w.params) && gensDone (sF w os) && laidKept (boot_heap w.params) (hp w.params))) = fun _ => true := by
  intro w
  kernel_rfl
theorem h_look3 : ∀ w : World, (fun os => hk.obs (sF w os)) = fun _ => hk.val w := by
  intro w
  kernel_rfl
theorem h_la (w : World) (os : OsState) : seen ((recsOf qv).map (·.name)) (ownsOf qv) [] { (sF w os) with gens := #[] } = expectedOf qv := by
  rw [PySem.W.Fast.te5160383126252970620]
  kernel_rfl
theorem h_lb (w : World) (os : OsState) : (sF w os).heap.bltView = bltViewBooted := by
  kernel_rfl
theorem h_lc1 (w : World) (os : OsState) : (sF w os).heap.keysOk (looseW qv []) ((recsOf qv).map (·.name)) ((litsOf qv).map (·.1)) ((clssOf qv (looseW qv [])).map (·.name)) = true := by
  rw [PySem.W.Fast.te10880121769531294198, PySem.W.Fast.te7409074990110511671, PySem.W.Fast.te13664370479719496447, PySem.W.Fast.te821141287760084731, PySem.W.Fast.te3399658132070893891]
  kernel_rfl
theorem h_lc2 (w : World) (os : OsState) : (sF w os).heap.accountedOkI (importedModules pw.main.body) = true := by
  rw [PySem.W.Fast.te14722251495701143533]
  kernel_rfl
theorem h_lc3 (w : World) (os : OsState) : ((sF w os).heap.isNs mainGlobals && (sF w os).heap.isNs builtinsNs) = true := by
  kernel_rfl
theorem h_lc4 (w : World) (os : OsState) : tablesOk qv (sF w os).heap = true := by
  rw [PySem.W.Fast.te10994771534591457954]
  kernel_rfl
theorem h_lc5 (w : World) (os : OsState) : xt (sF w os) = true := by
  kernel_rfl
theorem h_lc6 (w : World) (os : OsState) : ((sF w os).gens.size == 0) = true := by
  kernel_rfl
theorem h_ld (w : World) (os : OsState) : tabsOk qv (sF w os) = true := by
  rw [PySem.W.Fast.te479339242167458305]
  kernel_rfl
theorem h_le (w : World) (os : OsState) : pinSeenD qv (drecsOf qv) (sF w os) = pinGoodD (drecsOf qv) := by
  rw [PySem.W.Fast.te16090120013241838585, PySem.W.Fast.te3247288618530077131]
  kernel_rfl
theorem h_lf (w : World) (os : OsState) : plainSeenE qv (looseW qv []) (sF w os) = plainGoodE qv (looseW qv []) := by
  rw [PySem.W.Fast.te2386780881361962483, PySem.W.Fast.te821141287760084731]
  kernel_rfl
theorem h_lg (w : World) (os : OsState) : plainSeenD qv [] (sF w os) = plainGoodD qv [] := by
  rw [PySem.W.Fast.te11698064438423848299]
  kernel_rfl
theorem h_lh (w : World) (os : OsState) : wideSeen qv (sF w os) = wideGood qv := by
  rw [PySem.W.Fast.te7317090234206586261]
  kernel_rfl
theorem h_li (w : World) (os : OsState) : clsSeenW qv [] (sF w os) = clsGoodW qv [] := by
  rw [PySem.W.Fast.te7369524293546568484]
  kernel_rfl
theorem h_look2 (w : World) (os : OsState) : openSeen qv [] (importedModules pw.main.body) xt true (sF w os) = openGood qv [] := by
  unfold openSeen openGood
  rw [h_la, h_lb, h_lc1, h_lc2, h_lc4, h_lc5, h_ld, h_le, h_lf, h_lg, h_lh, h_li]
  have e := h_lc3 w os
  rw [Bool.and_eq_true] at e
  rw [e.1, e.2, if_pos rfl, h_lc6]
  rfl
end
section
theorem h_all (w : World) (os : OsState) : topRun treeTable pw w 11 (some (.ref 6)) (12 + (1 + (981 + (645 + (658 + (726 + (500 + 2))))))) ⟨boot_heap w.params, Array.mk [], boot_drawn, boot_toks, os⟩ (topStub pw) = some ⟨hp w.params, Array.mk [], boot_drawn, 955, os⟩ := by
  have k4 := piece_app (rest := []) (segRun_of (congrFun (h_run75 w) os)) (piece_nil (congrFun (h_fin w) os))
  have k3 := piece_app (segRun_of (congrFun (h_run60 w) os)) k4
  have k2 := piece_app (segRun_of (congrFun (h_run44 w) os)) k3
  have k1 := piece_app (segRun_of (congrFun (h_run24 w) os)) k2
  have k := piece_app (segRun_of (congrFun (h_run5 w) os)) k1
  rw [stm_all] at k
  exact go_top (congrFun (h_pre w) os) (piece_block (congrFun (h_block w) os) k)
theorem h_left : LeftO pw qv [] xt hk.obs hk.val 6546 true := by
  refine LeftO.of_pieces (H₀ := boot_heap) (H₁ := hp) (M := 12 + (1 + (981 + (645 + (658 + (726 + (500 + 2))))))) (boot_open (p := pw) (N := 6546) (by kernel_rfl) (by decide) fun s => by kernel_rfl) h_size h_all (by decide) fun w => ?_
  have e1 := h_look1 w
  have e3 := h_look3 w
  funext os
  rw [Prod.mk.injEq, Prod.mk.injEq]
  exact ⟨congrFun e1 os, h_look2 w os, congrFun e3 os⟩
noncomputable abbrev rwL : OpenLaw := PySem.Challenge.rw_pf0213_01
theorem h_s1 : rwL.row.wellSaid = true := by
  rw [PySem.W.Fast.te17960256430627541270]
  kernel_rfl
theorem h_s2 : noRoadLSs { strict := true, foot := some rwL.bound', writes := rwL.writes, may := rwL.may } rwL.footing = true := by
  rw [PySem.W.Fast.te8326940854005059898]
  kernel_rfl
theorem h_s3 : defStands rwL.about rwL.above = true := by
  rw [PySem.W.Fast.te9558739934217749035]
  kernel_rfl
theorem h_s4 : rwL.namesIt = true := by
  rw [PySem.W.Fast.te16286561074155671207]
  kernel_rfl
theorem h_s5 : namesMeet rwL.prog rwL.footing (fun sc n => (!(["type", "isinstance", "issubclass", "getattr", "hasattr"] : List Str).contains n || sc.names.lookup n == some .globalImplicit) &&
    (rwL.may != some n || sc.kind == .module || sc.names.lookup n == some .globalImplicit)) = true := by
  rw [PySem.W.Fast.te17119622794617984870]
  kernel_rfl
theorem h_s6 : namesMeet rwL.prog rwL.above (fun _ n => !rwL.own.contains n) = true := by
  rw [PySem.W.Fast.te17119622794617984870]
  kernel_rfl
theorem h_s7 : namesMeet rwL.prog rwL.footing (fun sc n => sc.kind == .module || sc.names.lookup n != some .globalExplicit) = true := by
  rw [PySem.W.Fast.te17119622794617984870]
  kernel_rfl
theorem h_said : rwL.wellSaid = true := by
  unfold OpenLaw.wellSaid
  rw [h_s1, h_s2, h_s3, h_s4, h_s5, h_s6, h_s7]
  kernel_rfl
noncomputable def lawD : DefRec := match (pw.main.body[75]? : Option Stmt) with
  | some (.FunctionDef n a b _ _ _ sc _ _ pos) => DefRec.mk n a b sc pos
  | _ => DefRec.mk "" ⟨[], [], none, [], [], none, []⟩ [] pw.main.scope pos0
theorem h_holds (walk : WalkO qv [] (XL qv []) hk.says (PySem.Challenge.rw_pf0213_01).row.toRowW lawD [] fun f vs => PySem.call f vs) : (PySem.Challenge.rw_pf0213_01).Holds := by
  refine holds_law h_said fun said => ?_
  refine holds_open (q := qv) (loose := []) (Xt := xt) (XP := XL qv []) (Yf := hk.obs) (Ya := hk.val) (YP := hk.says) (d := lawD) (kwd := []) (N := 6546) h_left hk.of hk.keeps (fun s e => xl_of s (Bool.and_eq_true_iff.mp e).1) XL.keeps ?d1 ?d2 ?d3 (fun s e => recFacts_of (Bool.and_eq_true_iff.mp e).2) ?d4 said ?d5 ⟨?b1, ?b2, ?b3, ?b4, ?b5, ?b6⟩ ?d6 walk
  case d1 => kernel_rfl
  case d2 => kernel_rfl
  case d3 => kernel_rfl
  case d4 => kernel_rfl
  case d5 => kernel_rfl
  case b1 => kernel_rfl
  case b2 => kernel_rfl
  case b3 => kernel_rfl
  case b4 => kernel_rfl
  case b5 => kernel_rfl
  case b6 => decide +kernel
  case d6 => exact ⟨[.list []], by decide +kernel, by decide +kernel⟩
end
section
theorem w_gd {w : World} {s : Shared} {mg mb : Str → Option Value} {mean : ExcName → Option Value} {loose : List Str} (T : Top qv loose mean mg mb s.heap) (KX : (kk w.params).In s.heap) : Gd ⟨pw, w, s.heap, s.os, mg, mb, kk w.params⟩ := by
  refine gd_of T (by kernel_rfl) KX ?a1 ?a2 ?a3 ?a4 ?a5 ?a6 ?a7
  case a1 => exact clsAt_of (C := 84) KX T.g (by kernel_rfl) (by kernel_rfl)
  case a2 => exact clsAt_of (C := 63) KX T.g (by kernel_rfl) (by kernel_rfl)
  case a3 => exact clsAt_of (C := 365) KX T.g (by kernel_rfl) (by kernel_rfl)
  case a4 =>
    intro c a b sc h
    cases h
    exact clsNew_of (C := 63) (fI := 60) (oc := .type "function") (od := none) (osl := Array.mk []) (name := "__init__") (doc := .none) (pm := .str "phpcore.counted" 234) (an := none) (cdv := .ref 59) (ct := .none) KX T.g (by kernel_rfl) (by kernel_rfl) (by kernel_rfl) (by kernel_rfl) (by kernel_rfl) (by kernel_rfl) (by kernel_rfl)
  case a5 =>
    intro c a b sc h
    cases h
    exact clsNew_of (C := 84) (fI := 81) (oc := .type "function") (od := none) (osl := Array.mk []) (name := "__init__") (doc := .none) (pm := .str "phpcore.counted" 234) (an := none) (cdv := .ref 80) (ct := .none) KX T.g (by kernel_rfl) (by kernel_rfl) (by kernel_rfl) (by kernel_rfl) (by kernel_rfl) (by kernel_rfl) (by kernel_rfl)
  case a6 =>
    intro c a b sc h
    cases h
    exact clsNew_of (C := 365) (fI := 362) (oc := .type "function") (od := none) (osl := Array.mk []) (name := "__init__") (doc := .none) (pm := .str "phpcore.weaks" 656) (an := none) (cdv := .ref 361) (ct := .none) KX T.g (by kernel_rfl) (by kernel_rfl) (by kernel_rfl) (by kernel_rfl) (by kernel_rfl) (by kernel_rfl) (by kernel_rfl)
  case a7 =>
    have h : ([("len" : Str), "sorted", "list", "reversed", "enumerate", "zip", "range"].all fun f => nsIn (kk w.params) mainGlobals f == some none) = true := by kernel_rfl
    exact fun f hf => beq_iff_eq.mp (List.all_eq_true.mp h f hf)
end
end Mine.Internal
open Mine.Internal in
set_option maxHeartbeats 8000000 in
theorem PySem.Challenge.cw_pf0213_01_holds : PySem.Challenge.rw_pf0213_01.Holds := by
  refine h_holds ?_
  intro w s₀ s₁ mg mb G Y fa o pm cd doc dV kV ho hd hcd hD hmg hg args vals as hpre hlay hrd hwl hlo
  have KX : (kk w.params).In s₁.heap := kIn_of Y
  have gd := w_gd G.T KX
  have hmg' : mg "law" = some (.ref fa) := hmg
  clear Y G hd ho hcd hD hmg
  wrow_args hpre hlay hrd hwl hlo
  rename_i hL _ _ _ hI _ hz _
  refine wpAny_mono (law_run gd (A := callerA) (s := s₁) ⟨rfl, by decide, by decide⟩ hmg' rfl hg rfl hL hI ?_) (fun v s' ⟨hv, h1, h2, h3⟩ => ?_) fun _ _ f => f.elim
  · have := hI.length
    omega
  · subst hv
    refine GoodW.toG ⟨.inl ⟨_, .bool true, [], rfl, raisesW_false (by wrow_none_raised), .bool true, ?_, fun _ => ⟨.nil, fun _ h => nomatch h⟩⟩, h3, h1, h2⟩
    exact postW_of (by wrow_shape) (by wtm_val) (by str_meet; first | done | w_fin)
