import PyProof.Rows.All
import Wide.All
import OpenK.AllK
import Wide.FinOn
import PySem.Challenge.RW_nu0339_01
set_option Elab.async false
set_option maxRecDepth 100000
set_option linter.unusedVariables false
set_option compiler.extract_closed false

section
open PySem PySem.W PySem.Calls PyProof.Rows
namespace Mine

/-- abstract values -/
inductive AV where
  | none
  | bool (b : Bool)
  | int (i : Int)
  | str (s : Str)
  | ref (a : Addr)
  | bi (id : String)
  | ty (n : String)

noncomputable def av : Value → Option AV
  | .none => some .none
  | .bool b => some (.bool b)
  | .int i _ => some (.int i)
  | .str s _ => some (.str s)
  | .ref a => some (.ref a)
  | .builtin i => some (.bi i)
  | .type n => some (.ty n)
  | _ => Option.none

theorem av_none {v : Value} (h : av v = some .none) : v = .none := by cases v <;> simp_all [av]
theorem av_bool {v : Value} {b : Bool} (h : av v = some (.bool b)) : v = .bool b := by cases v <;> simp_all [av]
theorem av_int {v : Value} {i : Int} (h : av v = some (.int i)) : ∃ t, v = .int i t := by cases v <;> simp_all [av]
theorem av_str {v : Value} {i : Str} (h : av v = some (.str i)) : ∃ t, v = .str i t := by cases v <;> simp_all [av]
theorem av_ref {v : Value} {a : Addr} (h : av v = some (.ref a)) : v = .ref a := by cases v <;> simp_all [av]
theorem av_bi {v : Value} {a : String} (h : av v = some (.bi a)) : v = .builtin a := by cases v <;> simp_all [av]
theorem av_ty {v : Value} {a : String} (h : av v = some (.ty a)) : v = .type a := by cases v <;> simp_all [av]

noncomputable abbrev avs (vs : List Value) (xs : List AV) : Prop := vs.map av = xs.map some

/-- abstract objects -/
inductive AObj where
  | list (xs : List AV)
  | tup (xs : List AV)
  | idict (kvs : List (Int × AV))
  | sdict (kvs : List (Str × AV))
  | inst (C : Addr) (at' : List (Str × AV))
  | meth (f self : Addr)
  | rng (n : Int)
  | tdict (n : Nat)

noncomputable abbrev Hp := Addr → Option AObj
noncomputable abbrev Loc := List (Str × AV)

noncomputable def Hp.set (σ : Hp) (a : Addr) (o : AObj) : Hp := fun b => if b = a then some o else σ b
theorem Hp.set_self (σ : Hp) (a : Addr) (o : AObj) : (σ.set a o) a = some o := by simp [Hp.set]
theorem Hp.set_ne {σ : Hp} {a b : Addr} {o : AObj} (h : b ≠ a) : (σ.set a o) b = σ b := by simp [Hp.set, h]

structure Gx where
  prog : Program
  w : World
  K : Frag
  p : Program
  loose : List Str
  mg : Str → Option Value
  mb : Str → Option Value
  os : OsState

noncomputable abbrev Gx.M (G : Gx) : Model := model G.prog G.w

structure BaseOk (G : Gx) (b : Heap) : Prop where
  X : G.K.In b
  T : TopRead G.p G.loose G.mg G.mb b

theorem BaseOk.keeps {G : Gx} {b h : Heap} (B : BaseOk G b) (k : b.StaysIn h) : BaseOk G h := ⟨B.X.keeps k, B.T.keeps k⟩

/-- what is known of a class of the text -/
structure ClsFacts (K : Frag) (C : Addr) : Prop where
  get : findIn K (.ref C) "__getattribute__" = some (some (.builtin "object.__getattribute__"))
  get2 : findIn K (.ref C) "__getattr__" = some Option.none
  dict : hasDictIn K C = true
  set : findIn K (.ref C) "__setattr__" = some (some (.builtin "object.__setattr__"))
  over : plainOver K C = true

noncomputable def listO (vs : List Value) (n : Nat) : Obj := { cls := .type "list", data := .seq vs.toArray n }
noncomputable def tupO (vs : List Value) (n : Nat) : Obj := { cls := .type "tuple", data := .seq vs.toArray n }

noncomputable def attrOf (e : DictEntry) : Option (Str × AV) := match e.key with
  | .str s _ => (av e.val).map fun x => (s, x)
  | _ => Option.none

section
variable (G : Gx)
noncomputable def Conc (h : Heap) (δ : Addr → Addr) (a : Addr) : AObj → Prop
  | .list xs => ∃ vs n, h.get? a = some (listO vs n) ∧ avs vs xs
  | .tup xs => ∃ vs n, h.get? a = some (tupO vs n) ∧ avs vs xs
  | .idict kvs => ∃ o kv, h.get? a = some o ∧ o.IsDictOf (intKind G.prog G.w) kv ∧ kv.map (fun p => (p.1, av p.2)) = kvs.map (fun p => (p.1, some p.2))
  | .sdict kvs => ∃ o kv, h.get? a = some o ∧ o.IsDictOf (strKind G.prog G.w) kv ∧ kv.map (fun p => (p.1, av p.2)) = kvs.map (fun p => (p.1, some p.2))
  | .inst C at' => ∃ es n, h.get? a = some (instObj C (δ a)) ∧ h.get? (δ a) = some (dictOf es n) ∧ es.map attrOf = at'.map some ∧ ClsFacts G.K C ∧ ∀ q ∈ at', findIn G.K (.ref C) q.1 = some Option.none
  | .meth f self => h.get? a = some (methodObj (.ref f) (.ref self))
  | .rng n => ∃ t u v, h.get? a = some { cls := .type "range", data := .fields #[.int 0 t, .int n u, .int 1 v] }
  | .tdict n => ∃ o es ep, h.get? a = some o ∧ o.ExactDict ∧ o.data = .dict es ep ∧ es.size = n

noncomputable def AObj.isInst : AObj → Bool
  | .inst .. => true
  | _ => false

noncomputable def AObj.isDict : AObj → Bool
  | .idict _ => true
  | .sdict _ => true
  | .tdict _ => true
  | _ => false

/-- the addresses that an abstract object takes -/
noncomputable def At (δ : Addr → Addr) (a : Addr) (o : AObj) (b : Addr) : Prop := b = a ∨ (o.isInst = true ∧ b = δ a)

theorem Conc.keeps {h h' : Heap} {δ δ' : Addr → Addr} {a : Addr} {o : AObj} (c : Conc G h δ a o) (e : o.isInst = true → δ' a = δ a)
    (k : ∀ b x, At δ a o b → h.get? b = some x → h'.get? b = some x) : Conc G h' δ' a o := by
  cases o with
  | list xs => obtain ⟨vs, n, h1, h2⟩ := c; exact ⟨vs, n, k _ _ (.inl rfl) h1, h2⟩
  | tup xs => obtain ⟨vs, n, h1, h2⟩ := c; exact ⟨vs, n, k _ _ (.inl rfl) h1, h2⟩
  | idict kvs => obtain ⟨o, kv, h1, h2⟩ := c; exact ⟨o, kv, k _ _ (.inl rfl) h1, h2⟩
  | sdict kvs => obtain ⟨o, kv, h1, h2⟩ := c; exact ⟨o, kv, k _ _ (.inl rfl) h1, h2⟩
  | inst C at' =>
    obtain ⟨es, n, h1, h2, h3⟩ := c
    have := e rfl
    refine ⟨es, n, ?_, ?_, h3⟩
    · rw [this]; exact k _ _ (.inl rfl) h1
    · rw [this]; exact k _ _ (.inr ⟨rfl, rfl⟩) h2
  | meth f self => exact k _ _ (.inl rfl) c
  | rng n => obtain ⟨t, u, v, h1⟩ := c; exact ⟨t, u, v, k _ _ (.inl rfl) h1⟩
  | tdict n => obtain ⟨o, es, ep, h1, h2⟩ := c; exact ⟨o, es, ep, k _ _ (.inl rfl) h1, h2⟩

theorem Conc.there {h : Heap} {δ : Addr → Addr} {a : Addr} {o : AObj} (c : Conc G h δ a o) : ∀ b, At δ a o b → ∃ x, h.get? b = some x := by
  intro b hb
  cases o with
  | list xs => obtain ⟨vs, n, h1, h2⟩ := c; rcases hb with rfl | ⟨q, _⟩; exact ⟨_, h1⟩; cases q
  | tup xs => obtain ⟨vs, n, h1, h2⟩ := c; rcases hb with rfl | ⟨q, _⟩; exact ⟨_, h1⟩; cases q
  | idict kvs => obtain ⟨o, kv, h1, h2⟩ := c; rcases hb with rfl | ⟨q, _⟩; exact ⟨_, h1⟩; cases q
  | sdict kvs => obtain ⟨o, kv, h1, h2⟩ := c; rcases hb with rfl | ⟨q, _⟩; exact ⟨_, h1⟩; cases q
  | inst C at' => obtain ⟨es, n, h1, h2, h3⟩ := c; rcases hb with rfl | ⟨_, rfl⟩; exact ⟨_, h1⟩; exact ⟨_, h2⟩
  | meth f self => rcases hb with rfl | ⟨q, _⟩; exact ⟨_, c⟩; cases q
  | rng n => obtain ⟨t, u, v, h1⟩ := c; rcases hb with rfl | ⟨q, _⟩; exact ⟨_, h1⟩; cases q
  | tdict n => obtain ⟨o, es, ep, h1, h2⟩ := c; rcases hb with rfl | ⟨q, _⟩; exact ⟨_, h1⟩; cases q

/-- the lie of the abstract heap in the heap; L is a frame's address (or any that is kept apart) -/
structure Lay (base : Heap) (σ : Hp) (h : Heap) (δ : Addr → Addr) : Prop where
  lo : ∀ a o, σ a = some o → o.isDict = true → 3 < a
  conc : ∀ a o, σ a = some o → Conc G h δ a o
  off : ∀ a o b, σ a = some o → At δ a o b → base.get? b = Option.none
  apart : ∀ a o, σ a = some o → o.isInst = true → σ (δ a) = Option.none
  inj : ∀ a b o o', σ a = some o → σ b = some o' → o.isInst = true → o'.isInst = true → δ a = δ b → a = b

structure Rep (base : Heap) (σ : Hp) (h : Heap) : Prop where
  keep : base.StaysIn h
  lay : ∃ δ, Lay G base σ h δ

/-- with a frame: its locals' dict at L -/
structure FRep (base : Heap) (L : Addr) (μ : Loc) (σ : Hp) (h : Heap) : Prop where
  keep : base.StaysIn h
  off : base.get? L = Option.none
  loc : ∃ m, h.Ns L m ∧ ∀ x, (m x).map av = (μ.lookup x).map some
  lay : ∃ δ, Lay G base σ h δ ∧ ∀ a o, σ a = some o → ¬ At δ a o L
end

variable {G : Gx} {base h h' : Heap} {σ σ' : Hp} {δ : Addr → Addr} {L : Addr} {μ : Loc}

theorem Lay.touch (Y : Lay G base σ h δ) (k : ∀ a o b x, σ a = some o → At δ a o b → h.get? b = some x → h'.get? b = some x) : Lay G base σ h' δ :=
  ⟨Y.lo, fun a o e => (Y.conc a o e).keeps G (fun _ => rfl) fun b x hb hx => k a o b x e hb hx, Y.off, Y.apart, Y.inj⟩

theorem Lay.sub (Y : Lay G base σ h δ) (s : ∀ a o, σ' a = some o → σ a = some o) : Lay G base σ' h δ :=
  ⟨fun a o e => Y.lo a o (s a o e), fun a o e => Y.conc a o (s a o e), fun a o b e => Y.off a o b (s a o e), fun a o e i => by
    cases q : σ' (δ a) with
    | none => rfl
    | some x => (have := s _ _ q; rw [Y.apart a o (s a o e) i] at this; exact nomatch this),
   fun a b o o' e e' => Y.inj a b o o' (s a o e) (s b o' e')⟩

/-- two abstract objects take no common address -/
theorem Lay.disj (Y : Lay G base σ h δ) {a b c : Addr} {o o' : AObj} (e : σ a = some o) (e' : σ b = some o') (hc : At δ a o c) (hc' : At δ b o' c) : a = b := by
  rcases hc with rfl | ⟨i, rfl⟩ <;> rcases hc' with r | ⟨i', r⟩
  · exact r
  · subst r; rw [Y.apart b o' e' i'] at e; cases e
  · subst r; rw [Y.apart a o e i] at e'; cases e'
  · exact Y.inj a b o o' e e' i i' r

/-- an object of the abstract heap is turned -/
theorem Lay.turn (Y : Lay G base σ h δ) {a : Addr} {o o' : AObj} (e : σ a = some o) (i : o'.isInst = o.isInst) (dk : o'.isDict = o.isDict) (c : Conc G h' δ a o')
    (k : ∀ d od b x, σ d = some od → At δ d od b → ¬ At δ a o b → h.get? b = some x → h'.get? b = some x) : Lay G base (σ.set a o') h' δ := by
  have at_ : ∀ b, At δ a o' b ↔ At δ a o b := fun b => by unfold At; rw [i]
  refine ⟨fun b ob q ni => ?_, fun b ob q => ?_, fun b ob c' q hb => ?_, fun b ob q ib => ?_, fun b b' ob ob' q q' ib ib' r => ?_⟩
  · by_cases hb : b = a
    · subst hb; rw [Hp.set_self] at q; cases q; exact Y.lo _ _ e (dk ▸ ni)
    · rw [Hp.set_ne hb] at q; exact Y.lo _ _ q ni
  · by_cases hb : b = a
    · subst hb; rw [Hp.set_self] at q; cases q; exact c
    · rw [Hp.set_ne hb] at q
      exact (Y.conc b ob q).keeps G (fun _ => rfl) fun y x hy hx => k b ob y x q hy (fun z => hb (Y.disj q e hy z)) hx
  · by_cases hb' : b = a
    · subst hb'; rw [Hp.set_self] at q; cases q; exact Y.off _ _ _ e ((at_ _).mp hb)
    · rw [Hp.set_ne hb'] at q; exact Y.off _ _ _ q hb
  · have key : ∀ ob', σ b = some ob' → ob'.isInst = true → (σ.set a o') (δ b) = Option.none := fun ob' q' i' => by
      have h1 := Y.apart b ob' q' i'
      have : δ b ≠ a := fun z => by rw [z, e] at h1; cases h1
      rw [Hp.set_ne this]; exact h1
    by_cases hb : b = a
    · subst hb; rw [Hp.set_self] at q; cases q; exact key o e (i ▸ ib)
    · rw [Hp.set_ne hb] at q; exact key ob q ib
  · have get : ∀ b ob, (σ.set a o') b = some ob → ob.isInst = true → ∃ o₁, σ b = some o₁ ∧ o₁.isInst = true := fun b ob q ib => by
      by_cases hb : b = a
      · subst hb; rw [Hp.set_self] at q; cases q; exact ⟨o, e, i ▸ ib⟩
      · rw [Hp.set_ne hb] at q; exact ⟨ob, q, ib⟩
    obtain ⟨o₁, q1, i1⟩ := get b ob q ib
    obtain ⟨o₂, q2, i2⟩ := get b' ob' q' ib'
    exact Y.inj b b' o₁ o₂ q1 q2 i1 i2 r

/-- a new object, no object -/
theorem Lay.more (Y : Lay G base σ h δ) {a : Addr} {o : AObj} (n : h.get? a = Option.none) (lo : o.isDict = true → 3 < a) (hb : base.get? a = Option.none) (i : o.isInst = false) (c : Conc G h' δ a o)
    (k : ∀ d od b x, σ d = some od → At δ d od b → h.get? b = some x → h'.get? b = some x) : Lay G base (σ.set a o) h' δ := by
  have new : ∀ b ob, σ b = some ob → b ≠ a := fun b ob q z => by
    obtain ⟨x, hx⟩ := (Y.conc b ob q).there G b (.inl rfl)
    rw [z, n] at hx; cases hx
  have newd : ∀ b ob, σ b = some ob → ob.isInst = true → δ b ≠ a := fun b ob q ib z => by
    obtain ⟨x, hx⟩ := (Y.conc b ob q).there G (δ b) (.inr ⟨ib, rfl⟩)
    rw [z, n] at hx; cases hx
  have old : ∀ b ob, (σ.set a o) b = some ob → ob.isInst = true → b ≠ a ∧ σ b = some ob := fun b ob q ib => by
    by_cases z : b = a
    · subst z; rw [Hp.set_self] at q; cases q; rw [i] at ib; cases ib
    · rw [Hp.set_ne z] at q; exact ⟨z, q⟩
  refine ⟨fun b ob q ni => ?_, fun b ob q => ?_, fun b ob y q hy => ?_, fun b ob q ib => ?_, fun b b' ob ob' q q' ib ib' r => ?_⟩
  · by_cases z : b = a
    · subst z; rw [Hp.set_self] at q; cases q; exact lo ni
    · rw [Hp.set_ne z] at q; exact Y.lo _ _ q ni
  · by_cases z : b = a
    · subst z; rw [Hp.set_self] at q; cases q; exact c
    · rw [Hp.set_ne z] at q; exact (Y.conc b ob q).keeps G (fun _ => rfl) fun _ _ hy hx => k _ _ _ _ q hy hx
  · by_cases z : b = a
    · subst z; rw [Hp.set_self] at q; cases q
      rcases hy with rfl | ⟨ii, _⟩
      · exact hb
      · rw [i] at ii; cases ii
    · rw [Hp.set_ne z] at q; exact Y.off _ _ _ q hy
  · obtain ⟨_, q'⟩ := old b ob q ib
    rw [Hp.set_ne (newd b ob q' ib)]; exact Y.apart b ob q' ib
  · obtain ⟨_, q1⟩ := old b ob q ib
    obtain ⟨_, q2⟩ := old b' ob' q' ib'
    exact Y.inj b b' ob ob' q1 q2 ib ib' r

noncomputable def dset (δ : Addr → Addr) (x dx : Addr) : Addr → Addr := fun b => if b = x then dx else δ b
theorem dset_self (δ : Addr → Addr) (x dx : Addr) : dset δ x dx x = dx := if_pos rfl
theorem dset_ne {δ : Addr → Addr} {x dx b : Addr} (h : b ≠ x) : dset δ x dx b = δ b := if_neg h
/-- a new object -/
theorem Lay.moreInst (Y : Lay G base σ h δ) {x dx C : Addr} (n : h.get? x = Option.none) (nd : h.get? dx = Option.none) (ne : x ≠ dx) (hb : base.get? x = Option.none) (hbd : base.get? dx = Option.none)
    (hx : h'.get? x = some (instObj C dx)) (hd : h'.get? dx = some (dictOf [] 0)) (cf : ClsFacts G.K C) (k : ∀ d od b x, σ d = some od → At δ d od b → h.get? b = some x → h'.get? b = some x) :
    ∃ δ', Lay G base (σ.set x (.inst C [])) h' δ' ∧ (∀ b ob, σ b = some ob → δ' b = δ b) ∧ δ' x = dx := by
  have new : ∀ b ob, σ b = some ob → b ≠ x := fun b ob q z => by
    obtain ⟨y, hy⟩ := (Y.conc b ob q).there G b (.inl rfl)
    rw [z, n] at hy; cases hy
  have dn : ∀ b ob, σ b = some ob → b ≠ dx := fun b ob q z => by
    obtain ⟨y, hy⟩ := (Y.conc b ob q).there G b (.inl rfl)
    rw [z, nd] at hy; cases hy
  have newd : ∀ b ob, σ b = some ob → ob.isInst = true → δ b ≠ x ∧ δ b ≠ dx := fun b ob q ib => by
    obtain ⟨y, hy⟩ := (Y.conc b ob q).there G (δ b) (.inr ⟨ib, rfl⟩)
    exact ⟨fun z => by (rw [z, n] at hy; exact nomatch hy), fun z => by (rw [z, nd] at hy; exact nomatch hy)⟩
  have sdx : σ dx = Option.none := by
    cases q : σ dx with
    | none => rfl
    | some o => exact absurd rfl (dn _ _ q)
  refine ⟨dset δ x dx, ?_, fun b ob q => dset_ne (new b ob q), dset_self _ _ _⟩
  have dself : dset δ x dx x = dx := dset_self _ _ _
  have doth : ∀ b, b ≠ x → dset δ x dx b = δ b := fun b z => dset_ne z
  refine ⟨fun b ob q ni => ?_, fun b ob q => ?_, fun b ob y q hy => ?_, fun b ob q ib => ?_, fun b b' ob ob' q q' ib ib' r => ?_⟩
  · by_cases z : b = x
    · subst z; rw [Hp.set_self] at q; cases q; cases ni
    · rw [Hp.set_ne z] at q; exact Y.lo _ _ q ni
  · by_cases z : b = x
    · subst z; rw [Hp.set_self] at q; cases q
      exact ⟨[], 0, by rw [dself]; exact hx, by rw [dself]; exact hd, rfl, cf, fun _ hq => nomatch hq⟩
    · rw [Hp.set_ne z] at q; exact (Y.conc b ob q).keeps G (fun _ => doth b z) fun _ _ hy hx => k _ _ _ _ q hy hx
  · by_cases z : b = x
    · subst z; rw [Hp.set_self] at q; cases q
      rcases hy with rfl | ⟨_, e⟩
      · exact hb
      · rw [e, dself]; exact hbd
    · rw [Hp.set_ne z] at q
      refine Y.off _ _ _ q ?_
      rcases hy with e | ⟨i, e⟩
      · exact .inl e
      · exact .inr ⟨i, by rw [e, doth b z]⟩
  · by_cases z : b = x
    · subst z; rw [dself, Hp.set_ne (Ne.symm ne)]; exact sdx
    · rw [Hp.set_ne z] at q
      rw [doth b z, Hp.set_ne (newd b ob q ib).1]; exact Y.apart b ob q ib
  · by_cases z : b = x <;> by_cases z' : b' = x
    · rw [z, z']
    · subst z; rw [Hp.set_ne z'] at q'; rw [dself, doth b' z'] at r; exact absurd r.symm (newd b' ob' q' ib').2
    · subst z'; rw [Hp.set_ne z] at q; rw [dself, doth b z] at r; exact absurd r (newd b ob q ib).2
    · rw [Hp.set_ne z] at q; rw [Hp.set_ne z'] at q'; rw [doth b z, doth b' z'] at r; exact Y.inj b b' ob ob' q q' ib ib' r

/-! hiding -/
noncomputable def hideP (h : Heap) (P : Addr → Prop) : Heap :=
  ⟨h.objs.mapIdx fun i o => open Classical in if P i then { o with data := .freed } else o, h.life⟩
theorem hideP_size (h : Heap) (P : Addr → Prop) : (hideP h P).objs.size = h.objs.size := by simp [hideP]
theorem hideP_in {h : Heap} {P : Addr → Prop} {a : Addr} (p : P a) : (hideP h P).get? a = Option.none := by
  unfold hideP Heap.get?
  simp only [Array.getElem?_mapIdx]
  cases q : h.objs[a]? with
  | none => simp
  | some o => simp [p]
theorem hideP_out {h : Heap} {P : Addr → Prop} {a : Addr} (p : ¬ P a) : (hideP h P).get? a = h.get? a := by
  unfold hideP Heap.get?
  simp only [Array.getElem?_mapIdx]
  cases q : h.objs[a]? with
  | none => simp
  | some o => simp [p]
theorem of_hideP {h : Heap} {P : Addr → Prop} {a : Addr} {o : Obj} (e : (hideP h P).get? a = some o) : h.get? a = some o ∧ ¬ P a := by
  by_cases p : P a
  · rw [hideP_in p] at e; cases e
  · rw [hideP_out p] at e; exact ⟨e, p⟩

/-- all that the abstract heap takes -/
noncomputable def Foot (σ : Hp) (δ : Addr → Addr) (b : Addr) : Prop := ∃ a o, σ a = some o ∧ At δ a o b

/-- leaving a frame for a call: all else goes into the base -/
theorem FRep.leaveC (F : FRep G base L μ σ h) : ∃ b', base.StaysIn b' ∧ b'.objs.size = h.objs.size ∧ Rep G b' σ h ∧
    (∀ σ' h', Rep G b' σ' h' → FRep G base L μ σ' h') ∧ (∀ C μ' σ' h', FRep G b' C μ' σ' h' → ∃ b2 o, base.StaysIn b2 ∧ FRep G b2 L μ σ' h' ∧ b2.get? C = some o) := by
  obtain ⟨k, off, ⟨m, hn, hm⟩, δ, Y, ap⟩ := F
  have kb : base.StaysIn (hideP h (Foot σ δ)) := fun b o e => by
    rw [hideP_out, k b o e]
    rintro ⟨a, oa, q, hb⟩
    rw [Y.off a oa b q hb] at e; cases e
  obtain ⟨oL, es, ep, hL, hr⟩ := hn
  have hL' : (hideP h (Foot σ δ)).get? L = some oL := by
    rw [hideP_out, hL]
    rintro ⟨a, oa, q, hb⟩
    exact ap a oa q hb
  refine ⟨hideP h (Foot σ δ), kb, hideP_size h _, ⟨fun b o e => (of_hideP e).1, δ, ⟨Y.lo, Y.conc, fun a o b e hb => hideP_in ⟨a, o, e, hb⟩, Y.apart, Y.inj⟩⟩, fun σ' h' R => ?_, fun C μ' σ' h' F' => ?_⟩
  · obtain ⟨k', δ', Y'⟩ := R
    refine ⟨fun b o e => k' b o (kb b o e), off, ⟨m, ⟨oL, es, ep, k' L oL hL', hr⟩, hm⟩, δ', ⟨Y'.lo, Y'.conc, fun a o b e hb => ?_, Y'.apart, Y'.inj⟩, fun a o e hb => ?_⟩
    · cases q : base.get? b with
      | none => rfl
      | some x => have := Y'.off a o b e hb; rw [kb b x q] at this; cases this
    · have := Y'.off a o L e hb
      rw [hL'] at this; cases this
  · obtain ⟨k', off', ⟨m', hn', _⟩, δ', Y', ap'⟩ := F'
    have hCL : C ≠ L := fun z => by rw [z, hL'] at off'; cases off'
    obtain ⟨oC, _, _, hC, _⟩ := hn'
    have hLf : ¬ Foot σ' δ' L := fun ⟨a, o, q, hb⟩ => by have := Y'.off a o L q hb; rw [hL'] at this; cases this
    refine ⟨hideP h' fun y => Foot σ' δ' y ∨ y = L, oC, fun b o e => ?_, ⟨fun b o e => (of_hideP e).1, hideP_in (.inr rfl), ⟨m, ⟨oL, es, ep, k' L oL hL', hr⟩, hm⟩, δ', ⟨Y'.lo, Y'.conc, fun a o b e hb => hideP_in (.inl ⟨a, o, e, hb⟩), Y'.apart, Y'.inj⟩, fun a o e hb => hLf ⟨a, o, e, hb⟩⟩, ?_⟩
    · have e' := kb b o e
      rw [hideP_out, k' b o e']
      rintro (⟨a, oa, q, hb⟩ | rfl)
      · rw [Y'.off a oa b q hb] at e'; cases e'
      · rw [off] at e; cases e
    · rw [hideP_out, hC]
      rintro (⟨a, oa, q, hb⟩ | z)
      · exact ap' a oa q hb
      · exact hCL z
theorem FRep.leaveS (F : FRep G base L μ σ h) : ∃ b', base.StaysIn b' ∧ b'.objs.size = h.objs.size ∧ Rep G b' σ h ∧
    ∀ σ' h', Rep G b' σ' h' → FRep G base L μ σ' h' := by
  obtain ⟨b', a, b, c, d, _⟩ := F.leaveC
  exact ⟨b', a, b, c, d⟩

theorem FRep.toRep (F : FRep G base L μ σ h) : Rep G base σ h := ⟨F.keep, let ⟨δ, Y, _⟩ := F.lay; ⟨δ, Y⟩⟩

theorem size3 (B : BaseOk G base) (k : base.StaysIn h) : 3 < h.objs.size := by
  obtain ⟨o, es, ep, ho, _⟩ := B.T.g
  exact Heap.lt_size (k _ _ ho)

end Mine
end

section
open PySem PySem.W PySem.Calls PyProof.Rows
namespace Mine

structure AOk (A : Around) (n : Nat) : Prop where
  hd : A.handled = Option.none
  depth : A.depth + 2 * n < 900
  units : A.units + 12 * n < 9000

theorem AOk.mono {A : Around} {n m : Nat} (h : AOk A n) (k : m ≤ n) : AOk A m := ⟨h.hd, by have := h.depth; omega, by have := h.units; omega⟩
theorem AOk.room {A : Around} {n : Nat} (h : AOk A n) : A.depth < recursionLimit := by have := h.depth; unfold recursionLimit; omega
theorem AOk.cunits {A : Around} {n : Nat} (h : AOk A n) : A.units < cLine := by have := h.units; unfold cLine; omega
theorem AOk.deeper {A : Around} {n : Nat} (h : AOk A (n + 1)) (e : Env) : AOk (A.deeper e) n :=
  ⟨h.hd, by have := h.depth; show A.depth + 1 + 2 * n < 900; omega, by have := h.units; show A.units + 3 + 12 * n < 9000; omega⟩

structure Cx (G : Gx) where
  A : Around
  base : Heap
  L : Addr
  n : Nat
  ok : AOk A n
  b : BaseOk G base
  b0 : Heap
  b0b : BaseOk G b0
  b0L : b0.objs.size ≤ L
  b0s : b0.StaysIn base

noncomputable def Still (G : Gx) (s : Shared) : Prop := s.gens = #[] ∧ s.os = G.os

variable {G : Gx} {α β : Type}

noncomputable def W (c : Cx G) (t : Sem α) (μ : Loc) (σ : Hp) (Q : α → Loc → Hp → Prop) : Prop :=
  ∀ s, FRep G c.base c.L μ σ s.heap → Still G s → wpAny G.M c.A t (fun a s' => ∃ μ' σ', FRep G c.base c.L μ' σ' s'.heap ∧ Still G s' ∧ Q a μ' σ') (fun _ _ => False) s

/-- an expression: its value's abstraction -/
noncomputable def VQ (Q : AV → Loc → Hp → Prop) : Value → Loc → Hp → Prop := fun v μ σ => ∃ x, av v = some x ∧ Q x μ σ
noncomputable abbrev EV (c : Cx G) (t : Sem Value) (μ : Loc) (σ : Hp) (Q : AV → Loc → Hp → Prop) : Prop := W c t μ σ (VQ Q)
/-- a list of values -/
noncomputable def VsQ (Q : List AV → Loc → Hp → Prop) : List Value → Loc → Hp → Prop := fun v μ σ => ∃ x, avs v x ∧ Q x μ σ
noncomputable abbrev EVs (c : Cx G) (t : Sem (List Value)) (μ : Loc) (σ : Hp) (Q : List AV → Loc → Hp → Prop) : Prop := W c t μ σ (VsQ Q)
/-- a test -/
noncomputable abbrev TV (c : Cx G) (e : Expr) (env : Env) (μ : Loc) (σ : Hp) (Q : Bool → Loc → Hp → Prop) : Prop := W c (isTrue e env (eval e env)) μ σ Q
/-- a flow -/
inductive AF where
  | next | brk | cont
  | ret (x : AV)
noncomputable def af : Flow → Option AF
  | .next => some .next
  | .brk => some .brk
  | .cont => some .cont
  | .ret v => (av v).map .ret
noncomputable def FQ (Q : AF → Loc → Hp → Prop) : Flow → Loc → Hp → Prop := fun v μ σ => ∃ x, af v = some x ∧ Q x μ σ
noncomputable abbrev SV (c : Cx G) (t : Sem Flow) (μ : Loc) (σ : Hp) (Q : AF → Loc → Hp → Prop) : Prop := W c t μ σ (FQ Q)

variable {c : Cx G} {μ : Loc} {σ : Hp}

theorem W.mono {t : Sem α} {Q Q' : α → Loc → Hp → Prop} (h : W c t μ σ Q) (k : ∀ a μ σ, Q a μ σ → Q' a μ σ) : W c t μ σ Q' := fun s F S =>
  wpAny_mono (h s F S) (fun _ _ ⟨μ', σ', F', S', q⟩ => ⟨μ', σ', F', S', k _ _ _ q⟩) fun _ _ e => e
theorem EV.mono {t : Sem Value} {Q Q' : AV → Loc → Hp → Prop} (h : EV c t μ σ Q) (k : ∀ a μ σ, Q a μ σ → Q' a μ σ) : EV c t μ σ Q' :=
  W.mono h fun _ _ _ ⟨x, e, q⟩ => ⟨x, e, k _ _ _ q⟩
theorem EVs.mono {t : Sem (List Value)} {Q Q' : List AV → Loc → Hp → Prop} (h : EVs c t μ σ Q) (k : ∀ a μ σ, Q a μ σ → Q' a μ σ) : EVs c t μ σ Q' :=
  W.mono h fun _ _ _ ⟨x, e, q⟩ => ⟨x, e, k _ _ _ q⟩
theorem SV.mono {t : Sem Flow} {Q Q' : AF → Loc → Hp → Prop} (h : SV c t μ σ Q) (k : ∀ a μ σ, Q a μ σ → Q' a μ σ) : SV c t μ σ Q' :=
  W.mono h fun _ _ _ ⟨x, e, q⟩ => ⟨x, e, k _ _ _ q⟩

/-- the end of a walk under a short name -/
theorem W.post {t : Sem α} {Q : α → Loc → Hp → Prop} (h : ∀ P : α → Loc → Hp → Prop, (∀ a μ σ, Q a μ σ → P a μ σ) → W c t μ σ P) : W c t μ σ Q := h Q fun _ _ _ z => z
theorem EV.post {t : Sem Value} {Q : AV → Loc → Hp → Prop} (h : ∀ P : AV → Loc → Hp → Prop, (∀ a μ σ, Q a μ σ → P a μ σ) → EV c t μ σ P) : EV c t μ σ Q := h Q fun _ _ _ z => z
theorem SV.post {t : Sem Flow} {Q : AF → Loc → Hp → Prop} (h : ∀ P : AF → Loc → Hp → Prop, (∀ a μ σ, Q a μ σ → P a μ σ) → SV c t μ σ P) : SV c t μ σ Q := h Q fun _ _ _ z => z

theorem FRep.sub {base h : Heap} {L : Addr} {σ' : Hp} (F : FRep G base L μ σ h) (k : ∀ a o, σ' a = some o → σ a = some o) : FRep G base L μ σ' h :=
  ⟨F.keep, F.off, F.loc, let ⟨δ, Y, ap⟩ := F.lay; ⟨δ, Y.sub k, fun a o e => ap a o (k a o e)⟩⟩
theorem Rep.sub {base h : Heap} {σ' : Hp} (F : Rep G base σ h) (k : ∀ a o, σ' a = some o → σ a = some o) : Rep G base σ' h :=
  ⟨F.keep, let ⟨δ, Y⟩ := F.lay; ⟨δ, Y.sub k⟩⟩
theorem W.forget {t : Sem α} {Q : α → Loc → Hp → Prop} {σ' : Hp} (h : W c t μ σ' Q) (k : ∀ a o, σ' a = some o → σ a = some o) : W c t μ σ Q :=
  fun s F S => h s (F.sub k) S

/-- using a W: the workhorse -/
theorem W.run {t : Sem α} {Q : α → Loc → Hp → Prop} {R : α → Shared → Prop} (h : W c t μ σ Q) {s : Shared} (F : FRep G c.base c.L μ σ s.heap) (S : Still G s)
    (k : ∀ a s' μ' σ', FRep G c.base c.L μ' σ' s'.heap → Still G s' → Q a μ' σ' → R a s') : wpAny G.M c.A t R (fun _ _ => False) s :=
  wpAny_mono (h s F S) (fun a s' ⟨μ', σ', F', S', q⟩ => k a s' μ' σ' F' S' q) fun _ _ e => e
theorem EV.run {t : Sem Value} {Q : AV → Loc → Hp → Prop} {R : Value → Shared → Prop} (h : EV c t μ σ Q) {s : Shared} (F : FRep G c.base c.L μ σ s.heap) (S : Still G s)
    (k : ∀ a x s' μ' σ', FRep G c.base c.L μ' σ' s'.heap → Still G s' → av a = some x → Q x μ' σ' → R a s') : wpAny G.M c.A t R (fun _ _ => False) s :=
  W.run h F S fun a s' μ' σ' F' S' ⟨x, e, q⟩ => k a x s' μ' σ' F' S' e q

theorem W.bind {m : Sem α} {f : α → Sem β} {Q : β → Loc → Hp → Prop} (h : W c m μ σ fun a μ σ => W c (f a) μ σ Q) : W c (m >>= f) μ σ Q := fun _ F S =>
  wpAny_bind (h.run F S fun _ s' _ _ F' S' q => q s' F' S')
theorem W.pure {a : α} {Q : α → Loc → Hp → Prop} (h : Q a μ σ) : W c (pure a) μ σ Q := fun _ F S => wpAny_pure ⟨μ, σ, F, S, h⟩

section nodes
variable {env : Env} {Q : AV → Loc → Hp → Prop}

/-- a built-in operation on two values, by their abstractions -/
noncomputable def Op (c : Cx G) (t : Value → Value → Sem Value) (x y : AV) (μ : Loc) (σ : Hp) (Q : AV → Loc → Hp → Prop) : Prop :=
  ∀ a b, av a = some x → av b = some y → EV c (t a b) μ σ Q
noncomputable def Op1 (c : Cx G) (t : Value → Sem Value) (x : AV) (μ : Loc) (σ : Hp) (Q : AV → Loc → Hp → Prop) : Prop :=
  ∀ a, av a = some x → EV c (t a) μ σ Q
noncomputable def OpT (c : Cx G) (x : AV) (μ : Loc) (σ : Hp) (Q : Bool → Loc → Hp → Prop) : Prop :=
  ∀ a, av a = some x → W c (truthy a) μ σ Q

theorem E_BinOp {l r : Expr} {op : Operator} {pos : Pos}
    (h : EV c (eval l env) μ σ fun x μ σ => EV c (eval r env) μ σ fun y μ σ => Op c (binaryOp op) x y μ σ Q) : EV c (eval (.BinOp l op r pos) env) μ σ Q := fun _ F S =>
  wpAny_BinOp (h.run F S fun a x s₁ _ _ F₁ S₁ ha h₁ => h₁.run F₁ S₁ fun b y s₂ _ _ F₂ S₂ hb h₂ => h₂ a b ha hb s₂ F₂ S₂)

theorem E_UnaryOp {e : Expr} {op : UnaryOp} {pos : Pos} (h : EV c (eval e env) μ σ fun x μ σ => Op1 c (unaryOp op) x μ σ Q) : EV c (eval (.UnaryOp op e pos) env) μ σ Q := fun _ F S =>
  wpAny_UnaryOp (h.run F S fun a x s₁ _ _ F₁ S₁ ha h₁ => h₁ a ha s₁ F₁ S₁)

theorem E_Compare {l r : Expr} {op : CmpOp} {pos : Pos}
    (h : EV c (eval l env) μ σ fun x μ σ => EV c (eval r env) μ σ fun y μ σ => Op c (compareOp op) x y μ σ Q) (hm : behindInMarks op r = false := by with_unfolding_all rfl) : EV c (eval (.Compare l [op] [r] pos) env) μ σ Q := fun _ F S =>
  wpAny_Compare1 (hm := hm) (h.run F S fun a x s₁ _ _ F₁ S₁ ha h₁ => h₁.run F₁ S₁ fun b y s₂ _ _ F₂ S₂ hb h₂ => h₂ a b ha hb s₂ F₂ S₂)

theorem T_Compare {l r : Expr} {op : CmpOp} {pos : Pos} {w : Sem Value} {Q : Bool → Loc → Hp → Prop}
    (h : EV c (eval l env) μ σ fun x μ σ => EV c (eval r env) μ σ fun y μ σ => Op c (compareOp op) x y μ σ fun z μ σ => OpT c z μ σ Q) (hm : behindInMarks op r = false := by with_unfolding_all rfl) :
    W c (isTrue (.Compare l [op] [r] pos) env w) μ σ Q := fun _ F S =>
  wpAny_isTrue_Compare1 (hm := hm) (h.run F S fun a x s₁ _ _ F₁ S₁ ha h₁ => h₁.run F₁ S₁ fun b y s₂ _ _ F₂ S₂ hb h₂ => EV.run (h₂ a b ha hb) F₂ S₂ fun z zz s₃ _ _ F₃ S₃ hz h₃ => h₃ z hz s₃ F₃ S₃)

theorem T_Not {e : Expr} {pos : Pos} {w : Sem Value} {Q : Bool → Loc → Hp → Prop} (h : TV c e env μ σ fun b μ σ => Q (!b) μ σ) : W c (isTrue (.UnaryOp .Not e pos) env w) μ σ Q := fun s F S =>
  wpAny_isTrue_Not (h s F S)

theorem E_IfExp {t b o : Expr} {pos : Pos} (h : TV c t env μ σ fun z μ σ => if z then EV c (eval b env) μ σ Q else EV c (eval o env) μ σ Q) : EV c (eval (.IfExp t b o pos) env) μ σ Q := fun _ F S =>
  wpAny_IfExp (h.run F S fun z s₁ _ _ F₁ S₁ h₁ => by cases z <;> exact h₁ s₁ F₁ S₁)

theorem E_And2 {x y : Expr} {pos : Pos} (h : EV c (eval x env) μ σ fun v μ σ => OpT c v μ σ fun t μ σ => if t then EV c (eval y env) μ σ Q else Q v μ σ) : EV c (eval (.BoolOp .And [x, y] pos) env) μ σ Q := fun _ F S =>
  wpAny_And2 (h.run F S fun a x s₁ _ _ F₁ S₁ ha h₁ => W.run (h₁ a ha) F₁ S₁ fun t s₂ μ₂ σ₂ F₂ S₂ h₂ => by
    cases t
    · exact ⟨μ₂, σ₂, F₂, S₂, x, ha, h₂⟩
    · exact h₂ s₂ F₂ S₂)
theorem E_Or2 {x y : Expr} {pos : Pos} (h : EV c (eval x env) μ σ fun v μ σ => OpT c v μ σ fun t μ σ => if t then Q v μ σ else EV c (eval y env) μ σ Q) : EV c (eval (.BoolOp .Or [x, y] pos) env) μ σ Q := fun _ F S =>
  wpAny_Or2 (h.run F S fun a x s₁ _ _ F₁ S₁ ha h₁ => W.run (h₁ a ha) F₁ S₁ fun t s₂ μ₂ σ₂ F₂ S₂ h₂ => by
    cases t
    · exact h₂ s₂ F₂ S₂
    · exact ⟨μ₂, σ₂, F₂, S₂, x, ha, h₂⟩)

theorem E_none {k : Nat} {pos : Pos} (h : Q .none μ σ) : EV c (eval (.Constant .none k pos) env) μ σ Q := fun _ F S => wpAny_Constant_none ⟨μ, σ, F, S, _, rfl, h⟩
theorem E_bool {b : Bool} {k : Nat} {pos : Pos} (h : Q (.bool b) μ σ) : EV c (eval (.Constant (.bool b) k pos) env) μ σ Q := fun _ F S => wpAny_Constant_bool ⟨μ, σ, F, S, _, rfl, h⟩
theorem E_int {i : Int} {k : Nat} {pos : Pos} (h : Q (.int i) μ σ) : EV c (eval (.Constant (.int i) k pos) env) μ σ Q := fun _ F S => wpAny_Constant_int ⟨μ, σ, F, S, _, rfl, h⟩
theorem E_str {i : Str} {k : Nat} {pos : Pos} (h : Q (.str i) μ σ) : EV c (eval (.Constant (.str i) k pos) env) μ σ Q := fun _ F S => wpAny_Constant_str ⟨μ, σ, F, S, _, rfl, h⟩

end nodes

end Mine
end

section
open PySem PySem.W PySem.Calls PyProof.Rows
namespace Mine
variable {G : Gx} {c : Cx G} {μ : Loc} {σ : Hp} {env : Env} {Q : AV → Loc → Hp → Prop}

/-! what is left of a heap -/
theorem FRep.grow {base h h' : Heap} {L : Addr} (F : FRep G base L μ σ h) (k : ∀ b o, h.get? b = some o → h'.get? b = some o) : FRep G base L μ σ h' :=
  ⟨fun b o e => k b o (F.keep b o e), F.off, let ⟨m, hn, hm⟩ := F.loc; ⟨m, hn.keeps k, hm⟩, let ⟨δ, Y, ap⟩ := F.lay; ⟨δ, Y.touch fun _ _ b x _ _ e => k b x e, ap⟩⟩

/-! names -/
theorem E_loc {x : Str} {pos : Pos} {v : AV} (hv : μ.lookup x = some v) (h : Q v μ σ) (hL : env.locals = c.L := by rfl) (hk : env.scope.kind = .function := by rfl) (hl : env.kindOf x = some .local := by rfl)
    (hd : (x == ("__debug__" : Str)) = false := by decide) : EV c (eval (.Name x pos) env) μ σ Q := fun s F S => by
  obtain ⟨m, hn, hm⟩ := F.loc
  have e := hm x
  rw [hv] at e
  cases q : m x with
  | none => rw [q] at e; cases e
  | some v' =>
    rw [q] at e
    exact wpAny_Name (wpAny_loadName_local hk hl (hL ▸ hn) q ⟨μ, σ, F, S, v, Option.some.inj e, h⟩) hd
theorem E_glob {x : Str} {pos : Pos} {v : Value} {y : AV} (e : nsIn G.K mainGlobals x = some (some v)) (hy : av v = some y) (h : Q y μ σ) (hg : env.globals = mainGlobals := by rfl) (hk : env.scope.kind = .function := by rfl) (hl : env.kindOf x = some .globalImplicit := by rfl)
    (hd : (x == ("__debug__" : Str)) = false := by decide) : EV c (eval (.Name x pos) env) μ σ Q := fun s F S => by
  refine Calls.Name_function_global hk hl (Calls.loadGlobal_global (env := env) (mg := G.mg) ?_ (mg_of c.b.X c.b.T.g e) ⟨μ, σ, F, S, y, hy, h⟩) hd
  rw [hg]; exact c.b.T.g.keeps F.keep
theorem E_built {x : Str} {pos : Pos} {v : Value} {y : AV} (e : nsIn G.K mainGlobals x = some none) (hv : bootBuiltins x = some v) (hy : av v = some y) (h : Q y μ σ) (hn : x ≠ "__name__" := by decide) (hg : env.globals = mainGlobals := by rfl) (hb : env.builtins = builtinsNs := by rfl) (hk : env.scope.kind = .function := by rfl) (hl : env.kindOf x = some .globalImplicit := by rfl)
    (hd : (x == ("__debug__" : Str)) = false := by decide) : EV c (eval (.Name x pos) env) μ σ Q := fun s F S => by
  refine Calls.Name_function_global hk hl (Calls.loadGlobal_builtin (env := env) (mg := G.mg) (mb := G.mb) ?_ (mg_none_of c.b.X c.b.T.g e) ?_ ((c.b.T.builtins x hn).trans hv) ⟨μ, σ, F, S, y, hy, h⟩) hd
  · rw [hg]; exact c.b.T.g.keeps F.keep
  · rw [hb]; exact c.b.T.b.keeps F.keep

/-! ints -/
section
variable {i j : Int}
theorem O_add (h : Q (.int (i + j)) μ σ) : Op c (binaryOp .Add) (.int i) (.int j) μ σ Q := fun a b ha hb s F S => by
  obtain ⟨t, rfl⟩ := av_int ha; obtain ⟨u, rfl⟩ := av_int hb; exact PyProof.Rows.add_int ⟨μ, σ, F, S, _, rfl, h⟩
theorem O_sub (h : Q (.int (i - j)) μ σ) : Op c (binaryOp .Sub) (.int i) (.int j) μ σ Q := fun a b ha hb s F S => by
  obtain ⟨t, rfl⟩ := av_int ha; obtain ⟨u, rfl⟩ := av_int hb; exact PyProof.Rows.sub_int ⟨μ, σ, F, S, _, rfl, h⟩
theorem O_mul (hm : IntMulOk i j) (h : Q (.int (i * j)) μ σ) : Op c (binaryOp .Mult) (.int i) (.int j) μ σ Q := fun a b ha hb s F S => by
  obtain ⟨t, rfl⟩ := av_int ha; obtain ⟨u, rfl⟩ := av_int hb; exact PyProof.Rows.mul_int ⟨μ, σ, F, S, _, rfl, h⟩ hm
theorem O_mod (h0 : j ≠ 0) (h : Q (.int (i.fmod j)) μ σ) : Op c (binaryOp .Mod) (.int i) (.int j) μ σ Q := fun a b ha hb s F S => by
  obtain ⟨t, rfl⟩ := av_int ha; obtain ⟨u, rfl⟩ := av_int hb; exact PyProof.Rows.mod_int' h0 ⟨μ, σ, F, S, _, rfl, h⟩
theorem O_div (h0 : j ≠ 0) (hp : j.natAbs.log2 < 9000) (h : Q (.int (i.fdiv j)) μ σ) : Op c (binaryOp .FloorDiv) (.int i) (.int j) μ σ Q := fun a b ha hb s F S => by
  obtain ⟨t, rfl⟩ := av_int ha; obtain ⟨u, rfl⟩ := av_int hb; exact PyProof.Rows.floordiv_int h0 ⟨μ, σ, F, S, _, rfl, h⟩ (.inl (PyProof.noPylong_of_log2 hp))
theorem O_pow (h0 : 0 ≤ j) (hz : (Builtin.Int.intBits i : Int) * j ≤ 2 ^ 27) (h : Q (.int (i ^ j.toNat)) μ σ) : Op c (binaryOp .Pow) (.int i) (.int j) μ σ Q := fun a b ha hb s F S => by
  obtain ⟨t, rfl⟩ := av_int ha; obtain ⟨u, rfl⟩ := av_int hb; exact PyProof.Rows.pow_int h0 hz ⟨μ, σ, F, S, _, rfl, h⟩
theorem O_neg (h : Q (.int (-i)) μ σ) : Op1 c (unaryOp .USub) (.int i) μ σ Q := fun a ha s F S => by
  obtain ⟨t, rfl⟩ := av_int ha; exact PyProof.Rows.neg_int ⟨μ, σ, F, S, _, rfl, h⟩
theorem O_iadd (h : Q (.int (i + j)) μ σ) : Op c (inplaceOp .Add) (.int i) (.int j) μ σ Q := fun a b ha hb s F S => by
  obtain ⟨t, rfl⟩ := av_int ha; obtain ⟨u, rfl⟩ := av_int hb; exact PyProof.Rows.iadd_int ⟨μ, σ, F, S, _, rfl, h⟩
theorem O_isub (h : Q (.int (i - j)) μ σ) : Op c (inplaceOp .Sub) (.int i) (.int j) μ σ Q := fun a b ha hb s F S => by
  obtain ⟨t, rfl⟩ := av_int ha; obtain ⟨u, rfl⟩ := av_int hb; exact PyProof.Rows.isub_int ⟨μ, σ, F, S, _, rfl, h⟩
theorem O_lt (h : Q (.bool (decide (i < j))) μ σ) : Op c (compareOp .Lt) (.int i) (.int j) μ σ Q := fun a b ha hb s F S => by
  obtain ⟨t, rfl⟩ := av_int ha; obtain ⟨u, rfl⟩ := av_int hb; exact PyProof.Rows.lt_int ⟨μ, σ, F, S, _, rfl, h⟩
theorem O_gt (h : Q (.bool (decide (j < i))) μ σ) : Op c (compareOp .Gt) (.int i) (.int j) μ σ Q := fun a b ha hb s F S => by
  obtain ⟨t, rfl⟩ := av_int ha; obtain ⟨u, rfl⟩ := av_int hb; exact PyProof.Rows.gt_int ⟨μ, σ, F, S, _, rfl, h⟩
theorem O_le (h : Q (.bool (decide (i ≤ j))) μ σ) : Op c (compareOp .LtE) (.int i) (.int j) μ σ Q := fun a b ha hb s F S => by
  obtain ⟨t, rfl⟩ := av_int ha; obtain ⟨u, rfl⟩ := av_int hb; exact PyProof.Rows.le_int ⟨μ, σ, F, S, _, rfl, h⟩
theorem O_ge (h : Q (.bool (decide (j ≤ i))) μ σ) : Op c (compareOp .GtE) (.int i) (.int j) μ σ Q := fun a b ha hb s F S => by
  obtain ⟨t, rfl⟩ := av_int ha; obtain ⟨u, rfl⟩ := av_int hb; exact PyProof.Rows.ge_int ⟨μ, σ, F, S, _, rfl, h⟩
theorem O_eq (h : Q (.bool (i == j)) μ σ) : Op c (compareOp .Eq) (.int i) (.int j) μ σ Q := fun a b ha hb s F S => by
  obtain ⟨t, rfl⟩ := av_int ha; obtain ⟨u, rfl⟩ := av_int hb; exact wpAny_eq_int ⟨μ, σ, F, S, _, rfl, h⟩
theorem O_ne (h : Q (.bool (i != j)) μ σ) : Op c (compareOp .NotEq) (.int i) (.int j) μ σ Q := fun a b ha hb s F S => by
  obtain ⟨t, rfl⟩ := av_int ha; obtain ⟨u, rfl⟩ := av_int hb; exact PyProof.Rows.ne_int ⟨μ, σ, F, S, _, rfl, h⟩
end
/-! strs, none -/
theorem O_eq_str {x y : Str} (h : Q (.bool (x == y)) μ σ) : Op c (compareOp .Eq) (.str x) (.str y) μ σ Q := fun a b ha hb s F S => by
  obtain ⟨t, rfl⟩ := av_str ha; obtain ⟨u, rfl⟩ := av_str hb; exact PyProof.Rows.eq_str ⟨μ, σ, F, S, _, rfl, h⟩
theorem O_ne_str {x y : Str} (h : Q (.bool (x != y)) μ σ) : Op c (compareOp .NotEq) (.str x) (.str y) μ σ Q := fun a b ha hb s F S => by
  obtain ⟨t, rfl⟩ := av_str ha; obtain ⟨u, rfl⟩ := av_str hb; exact PyProof.Rows.ne_str ⟨μ, σ, F, S, _, rfl, h⟩
theorem O_is_none {x : AV} (h : Q (.bool (match x with | .none => true | _ => false)) μ σ) : Op c (compareOp .Is) x .none μ σ Q := fun a b ha hb s F S => by
  cases av_none hb
  refine is_none ⟨μ, σ, F, S, _, rfl, ?_⟩
  cases a <;> cases ha <;> exact h
theorem O_isnot_none {x : AV} (h : Q (.bool (match x with | .none => false | _ => true)) μ σ) : Op c (compareOp .IsNot) x .none μ σ Q := fun a b ha hb s F S => by
  cases av_none hb
  refine isNot_none ⟨μ, σ, F, S, _, rfl, ?_⟩
  cases a <;> cases ha <;> exact h

/-! truth -/
variable {T : Bool → Loc → Hp → Prop}
theorem T_bool {b : Bool} (h : T b μ σ) : OpT c (.bool b) μ σ T := fun a ha s F S => by
  cases av_bool ha; exact wpAny_truthy_bool ⟨μ, σ, F, S, h⟩
theorem T_none (h : T false μ σ) : OpT c .none μ σ T := fun a ha s F S => by
  cases av_none ha; exact truthy_none ⟨μ, σ, F, S, h⟩
theorem T_int {i : Int} (h : T (i != 0) μ σ) : OpT c (.int i) μ σ T := fun a ha s F S => by
  obtain ⟨t, rfl⟩ := av_int ha; exact PyProof.Rows.truthy_int ⟨μ, σ, F, S, h⟩
/-- a test that is an expression of no test's form -/
theorem T_val {e : Expr} {w : Sem Value} (h : EV c w μ σ fun x μ σ => OpT c x μ σ T) (he : isTrue e env w = (do let v ← w; standAt e.pos; holding [v] (truthy v)) := by rfl) : W c (isTrue e env w) μ σ T := fun s F S =>
  isTrue_plain (h.run F S fun a x s₁ _ _ F₁ S₁ ha h₁ => h₁ a ha s₁ F₁ S₁) he
theorem T_And2 {x y : Expr} {pos : Pos} {w : Sem Value} (h : TV c x env μ σ fun b μ σ => if b then TV c y env μ σ T else T false μ σ) : W c (isTrue (.BoolOp .And [x, y] pos) env w) μ σ T := fun s F S =>
  wpAny_isTrue_BoolOp (wpAny_allTrue_And_cons (h.run F S fun b s₁ μ₁ σ₁ F₁ S₁ h₁ => by
    cases b
    · exact ⟨μ₁, σ₁, F₁, S₁, h₁⟩
    · exact wpAny_allTrue_And_cons (W.run h₁ F₁ S₁ fun b s₂ μ₂ σ₂ F₂ S₂ h₂ => by
        cases b
        · exact ⟨μ₂, σ₂, F₂, S₂, h₂⟩
        · exact wpAny_allTrue_And_nil ⟨μ₂, σ₂, F₂, S₂, h₂⟩)))
theorem T_Or2 {x y : Expr} {pos : Pos} {w : Sem Value} (h : TV c x env μ σ fun b μ σ => if b then T true μ σ else TV c y env μ σ T) : W c (isTrue (.BoolOp .Or [x, y] pos) env w) μ σ T := fun s F S =>
  wpAny_isTrue_BoolOp (wpAny_allTrue_Or_cons (h.run F S fun b s₁ μ₁ σ₁ F₁ S₁ h₁ => by
    cases b
    · exact wpAny_allTrue_Or_cons (W.run h₁ F₁ S₁ fun b s₂ μ₂ σ₂ F₂ S₂ h₂ => by
        cases b
        · exact wpAny_allTrue_Or_nil ⟨μ₂, σ₂, F₂, S₂, h₂⟩
        · exact ⟨μ₂, σ₂, F₂, S₂, h₂⟩)
    · exact ⟨μ₁, σ₁, F₁, S₁, h₁⟩))

/-! statements -/
variable {P : AF → Loc → Hp → Prop}
theorem S_nil (h : P .next μ σ) : SV c (execs [] env) μ σ P := fun _ F S => wpAny_execs_nil ⟨μ, σ, F, S, _, rfl, h⟩
/-- what is left to do behind a statement -/
noncomputable def Then (c : Cx G) (rest : List Stmt) (env : Env) (P : AF → Loc → Hp → Prop) : AF → Loc → Hp → Prop
  | .next, μ, σ => SV c (execs rest env) μ σ P
  | f, μ, σ => P f μ σ
theorem S_cons {st : Stmt} {rest : List Stmt} (h : SV c (exec st env) μ σ (Then c rest env P)) : SV c (execs (st :: rest) env) μ σ P := fun _ F S =>
  wpAny_execs_cons (W.run h F S fun f s₁ μ₁ σ₁ F₁ S₁ h₁ => by
    obtain ⟨x, e, q⟩ := h₁
    cases f with
    | next => cases e; exact q s₁ F₁ S₁
    | brk => cases e; exact ⟨μ₁, σ₁, F₁, S₁, _, rfl, q⟩
    | cont => cases e; exact ⟨μ₁, σ₁, F₁, S₁, _, rfl, q⟩
    | ret v =>
      have e' : (av v).map AF.ret = some x := e
      cases q' : av v with
      | none => rw [q'] at e'; cases e'
      | some y => rw [q'] at e'; cases e'; exact ⟨μ₁, σ₁, F₁, S₁, .ret y, by simp [af, q'], q⟩)

theorem S_If {t : Expr} {b o : List Stmt} {pos : Pos} (h : TV c t env μ σ fun z μ σ => if z then SV c (execs b env) μ σ P else SV c (execs o env) μ σ P) : SV c (exec (.If t b o pos) env) μ σ P := fun _ F S =>
  wpAny_If (h.run F S fun z s₁ _ _ F₁ S₁ h₁ => by cases z <;> exact h₁ s₁ F₁ S₁)
theorem S_Return {e : Expr} {pos : Pos} (h : EV c (eval e env) μ σ fun x μ σ => P (.ret x) μ σ) : SV c (exec (.Return (some e) pos) env) μ σ P := fun _ F S =>
  wpAny_Return_some (h.run F S fun a x s₁ μ₁ σ₁ F₁ S₁ ha h₁ => ⟨μ₁, σ₁, F₁, S₁, .ret x, by simp [af, ha], h₁⟩)
theorem S_Return0 {pos : Pos} (h : P (.ret .none) μ σ) : SV c (exec (.Return none pos) env) μ σ P := fun _ F S => wpAny_Return_none ⟨μ, σ, F, S, .ret .none, rfl, h⟩
theorem S_Pass {pos : Pos} (h : P .next μ σ) : SV c (exec (.Pass pos) env) μ σ P := fun _ F S => wpAny_Pass ⟨μ, σ, F, S, .next, rfl, h⟩
noncomputable def NoRef : AV → Prop
  | .ref _ => False
  | _ => True
theorem S_Expr {e : Expr} {pos : Pos} (h : EV c (eval e env) μ σ fun x μ σ => NoRef x ∧ P .next μ σ) (hi : interactive env = false := by rfl) (hs : swapsWith e none pos.line env = pure false := by rfl) : SV c (exec (.Expr e pos) env) μ σ P := fun _ F S =>
  wpAny_Expr (h.run F S fun a x s₁ μ₁ σ₁ F₁ S₁ ha h₁ => by
    cases a <;> first | exact ⟨μ₁, σ₁, F₁, S₁, .next, rfl, h₁.2⟩ | (cases ha; exact h₁.1.elim)) hi hs

/-! stores to names -/
noncomputable def upd (x : Str) (v : AV) : Loc → Loc
  | [] => [(x, v)]
  | (y, u) :: r => if x == y then (y, v) :: r else (y, u) :: upd x v r
theorem upd_lookup (x : Str) (v : AV) : ∀ (μ : Loc) (y : Str), (upd x v μ).lookup y = if y = x then some v else μ.lookup y
  | [], y => by
    unfold upd
    simp only [List.lookup_cons, List.lookup_nil]
    by_cases h : y = x
    · simp [h]
    · have : (y == x) = false := by simpa using h
      simp [h, this]
  | (z, u) :: r, y => by
    unfold upd
    by_cases hx : x = z
    · subst hx
      simp only [beq_self_eq_true, if_true, List.lookup_cons]
      by_cases h : y = x
      · simp [h]
      · have : (y == x) = false := by simpa using h
        simp [h, this]
    · have : (x == z) = false := by simpa using hx
      simp only [this, Bool.false_eq_true, if_false, List.lookup_cons]
      rw [upd_lookup x v r y]
      by_cases hz : y = z
      · subst hz
        simp [Ne.symm hx]
      · have : (y == z) = false := by simpa using hz
        simp [this]
theorem FRep.store {base h h' : Heap} {L : Addr} {x : Str} {v : Value} {y : AV} {m : Str → Option Value} (F : FRep G base L μ σ h) (hm : ∀ x, (m x).map av = (μ.lookup x).map some) (hv : av v = some y)
    (hn : h'.Ns L (fun z => if z = x then some v else m z)) (hs : Heap.SameBut L h h') : FRep G base L (upd x y μ) σ h' := by
  obtain ⟨k, off, _, δ, Y, ap⟩ := F
  have kk : ∀ b o, b ≠ L → h.get? b = some o → h'.get? b = some o := fun b o hb e => hs.extBut b o hb e
  refine ⟨fun b o e => kk b o (fun z => by rw [z, off] at e; cases e) (k b o e), off, ⟨_, hn, fun z => ?_⟩, δ, Y.touch fun a o b x' e hb hx => kk b x' (fun z => ap a o e (z ▸ hb)) hx, ap⟩
  rw [upd_lookup]
  by_cases h : z = x <;> simp [h, hv, hm]
theorem W_store {x : Str} {v : Value} {y : AV} {R : Unit → Loc → Hp → Prop} (hv : av v = some y) (h : R () (upd x y μ) σ) (hL : env.locals = c.L) (hl : env.kindOf x = some .local)
    (hp : (env.scope.kind == .class || (env.scope.kind == .module && env.locals != env.globals)) = false) : W c (storeName env x v) μ σ R := fun s F S => by
  obtain ⟨m, hn, hm⟩ := F.loc
  refine wpAny_storeName_local hl (hL ▸ hn) (fun h' hn' hs' => ⟨_, _, F.store hm hv (hL ▸ hn') (hL ▸ hs'), S, h⟩) hp
theorem S_AssignName {x : Str} {xp : Pos} {value : Expr} {pos : Pos} (h : EV c (eval value env) μ σ fun y μ σ => P .next (upd x y μ) σ) (hL : env.locals = c.L := by rfl) (hl : env.kindOf x = some .local := by rfl)
    (hp : (env.scope.kind == .class || (env.scope.kind == .module && env.locals != env.globals)) = false := by rfl) (hs : swapsWith value (some (.Name x xp)) pos.line env = pure false := by rfl) : SV c (exec (.Assign [.Name x xp] value pos) env) μ σ P := fun _ F S =>
  wpAny_Assign_Name (h.run F S fun a y s₁ μ₁ σ₁ F₁ S₁ ha h₁ => W.run (W_store (R := fun _ μ σ => P .next μ σ) ha h₁ hL hl hp) F₁ S₁ fun _ s₂ μ₂ σ₂ F₂ S₂ h₂ => ⟨μ₂, σ₂, F₂, S₂, .next, rfl, h₂⟩) hs
theorem A_Name {x : Str} {xp : Pos} {v : Value} {y : AV} {R : Unit → Loc → Hp → Prop} (hv : av v = some y) (h : R () (upd x y μ) σ) (hL : env.locals = c.L := by rfl) (hl : env.kindOf x = some .local := by rfl)
    (hp : (env.scope.kind == .class || (env.scope.kind == .module && env.locals != env.globals)) = false := by rfl) : W c (assign (.Name x xp) env v) μ σ R := fun s F S =>
  wpAny_assign_Name (W_store hv h hL hl hp s F S)

end Mine
end

section
open PySem PySem.W PySem.Calls PyProof.Rows
namespace Mine
variable {G : Gx} {c : Cx G} {μ : Loc} {σ : Hp} {env : Env} {Q : AV → Loc → Hp → Prop} {P : AF → Loc → Hp → Prop}

theorem FRep.X {s : Shared} (F : FRep G c.base c.L μ σ s.heap) : G.K.In s.heap := c.b.X.keeps F.keep

/-! the entries of an object's dict -/
theorem getL_attr {name : Str} : ∀ {es : List DictEntry} {at' : Loc}, es.map attrOf = at'.map some →
    match at'.lookup name with
    | some x => ∃ v, getL name es = some (some v) ∧ av v = some x
    | none => getL name es = some none
  | [], [], _ => rfl
  | [], _ :: _, h => nomatch h
  | _ :: _, [], h => nomatch h
  | e :: es, (y, u) :: r, h => by
    obtain ⟨h1, h2⟩ := List.cons.inj h
    have ih := getL_attr (name := name) h2
    unfold attrOf at h1
    split at h1
    · rename_i s t hk
      cases hv : av e.val with
      | none => rw [hv] at h1; cases h1
      | some u' =>
        rw [hv] at h1
        cases h1
        unfold getL
        simp only [List.find?_cons, List.lookup_cons, hk, Value.isStr, List.any_cons]
        by_cases q : y = name
        · subst q; simp [hv]
        · have q1 : (y == name) = false := by simpa using q
          have q2 : (name == y) = false := by simpa using Ne.symm q
          simp only [q1, q2, DictEntry.refKey, hk, Bool.false_or]
          exact ih
    · cases h1

theorem putL_attr {name : Str} {hs : Int} {key v : Value} {x : AV} {t : Tok} (hk : key = .str name t) (hv : av v = some x) : ∀ {es : List DictEntry} {at' : Loc}, es.map attrOf = at'.map some →
    (putL name hs key v es).map attrOf = (upd name x at').map some
  | [], [], _ => by simp [putL, upd, attrOf, hk, hv]
  | [], _ :: _, h => nomatch h
  | _ :: _, [], h => nomatch h
  | e :: es, (y, u) :: r, h => by
    obtain ⟨h1, h2⟩ := List.cons.inj h
    have ih := putL_attr (hs := hs) hk hv h2
    have h1' := h1
    unfold attrOf at h1
    split at h1
    · rename_i s t' hk'
      cases hv' : av e.val with
      | none => rw [hv'] at h1; cases h1
      | some u' =>
        rw [hv'] at h1
        cases h1
        unfold putL upd
        simp only [hk', Value.isStr]
        by_cases q : y = name
        · subst q
          simp only [beq_self_eq_true, if_true, List.map_cons, h2]
          congr 1
          simp only [attrOf, hk', hv, Option.map_some]
        · have q1 : (y == name) = false := by simpa using q
          have q2 : (name == y) = false := by simpa using Ne.symm q
          simp only [q1, q2, Bool.false_eq_true, if_false, List.map_cons, ih, h1']
    · cases h1

theorem mem_upd {x : Str} {v : AV} : ∀ {μ : Loc} {q : Str × AV}, q ∈ upd x v μ → q.1 = x ∨ ∃ u, (q.1, u) ∈ μ
  | [], q, h => by simp [upd] at h; exact .inl (by rw [h])
  | (y, u) :: r, q, h => by
    unfold upd at h
    split at h
    · rename_i e
      rcases List.mem_cons.mp h with rfl | h
      · exact .inl (by simpa using (eq_of_beq e).symm)
      · exact .inr ⟨q.2, .tail _ h⟩
    · rcases List.mem_cons.mp h with rfl | h
      · exact .inr ⟨u, .head _⟩
      · rcases mem_upd h with h | ⟨u', h⟩
        · exact .inl h
        · exact .inr ⟨u', .tail _ h⟩

theorem mem_of_lookup {x : Str} {v : AV} : ∀ {μ : Loc}, μ.lookup x = some v → (x, v) ∈ μ
  | [], h => nomatch h
  | (y, u) :: r, h => by
    rw [List.lookup_cons] at h
    split at h
    · rename_i e; cases h; rw [eq_of_beq e]; exact .head _
    · exact .tail _ (mem_of_lookup h)

/-! attributes -/
noncomputable def AV.handed : AV → Bool
  | .bi _ => false
  | _ => true
theorem handed_of {v : Value} {x : AV} (h : av v = some x) (e : x.handed = true) : handedIn v = true := by
  cases v <;> first | rfl | (cases h; cases e)

theorem G_attr {a C : Addr} {at' : Loc} {name : Str} {x : AV} {b : Bool} (ha : σ a = some (.inst C at')) (hx : at'.lookup name = some x) (hh : x.handed = true) (h : Q x μ σ) :
    EV c (getAttr (.ref a) name b) μ σ Q := fun s F S => by
  obtain ⟨δ, Y, ap⟩ := F.lay
  obtain ⟨es, n, h1, h2, h3, cf, hf⟩ := Y.conc _ _ ha
  have g := getL_attr (name := name) h3
  rw [hx] at g
  obtain ⟨v, hv, e⟩ := g
  have hm : findIn G.K (.ref C) name = some Option.none := hf _ (mem_of_lookup hx)
  have I : InstAt s.heap a (instObj C (δ a)) C (some (dictOf es n)) := ⟨h1, rfl, rfl, h2⟩
  exact get_value F.X I cf.get (findObj_own cf.dict hm rfl hv) (handed_of e hh) ⟨μ, σ, F, S, x, e, h⟩

/-- the whole rest of a heap as a ledger -/
noncomputable def rest (h b0 : Heap) (L : Addr) (ex : List Addr) : List (Addr × Obj) :=
  (List.range h.objs.size).filterMap fun b => if b = L ∨ b ∈ ex ∨ (b0.get? b).isSome = true then Option.none else (h.get? b).map fun o => (b, o)
theorem mem_rest {h b0 : Heap} {L : Addr} {ex : List Addr} {p : Addr × Obj} : p ∈ rest h b0 L ex ↔ h.get? p.1 = some p.2 ∧ p.1 ≠ L ∧ p.1 ∉ ex ∧ b0.get? p.1 = Option.none := by
  unfold rest
  simp only [List.mem_filterMap, List.mem_range]
  constructor
  · rintro ⟨b, hb, e⟩
    split at e
    · cases e
    · rename_i q
      simp only [not_or, Bool.not_eq_true, Option.isSome_eq_false_iff, Option.isNone_iff_eq_none] at q
      cases g : h.get? b with
      | none => rw [g] at e; cases e
      | some o => rw [g] at e; cases e; exact ⟨g, q.1, q.2.1, q.2.2⟩
  · rintro ⟨a, b, d, e⟩
    refine ⟨p.1, Heap.lt_size a, ?_⟩
    rw [if_neg (by simp [b, d, e]), a]; rfl
theorem rest_news {h b0 : Heap} {L : Addr} {ex : List Addr} : News b0 L h (rest h b0 L ex) := fun p hp => let ⟨a, b, _, d⟩ := mem_rest.mp hp; ⟨a, b, d⟩
theorem rest_ne {h b0 : Heap} {L d : Addr} {ex : List Addr} (hd : d ∈ ex) : ∀ p ∈ rest h b0 L ex, p.1 ≠ d := fun p hp e => (mem_rest.mp hp).2.2.1 (e ▸ hd)
theorem rest_keep {h b0 h' : Heap} {L : Addr} {ex : List Addr} {l : List (Addr × Obj)} {m : Str → Option Value} (k0 : b0.StaysIn h) (F : Fr b0 L h' m) (N : News b0 L h' (l ++ rest h b0 L ex)) :
    ∀ b o, b ≠ L → b ∉ ex → h.get? b = some o → h'.get? b = some o := fun b o hb he e => by
  cases q : b0.get? b with
  | some o' => have := k0 b o' q; rw [e] at this; cases this; exact F.keep b o q
  | none => exact (N (b, o) (List.mem_append_right _ (mem_rest.mpr ⟨e, hb, he, q⟩))).1
theorem FRep.keep0 {h : Heap} (F : FRep G c.base c.L μ σ h) : c.b0.StaysIn h := fun b o e => F.keep b o (c.b0s b o e)
theorem FRep.fr {h : Heap} {m : Str → Option Value} (F : FRep G c.base c.L μ σ h) (hn : h.Ns c.L m) : Fr c.b0 c.L h m := ⟨hn, F.keep0, c.b0L⟩
theorem Cx.off0 (c : Cx G) {a : Addr} (h : c.base.get? a = Option.none) : c.b0.get? a = Option.none := by
  cases q : c.b0.get? a with
  | none => rfl
  | some y => rw [c.b0s _ _ q] at h; cases h

theorem Y_inst {base h : Heap} {δ : Addr → Addr} (Y : Lay G base σ h δ) {a C : Addr} {at' : Loc} (ha : σ a = some (.inst C at')) : δ a ≠ a := fun e => by
  have := Y.apart a _ ha rfl
  rw [e, ha] at this; cases this

theorem G_set {a C : Addr} {at' : Loc} {name : Str} {v : Value} {x : AV} {R : Unit → Loc → Hp → Prop} (ha : σ a = some (.inst C at')) (hv : av v = some x) (hn : (at'.lookup name).isSome = true ∨ findIn G.K (.ref C) name = some Option.none)
    (hz : (upd name x at').length ≤ 1000) (h : R () μ (σ.set a (.inst C (upd name x at')))) : W c (setAttr (.ref a) name v) μ σ R := fun s F S => by
  obtain ⟨δ, Y, ap⟩ := F.lay
  obtain ⟨es, n, h1, h2, h3, cf, hf⟩ := Y.conc _ _ ha
  have hm : findIn G.K (.ref C) name = some Option.none := by
    rcases hn with hn | hn
    · obtain ⟨x', hx'⟩ := Option.isSome_iff_exists.mp hn; exact hf _ (mem_of_lookup hx')
    · exact hn
  have I : InstAt s.heap a (instObj C (δ a)) C (some (dictOf es n)) := ⟨h1, rfl, rfl, h2⟩
  obtain ⟨m, hn', hm'⟩ := F.loc
  have F₀ := F.fr hn'
  obtain ⟨es', n', e⟩ : ∃ es' n', (putL name (PyData.keyHash G.w.params name) (.str name (s.toks + 1)) v es, putN name es n) = (es', n') := ⟨_, _, rfl⟩
  have e1 : es' = putL name (PyData.keyHash G.w.params name) (.str name (s.toks + 1)) v es := (Prod.mk.inj e).1.symm
  have hes : es'.map attrOf = (upd name x at').map some := by rw [e1]; exact putL_attr rfl hv h3
  have hlen : es'.length = (upd name x at').length := by simpa using congrArg List.length hes
  have hdn : c.b0.get? (δ a) = Option.none := c.off0 (Y.off a _ (δ a) ha (.inr ⟨rfl, rfl⟩))
  have hdL : δ a ≠ c.L := fun z => ap a _ ha (.inr ⟨rfl, z.symm⟩)
  have N : News c.b0 c.L s.heap ((δ a, dictOf es n) :: rest s.heap c.b0 c.L [δ a]) := fun p hp => by
    rcases List.mem_cons.mp hp with rfl | hp
    · exact ⟨h2, hdL, hdn⟩
    · exact rest_news p hp
  have hg : (getL name es).isSome = true := by
    have g := getL_attr (name := name) h3
    split at g
    · obtain ⟨v, hv, _⟩ := g; rw [hv]; rfl
    · rw [g]; rfl
  refine set_dict F₀ c.b0b.X N I rfl cf.set cf.over (by unfold takerIn; rw [hm]; rfl) cf.dict hg e (.head (rest_ne (.head _))) (by rw [hlen]; exact hz) (fun h' F' N' => ?_)
  have k := rest_keep (l := [_]) F.keep0 F' N'
  refine ⟨μ, σ.set a (.inst C (upd name x at')), ⟨fun b o q => ?_, F.off, ⟨_, F'.ns, hm'⟩, δ, Y.turn ha rfl rfl ?_ (fun d od b y e hb nb q => ?_), fun b o q hb => ?_⟩, S, h⟩
  · by_cases z : b = c.L
    · rw [z, F.off] at q; cases q
    · refine k b o z (fun z' => ?_) (F.keep b o q)
      rw [List.mem_singleton.mp z', Y.off a _ _ ha (.inr ⟨rfl, rfl⟩)] at q; cases q
  · refine ⟨es', n', k _ _ (fun z => ap a _ ha (.inl z.symm)) (fun z => Y_inst Y ha (List.mem_singleton.mp z).symm) h1, (N' _ (.head _)).1, hes, cf, fun q hq => ?_⟩
    rcases mem_upd hq with z | ⟨u, z⟩
    · rw [z]; exact hm
    · exact hf (q.1, u) z
  · exact k b y (fun z => ap d od e (z ▸ hb)) (fun z' => nb (.inr ⟨rfl, List.mem_singleton.mp z'⟩)) q
  · by_cases z : b = a
    · subst z
      rw [Hp.set_self] at q; cases q
      rcases hb with hb | ⟨_, hb⟩
      · exact ap _ _ ha (.inl hb)
      · exact ap _ _ ha (.inr ⟨rfl, hb⟩)
    · rw [Hp.set_ne z] at q; exact ap _ _ q hb

/-! nodes of attributes -/
/-- reading an attribute: its value, by the object's abstraction -/
noncomputable def AttrOf (c : Cx G) (o : AV) (name : Str) (μ : Loc) (σ : Hp) (Q : AV → Loc → Hp → Prop) : Prop := ∀ v b, av v = some o → EV c (getAttr v name b) μ σ Q
theorem A_data {a C : Addr} {at' : Loc} {name : Str} {x : AV} (ha : σ a = some (.inst C at')) (hx : at'.lookup name = some x) (h : Q x μ σ) (hh : x.handed = true := by rfl) : AttrOf c (.ref a) name μ σ Q := fun v b hv => by
  cases av_ref hv; exact G_attr ha hx hh h
theorem E_Attr {e : Expr} {attr : Str} {pos : Pos} (h : EV c (eval e env) μ σ fun o μ σ => AttrOf c o attr μ σ Q)
    (he : eval (.Attribute e attr pos) env = (do
      let o ← eval e env
      standAt pos.atName
      let r ← holding [o] (getAttr o attr true)
      letTemporaryGo e o r
      pure r) := by with_unfolding_all rfl) : EV c (eval (.Attribute e attr pos) env) μ σ Q := fun _ F S =>
  Attribute_any_ (h.run F S fun a x s₁ _ _ F₁ S₁ ha h₁ => h₁ a true ha s₁ F₁ S₁) he
noncomputable def SetOf (c : Cx G) (o : AV) (name : Str) (x : AV) (μ : Loc) (σ : Hp) (R : Loc → Hp → Prop) : Prop := ∀ v u, av v = some o → av u = some x → W c (setAttr v name u) μ σ fun _ => R
theorem A_set {a C : Addr} {at' : Loc} {name : Str} {x : AV} {R : Loc → Hp → Prop} (ha : σ a = some (.inst C at')) (hn : (at'.lookup name).isSome = true ∨ findIn G.K (.ref C) name = some Option.none)
    (h : R μ (σ.set a (.inst C (upd name x at')))) (hz : (upd name x at').length ≤ 1000 := by exact Nat.le_of_ble_eq_true rfl) : SetOf c (.ref a) name x μ σ R := fun v u hv hu => by
  cases av_ref hv; exact G_set ha hu hn hz h
theorem S_AssignAttr {o value : Expr} {attr : Str} {apos pos : Pos} (h : EV c (eval value env) μ σ fun x μ σ => EV c (eval o env) μ σ fun ov μ σ => SetOf c ov attr x μ σ (P .next))
    (hs : swapsWith value (some (.Attribute o attr apos)) pos.line env = pure false := by with_unfolding_all rfl) : SV c (exec (.Assign [.Attribute o attr apos] value pos) env) μ σ P := fun _ F S =>
  plainObj_wpAny_Assign_Attribute (hs := hs) (h.run F S fun a x s₁ _ _ F₁ S₁ ha h₁ => h₁.run F₁ S₁ fun b y s₂ _ _ F₂ S₂ hb h₂ => W.run (h₂ b a hb ha) F₂ S₂ fun _ s₃ μ₃ σ₃ F₃ S₃ h₃ => ⟨μ₃, σ₃, F₃, S₃, .next, rfl, h₃⟩)
theorem S_AugAttr {o value : Expr} {attr : Str} {op : Operator} {apos pos : Pos} (h : EV c (eval o env) μ σ fun ov μ σ => AttrOf c ov attr μ σ fun x μ σ => EV c (eval value env) μ σ fun y μ σ => Op c (inplaceOp op) x y μ σ fun z μ σ => SetOf c ov attr z μ σ (P .next)) :
    SV c (exec (.AugAssign (.Attribute o attr apos) op value pos) env) μ σ P := fun _ F S =>
  wpAny_AugAssign_AttributeAny (h.run F S fun a x s₁ _ _ F₁ S₁ ha h₁ => EV.run (h₁ a true ha) F₁ S₁ fun b y s₂ _ _ F₂ S₂ hb h₂ => h₂.run F₂ S₂ fun d z s₃ _ _ F₃ S₃ hd h₃ =>
    EV.run (h₃ b d hb hd) F₃ S₃ fun e u s₄ _ _ F₄ S₄ he h₄ => W.run (h₄ a e ha he) F₄ S₄ fun _ s₅ μ₅ σ₅ F₅ S₅ h₅ => ⟨μ₅, σ₅, F₅, S₅, .next, rfl, h₅⟩)

/-! calls -/
/-- what a call of a value does -/
noncomputable def Calls (c : Cx G) (f : AV) (xs : List AV) (μ : Loc) (σ : Hp) (Q : AV → Loc → Hp → Prop) : Prop := ∀ vf vs, av vf = some f → avs vs xs → EV c (call vf vs []) μ σ Q
/-- values that a call keeps in a way that the rules know -/
noncomputable def Kept (G : Gx) (σ : Hp) : AV → Prop
  | .bi _ => True
  | .ty _ => True
  | .ref a => keepIn G.K (.ref a) = true ∨ ∃ g self, σ a = some (.meth g self) ∧ fnIn G.K g = true
  | _ => False
theorem kept_keeps {f : AV} {vf : Value} (hv : av vf = some f) (k : Kept G σ f) {h : Heap} (F : FRep G c.base c.L μ σ h) : ∃ k, (k = Keeper.frame ∨ k = Keeper.machine ∨ k = Keeper.boundFrame) ∧ Looks G.M h (keeperOf vf) k := by
  have X : G.K.In h := c.b.X.keeps F.keep
  cases f with
  | bi i => cases av_bi hv; exact ⟨.machine, .inr (.inl rfl), Looks.of_pure rfl⟩
  | ty i => cases av_ty hv; exact ⟨.machine, .inr (.inl rfl), Looks.of_pure rfl⟩
  | ref a =>
    cases av_ref hv
    rcases k with k | ⟨g, self, e, hg⟩
    · exact keeps_K k h X
    · obtain ⟨δ, Y, _⟩ := F.lay
      exact keeps_M (q := a) (f := g) (self := .ref self) hg h ⟨Y.conc _ _ e, X⟩
  | none => exact k.elim
  | bool _ => exact k.elim
  | int _ => exact k.elim
  | str _ => exact k.elim

theorem EVs_nil {pos : Pos} {Q : List AV → Loc → Hp → Prop} (h : Q [] μ σ) : EVs c (spliced (backTo pos (starEach [] env))) μ σ Q := fun _ F S => wpAny_items_nil ⟨μ, σ, F, S, [], rfl, h⟩
theorem EVs_cons {pos : Pos} {e : Expr} {r : List Expr} {Q : List AV → Loc → Hp → Prop} (h : EV c (eval e env) μ σ fun x μ σ => EVs c (spliced (backTo pos (starEach r env))) μ σ fun xs μ σ => Q (x :: xs) μ σ)
    (he : starEach (e :: r) env = (false, eval e env) :: starEach r env := by rfl) : EVs c (spliced (backTo pos (starEach (e :: r) env))) μ σ Q := fun _ F S =>
  wpAny_items_cons (he := he) (h.run F S fun a x s₁ _ _ F₁ S₁ ha h₁ => W.run h₁ F₁ S₁ fun vs s₂ μ₂ σ₂ F₂ S₂ h₂ => by
    obtain ⟨xs, hx, q⟩ := h₂
    exact ⟨μ₂, σ₂, F₂, S₂, x :: xs, by show av a :: _ = _ :: _; rw [ha, hx], q⟩)

theorem callWith_0 {pos : Pos} {f : AV} {vf : Value} {first : List Value} {fx : List AV} (hv : av vf = some f) (hf : avs first fx) (hk : Kept G σ f) (h : Calls c f fx μ σ Q) :
    EV c (callWith pos vf first (backTo pos (starEach [] env)) []) μ σ Q := fun s F S =>
  callWith_of (P := fun hp => ∃ k, (k = Keeper.frame ∨ k = Keeper.machine ∨ k = Keeper.boundFrame) ∧ Looks G.M hp (keeperOf vf) k) rfl (fun _ k => k)
    (evalArgs_nil3 ⟨kept_keeps hv hk F, h vf _ hv (by simpa [avs] using hf) s F S⟩)
theorem callWith_1 {pos : Pos} {f : AV} {vf : Value} {first : List Value} {fx : List AV} {e : Expr} {r : List Expr} (hv : av vf = some f) (hf : avs first fx)
    (h : EVs c (spliced (backTo pos (starEach (e :: r) env))) μ σ fun xs μ σ => Kept G σ f ∧ Calls c f (fx ++ xs) μ σ Q)
    (he : starEach (e :: r) env = (false, eval e env) :: starEach r env) (hp : (backTo pos (starEach r env)).any (·.1) = false) : EV c (callWith pos vf first (backTo pos (starEach (e :: r) env)) []) μ σ Q := fun s F S => by
  rw [he] at h ⊢
  refine callWith_of (P := fun hp => ∃ k, (k = Keeper.frame ∨ k = Keeper.machine ∨ k = Keeper.boundFrame) ∧ Looks G.M hp (keeperOf vf) k) (by show ((false || (backTo pos (starEach r env)).any (·.1)) || false) = false; rw [hp]; rfl) (fun _ k => k) ?_
  exact evalArgs_plain (W.run h F S fun vs s₁ μ₁ σ₁ F₁ S₁ h₁ => by
      obtain ⟨xs, hx, hk, hc⟩ := h₁
      exact ⟨kept_keeps hv hk F₁, hc vf _ hv (by simp only [avs, List.map_append] at *; rw [hf, hx]) s₁ F₁ S₁⟩)

/-- f(..) by a name (or any expression that is no attribute) -/
theorem E_Call0 {fe : Expr} {pos : Pos} (h : EV c (eval fe env) μ σ fun f μ σ => Kept G σ f ∧ Calls c f [] μ σ Q)
    (he : eval (.Call fe [] [] pos) env = (do callWith pos (← eval fe env) [] (backTo pos (starEach [] env)) (backToKw pos (keywordEach [] env))) := by rfl) : EV c (eval (.Call fe [] [] pos) env) μ σ Q := fun s F S => by
  rw [he]
  exact wpAny_bind (h.run F S fun a f s₁ _ _ F₁ S₁ ha h₁ => callWith_0 ha rfl h₁.1 h₁.2 s₁ F₁ S₁)
theorem E_Call1 {fe e : Expr} {r : List Expr} {pos : Pos} (h : EV c (eval fe env) μ σ fun f μ σ => EVs c (spliced (backTo pos (starEach (e :: r) env))) μ σ fun xs μ σ => Kept G σ f ∧ Calls c f xs μ σ Q)
    (he : eval (.Call fe (e :: r) [] pos) env = (do callWith pos (← eval fe env) [] (backTo pos (starEach (e :: r) env)) (backToKw pos (keywordEach [] env))) := by rfl)
    (he' : starEach (e :: r) env = (false, eval e env) :: starEach r env := by rfl) (hp : (backTo pos (starEach r env)).any (·.1) = false := by rfl) : EV c (eval (.Call fe (e :: r) [] pos) env) μ σ Q := fun s F S => by
  rw [he]
  exact wpAny_bind (h.run F S fun a f s₁ _ _ F₁ S₁ ha h₁ => callWith_1 ha (fx := []) rfl h₁ he' hp s₁ F₁ S₁)

/-- o.m(..): what o.m is -/
noncomputable def MethOf (c : Cx G) (o : AV) (name : Str) (μ : Loc) (σ : Hp) (R : AV → List AV → Loc → Hp → Prop) : Prop := ∀ v (pl : Sem Bool), av v = some o → W c (getMethod v name pl) μ σ fun fx μ σ => ∃ f first, av fx.1 = some f ∧ avs fx.2 first ∧ R f first μ σ
theorem E_Meth0 {o : Expr} {name : Str} {apos pos : Pos} {pl : Sem Bool} (h : EV c (eval o env) μ σ fun ov μ σ => MethOf c ov name μ σ fun f first μ σ => Kept G σ f ∧ Calls c f first μ σ Q)
    (he : eval (.Call (.Attribute o name apos) [] [] pos) env = (do
      let ov ← eval o env
      standAt apos.atName
      let (f, first) ← holding [ov] (getMethod ov name pl)
      callWith pos f first (backTo pos (starEach [] env)) (backToKw pos (keywordEach [] env))) := by rfl) : EV c (eval (.Call (.Attribute o name apos) [] [] pos) env) μ σ Q := fun s F S =>
  methodCall_KW (pl := pl) (h.run F S fun a x s₁ _ _ F₁ S₁ ha h₁ => W.run (h₁ a pl ha) F₁ S₁ fun fx s₂ μ₂ σ₂ F₂ S₂ h₂ => by
    obtain ⟨f, first, e1, e2, hk, hc⟩ := h₂
    exact callWith_0 e1 e2 hk hc s₂ F₂ S₂) he
theorem E_Meth1 {o e : Expr} {r : List Expr} {name : Str} {apos pos : Pos} {pl : Sem Bool} (h : EV c (eval o env) μ σ fun ov μ σ => MethOf c ov name μ σ fun f first μ σ => EVs c (spliced (backTo pos (starEach (e :: r) env))) μ σ fun xs μ σ => Kept G σ f ∧ Calls c f (first ++ xs) μ σ Q)
    (he : eval (.Call (.Attribute o name apos) (e :: r) [] pos) env = (do
      let ov ← eval o env
      standAt apos.atName
      let (f, first) ← holding [ov] (getMethod ov name pl)
      callWith pos f first (backTo pos (starEach (e :: r) env)) (backToKw pos (keywordEach [] env))) := by rfl)
    (he' : starEach (e :: r) env = (false, eval e env) :: starEach r env := by rfl) (hp : (backTo pos (starEach r env)).any (·.1) = false := by rfl) : EV c (eval (.Call (.Attribute o name apos) (e :: r) [] pos) env) μ σ Q := fun s F S =>
  methodCall_KW (pl := pl) (h.run F S fun a x s₁ _ _ F₁ S₁ ha h₁ => W.run (h₁ a pl ha) F₁ S₁ fun fx s₂ μ₂ σ₂ F₂ S₂ h₂ => by
    obtain ⟨f, first, e1, e2, h₃⟩ := h₂
    exact callWith_1 e1 e2 h₃ he' hp s₂ F₂ S₂) he

/-- a method of the class -/
theorem M_cls {a C f : Addr} {at' : Loc} {name : Str} {R : AV → List AV → Loc → Hp → Prop} (ha : σ a = some (.inst C at')) (hf : findIn G.K (.ref C) name = some (some (.ref f))) (ht : isFn G.K (.ref f) = true)
    (h : R (.ref f) [.ref a] μ σ) (hx : at'.lookup name = Option.none := by rfl) : MethOf c (.ref a) name μ σ R := fun v pl hv s F S => by
  cases av_ref hv
  obtain ⟨δ, Y, ap⟩ := F.lay
  obtain ⟨es, n, h1, h2, h3, cf, _⟩ := Y.conc _ _ ha
  have g := getL_attr (name := name) h3
  rw [hx] at g
  have I : InstAt s.heap a (instObj C (δ a)) C (some (dictOf es n)) := ⟨h1, rfl, rfl, h2⟩
  exact method_fn F.X I cf.get cf.get2 hf (beq_iff_eq.mp ht) (by show (lookIn name (dictOf es n)).map _ = _; rw [lookIn_dict, g]; rfl) ⟨μ, σ, F, S, .ref f, [.ref a], rfl, rfl, h⟩

/-- a callable that the object holds -/
theorem M_own {a C : Addr} {at' : Loc} {name : Str} {x : AV} {R : AV → List AV → Loc → Hp → Prop} (ha : σ a = some (.inst C at')) (hx : at'.lookup name = some x) (h : R x [] μ σ) (hh : x.handed = true := by rfl) : MethOf c (.ref a) name μ σ R := fun v pl hv s F S => by
  cases av_ref hv
  obtain ⟨δ, Y, ap⟩ := F.lay
  obtain ⟨es, n, h1, h2, h3, cf, hf⟩ := Y.conc _ _ ha
  have I : InstAt s.heap a (instObj C (δ a)) C (some (dictOf es n)) := ⟨h1, rfl, rfl, h2⟩
  have hm : findIn G.K (.ref C) name = some Option.none := hf _ (mem_of_lookup hx)
  refine method_usual F.X I cf.get cf.get2 hm rfl ?_
  exact (G_attr (b := false) (Q := fun y μ σ => R y [] μ σ) ha hx hh h).run F S fun v y s₁ μ₁ σ₁ F₁ S₁ hv h₁ => ⟨μ₁, σ₁, F₁, S₁, y, [], hv, rfl, h₁⟩

/-! the text's own functions -/
/-- what a call of the function at f does, from any frame -/
noncomputable def Fn (G : Gx) (n : Nat) (f : Addr) (xs : List AV) (σ : Hp) (Q : AV → Hp → Prop) : Prop :=
  ∀ (A : Around) (base : Heap) (s : Shared) (vs : List Value), AOk A n → BaseOk G base → base.objs.size ≤ s.heap.objs.size → avs vs xs → Rep G base σ s.heap → Still G s →
    codeAny G.M A (.call (.ref f) ⟨vs, []⟩) (fun r s' => ∃ v x σ', r = .ok (.ret v) ∧ av v = some x ∧ Rep G base σ' s'.heap ∧ Still G s' ∧ Q x σ') s

theorem Fn.mono {n n' : Nat} {f : Addr} {xs : List AV} {Q Q' : AV → Hp → Prop} (h : Fn G n f xs σ Q) (hn : n ≤ n') (k : ∀ x σ, Q x σ → Q' x σ) : Fn G n' f xs σ Q' := fun A base s vs a b z e R S =>
  codeAny_mono (h A base s vs (a.mono hn) b z e R S) fun r s' ⟨v, x, σ', h1, h2, h3, h4, h5⟩ => ⟨v, x, σ', h1, h2, h3, h4, k _ _ h5⟩
theorem Fn.forget {n : Nat} {f : Addr} {xs : List AV} {Q : AV → Hp → Prop} {σ' : Hp} (h : Fn G n f xs σ' Q) (k : ∀ a o, σ' a = some o → σ a = some o) : Fn G n f xs σ Q := fun A base s vs a b z e R S =>
  h A base s vs a b z e (R.sub k) S

theorem FRep.leave' {h : Heap} {base : Heap} {L : Addr} (F : FRep G base L μ σ h) : ∃ b', base.StaysIn b' ∧ b'.objs.size ≤ h.objs.size ∧ Rep G b' σ h ∧ ∀ σ' h', Rep G b' σ' h' → FRep G base L μ σ' h' := by
  obtain ⟨b', h1, h2, h3, h4⟩ := F.leaveS
  exact ⟨b', h1, Nat.le_of_eq h2, h3, h4⟩

theorem C_fn {n : Nat} {f : Addr} {xs : List AV} (hn : n ≤ c.n) (h : Fn G n f xs σ fun x σ => Q x μ σ) : Calls c (.ref f) xs μ σ Q := fun vf vs hv hx s F S => by
  cases av_ref hv
  obtain ⟨b', st, sz, R, back⟩ := F.leave'
  refine wpAny_call (codeAny_mono (h c.A b' s vs (c.ok.mono hn) (c.b.keeps st) sz hx R S) fun r s' z => ?_)
  obtain ⟨v, x, σ', rfl, e, R', S', q⟩ := z
  exact ⟨μ, σ', back σ' _ R', S', x, e, q⟩
theorem C_meth {n : Nat} {f q a : Addr} {xs : List AV} (hq : σ q = some (.meth f a)) (hn : n ≤ c.n) (h : Fn G n f (.ref a :: xs) σ fun x σ => Q x μ σ) : Calls c (.ref q) xs μ σ Q := fun vf vs hv hx s F S => by
  cases av_ref hv
  obtain ⟨δ, Y, ap⟩ := F.lay
  have hm : s.heap.get? q = some (methodObj (.ref f) (.ref a)) := Y.conc _ _ hq
  obtain ⟨b', st, sz, R, back⟩ := F.leave'
  refine wpAny_call (method_call hm (codeAny_mono (h c.A b' s (.ref a :: vs) (c.ok.mono hn) (c.b.keeps st) sz (by show _ :: _ = _ :: _; rw [hx]; rfl) R S) fun r s' z => ?_))
  obtain ⟨v, x, σ', rfl, e, R', S', q⟩ := z
  exact ⟨μ, σ', back σ' _ R', S', x, e, q⟩

/-- arguments bound to names, by their abstractions -/
noncomputable abbrev bnds (bs : List (Str × Value)) (xs : Loc) : Prop := bs.map (fun p => (p.1, av p.2)) = xs.map fun p => (p.1, some p.2)
theorem lookup_bnds {x : Str} : ∀ {bs : List (Str × Value)} {xs : Loc}, bnds bs xs → (bs.lookup x).map av = (xs.lookup x).map some
  | [], [], _ => rfl
  | [], _ :: _, h => nomatch h
  | _ :: _, [], h => nomatch h
  | (y, v) :: bs, (z, u) :: xs, h => by
    obtain ⟨h1, h2⟩ := List.cons.inj h
    obtain ⟨rfl, h1⟩ := Prod.mk.inj h1
    have ih := lookup_bnds (x := x) h2
    simp only [List.lookup_cons]
    by_cases q : (x == y) = true
    · simp only [q, Option.map_some]; exact congrArg some h1
    · simp only [Bool.not_eq_true] at q; simp only [q]; exact ih
theorem bnds_reverse {bs : List (Str × Value)} {xs : Loc} (h : bnds bs xs) : bnds bs.reverse xs.reverse := by
  unfold bnds at *
  rw [List.map_reverse, List.map_reverse, h]

/-- entering a def: its body, for every frame -/
theorem Fn.enter {n : Nat} {f : Addr} {xs : List AV} {Q : AV → Hp → Prop} {name qual : Str} {params : Arguments} {body : List Stmt} {scope : Scope} {dV kV doc pm cdv ct oc : Value} {an od : Option Addr} {osl : Array (Option Value)} {bx : Loc}
    (ho : G.K.lookup f = some ⟨oc, od, .func (fnOf name qual params body scope dV kV doc pm an cdv ct), osl⟩) (hcd : codeIn G.K cdv qual = true)
    (hb : ∀ vs, avs vs xs → ∀ s : Shared, G.K.In s.heap → ∃ binds, BindsTo s (fnOf name qual params body scope dV kV doc pm an cdv ct) ⟨vs, []⟩ binds ∧ bnds binds bx)
    (hl : bx.all (fun y => scope.names.lookup y.1 == some .local) = true)
    (h : ∀ c : Cx G, c.n = n → SV c (execs body (envOf qual scope c.L f cdv)) bx.reverse σ fun fl _ σ => match fl with | .ret x => Q x σ | _ => Q .none σ)
    (hcell : ∀ x ∈ scope.names, x.2 ≠ .cell) (hco : scope.isCoroutine = false := by rfl) (hgen : scope.isGenerator = false := by rfl) (hk : scope.kind = .function := by rfl) : Fn G (n + 1) f xs σ Q := fun A base s vs aok bok sz hx R S => by
  have X : G.K.In s.heap := bok.X.keeps R.keep
  obtain ⟨binds, hbd, hbb⟩ := hb vs hx s X
  have hloc : ∀ y ∈ binds, scope.names.lookup y.1 = some .local := fun y hy => by
    have : (y.1, av y.2) ∈ bx.map fun p => (p.1, some p.2) := by rw [← hbb]; exact List.mem_map_of_mem (f := fun p : Str × Value => (p.1, av p.2)) hy
    obtain ⟨q, hq, e⟩ := List.mem_map.mp this
    have := List.all_eq_true.mp hl q hq
    rw [← (Prod.mk.inj e).1]; simpa using this
  refine codeAny_call_def (fd := fnOf name qual params body scope dV kV doc pm an cdv ct) (body := body) (binds := binds) aok.room (X _ _ ho) rfl (bok.T.nolimit.keeps R.keep) (codeRec_of X hcd) rfl hbd hcell hloc (fun h₁ hns hk₁ => ?_) hco hgen hk
  let c : Cx G := ⟨A.deeper (callEnv (fnOf name qual params body scope dV kV doc pm an cdv ct) s.heap.objs.size f), base, s.heap.objs.size, n, aok.deeper _, bok, base, bok, sz, fun _ _ e => e⟩
  have none_ : ∀ b o, s.heap.get? b = some o → b ≠ s.heap.objs.size := fun b o e => Nat.ne_of_lt (Heap.lt_size e)
  obtain ⟨δ, Y⟩ := R.lay
  have F : FRep G c.base c.L bx.reverse σ h₁ := ⟨fun b o e => hk₁ _ _ (R.keep b o e), by
      cases q : base.get? s.heap.objs.size with
      | none => rfl
      | some o => exact absurd rfl (none_ _ _ (R.keep _ _ q)), ⟨_, hns, fun x => lookup_bnds (bnds_reverse hbb)⟩, δ, Y.touch fun a o b x _ _ e => hk₁ b x e, fun a o e hb => by
      obtain ⟨y, hy⟩ := (Y.conc a o e).there G _ hb
      exact none_ _ _ hy rfl⟩
  refine wpAny_mono (h c rfl { s with heap := h₁, toks := s.toks + binds.length } F S) (fun fl s' z => ?_) fun _ _ e => e.elim
  obtain ⟨μ', σ', F', S', x, e, q⟩ := z
  cases fl with
  | ret v =>
    have e' : (av v).map AF.ret = some x := e
    cases hv : av v with
    | none => rw [hv] at e'; cases e'
    | some y => rw [hv] at e'; cases e'; exact ⟨v, y, σ', rfl, hv, F'.toRep, S', q⟩
  | next => cases e; exact ⟨.none, .none, σ', rfl, rfl, F'.toRep, S', q⟩
  | brk => cases e; exact ⟨.none, .none, σ', rfl, rfl, F'.toRep, S', q⟩
  | cont => cases e; exact ⟨.none, .none, σ', rfl, rfl, F'.toRep, S', q⟩

theorem avs1 {vs : List Value} {x : AV} (h : avs vs [x]) : ∃ a, vs = [a] ∧ av a = some x := by
  cases vs with
  | nil => cases h
  | cons a r => obtain ⟨h1, h2⟩ := List.cons.inj h; cases r with
    | nil => exact ⟨a, rfl, h1⟩
    | cons _ _ => cases h2
theorem avs_cons {vs : List Value} {x : AV} {xs : List AV} (h : avs vs (x :: xs)) : ∃ a r, vs = a :: r ∧ av a = some x ∧ avs r xs := by
  cases vs with
  | nil => cases h
  | cons a r => obtain ⟨h1, h2⟩ := List.cons.inj h; exact ⟨a, r, rfl, h1, h2⟩
theorem avs_nil {vs : List Value} (h : avs vs []) : vs = [] := by cases vs with | nil => rfl | cons _ _ => cases h

end Mine
namespace Mine
variable {G : Gx} {c : Cx G} {μ : Loc} {σ : Hp} {env : Env} {Q : AV → Loc → Hp → Prop} {P : AF → Loc → Hp → Prop}
theorem AOk.under_make {A : Around} {n : Nat} {C : Addr} {rest : List Value} (h : AOk A (n + 1)) : AOk (A.under (.builtin "type.__call__" ⟨.ref C :: rest, []⟩)) n := by
  have hf : (Code.builtin "type.__call__" ⟨.ref C :: rest, []⟩).frames = 0 := rfl
  refine ⟨h.hd, ?_, ?_⟩
  · have := h.depth
    have e : (A.under (.builtin "type.__call__" ⟨.ref C :: rest, []⟩)).depth = A.depth + 1 := by
      show A.depth + Code.weight _ = _
      unfold Code.weight
      rw [hf]
      rfl
    rw [e]; omega
  · have := h.units
    have e : (A.under (.builtin "type.__call__" ⟨.ref C :: rest, []⟩)).units = A.units + 1 := by
      show A.units + Code.cUnits _ = _
      unfold Code.cUnits
      simp only [hf]
    rw [e]; omega
theorem C_make {n : Nat} {C fI : Addr} {xs : List AV} (cf : ClsFacts G.K C) (hm : makesIn G.K C = true) (hi : findIn G.K (.ref C) "__init__" = some (some (.ref fI))) (hf : isFn G.K (.ref fI) = true) (hn : n + 1 ≤ c.n)
    (h : ∀ x, σ x = Option.none → Fn G n fI (.ref x :: xs) (σ.set x (.inst C [])) fun r σ => r = .none ∧ Q (.ref x) μ σ) : Calls c (.ref C) xs μ σ Q := fun vf vs hv hx s F S => by
  cases av_ref hv
  obtain ⟨m, hn', hm'⟩ := F.loc
  refine call_cls (F.fr hn') c.b0b.X (news := rest s.heap c.b0 c.L []) rest_news hm hi hf (fun x dx h' F' N' l1 l2 => ?_)
  obtain ⟨δ, Y, ap⟩ := F.lay
  have k := rest_keep (l := [_, _]) F.keep0 F' N'
  have kb : ∀ b o, b ≠ c.L → s.heap.get? b = some o → h'.get? b = some o := fun b o hb e => k b o hb (fun z => nomatch z) e
  have hx1 := N' _ (.head _)
  have hd1 := N' _ (.tail _ (.head _))
  dsimp only at hx1 hd1
  have nn : ∀ y, c.b0.get? y = Option.none → y ≠ c.L → (∀ p ∈ rest s.heap c.b0 c.L [], p.1 < dx) → dx ≤ y → s.heap.get? y = Option.none := fun y hb hL lt le => by
    cases q : s.heap.get? y with
    | none => rfl
    | some o => exact absurd (lt (y, o) (mem_rest.mpr ⟨q, hL, (fun z => nomatch z), hb⟩)) (Nat.not_lt.mpr le)
  have nd := nn dx hd1.2.2 hd1.2.1 l1 (Nat.le_refl _)
  have nx := nn x hx1.2.2 hx1.2.1 l1 (Nat.le_of_lt l2)
  have ob : ∀ y, s.heap.get? y = Option.none → c.base.get? y = Option.none := fun y e => by
    cases q : c.base.get? y with
    | none => rfl
    | some o => rw [F.keep _ _ q] at e; cases e
  have nσ : σ x = Option.none := by
    cases q : σ x with
    | none => rfl
    | some o => obtain ⟨y, hy⟩ := (Y.conc x o q).there G x (.inl rfl); rw [nx] at hy; cases hy
  obtain ⟨δ', Y', d1, d2⟩ := Y.moreInst (h' := h') nx nd (Nat.ne_of_gt l2) (ob _ nx) (ob _ nd) hx1.1 hd1.1 cf fun d od b y e hb q => kb b y (fun z => ap d od e (z ▸ hb)) q
  have F1 : FRep G c.base c.L μ (σ.set x (.inst C [])) h' := ⟨fun b o e => kb b o (fun z => by rw [z, F.off] at e; cases e) (F.keep b o e), F.off, ⟨m, F'.ns, hm'⟩, δ', Y', fun a o e hb => by
    by_cases z : a = x
    · subst z
      rw [Hp.set_self] at e; cases e
      rcases hb with hb | ⟨_, hb⟩
      · exact hx1.2.1 hb.symm
      · rw [d2] at hb; exact hd1.2.1 hb.symm
    · rw [Hp.set_ne z] at e
      refine ap a o e ?_
      rcases hb with hb | ⟨i, hb⟩
      · exact .inl hb
      · exact .inr ⟨i, by rw [hb, d1 a o e]⟩⟩
  obtain ⟨b', st, sz, R, back⟩ := F1.leave'
  refine codeAny_mono (h x nσ _ b' { s with heap := h' } (.ref x :: vs) (c.ok.mono hn).under_make (c.b.keeps st) sz (by show _ :: _ = _ :: _; rw [hx]; rfl) R S) fun r s' z => ?_
  obtain ⟨v, y, σ', rfl, e, R', S', rfl, q⟩ := z
  exact ⟨av_none e, μ, σ', back σ' _ R', S', _, rfl, q⟩
end Mine
end

section
open PySem PySem.W PySem.Calls PyProof.Rows
namespace Mine
variable {G : Gx} {c : Cx G} {μ : Loc} {σ : Hp} {env : Env} {Q : AV → Loc → Hp → Prop} {P : AF → Loc → Hp → Prop}

theorem FRep.conc {h : Heap} {base : Heap} {L a : Addr} {o : AObj} (F : FRep G base L μ σ h) (ha : σ a = some o) (i : o.isInst = false) : ∀ δ, Conc G h δ a o := fun δ' => by
  obtain ⟨δ, Y, _⟩ := F.lay
  exact (Y.conc a o ha).keeps G (fun e => by rw [i] at e; cases e) fun b x hb hx => hx

/-- one object, no object, is turned -/
theorem FRep.turnAt {h h' : Heap} {base : Heap} {L a : Addr} {o o' : AObj} (F : FRep G base L μ σ h) (ha : σ a = some o) (i : o.isInst = false) (i' : o'.isInst = false) (hs : Heap.SameBut a h h')
    (hc : ∀ δ, Conc G h' δ a o') (dk : o'.isDict = o.isDict := by rfl) : FRep G base L μ (σ.set a o') h' := by
  obtain ⟨k, off, ⟨m, hn, hm⟩, δ, Y, ap⟩ := F
  have hLa : L ≠ a := fun z => ap a o ha (.inl z)
  refine ⟨fun b x e => ?_, off, ⟨m, hn.sameBut hs hLa, hm⟩, δ, Y.turn ha (i'.trans i.symm) dk (hc δ) (fun d od b x e hb nb hx => ?_), fun b ob e hb => ?_⟩
  · refine hs.extBut b x (fun z => ?_) (k b x e)
    rw [z, Y.off a o a ha (.inl rfl)] at e; cases e
  · exact hs.extBut b x (fun z => nb (.inl z)) hx
  · by_cases z : b = a
    · subst z
      rw [Hp.set_self] at e; cases e
      rcases hb with hb | ⟨q, _⟩
      · exact hLa hb
      · rw [i'] at q; cases q
    · rw [Hp.set_ne z] at e; exact ap b ob e hb

/-- a new object, no object, at the heap's end -/
theorem FRep.fresh {s : Shared} (F : FRep G c.base c.L μ σ s.heap) : s.heap.get? s.heap.objs.size = none ∧ σ s.heap.objs.size = none := by
  have e : s.heap.get? s.heap.objs.size = none := by
    cases q : s.heap.get? s.heap.objs.size with
    | none => rfl
    | some o => exact absurd (Heap.lt_size q) (Nat.lt_irrefl _)
  refine ⟨e, ?_⟩
  obtain ⟨δ, Y, _⟩ := F.lay
  cases q : σ s.heap.objs.size with
  | none => rfl
  | some o => obtain ⟨y, hy⟩ := (Y.conc _ o q).there G _ (.inl rfl); rw [e] at hy; cases hy
theorem FRep.newObj {s : Shared} {o : AObj} {x : Obj} (F : FRep G c.base c.L μ σ s.heap) (i : o.isInst = false) (hf : x.isFreed = false) (hc : ∀ h' δ, h'.get? s.heap.objs.size = some x → Conc G h' δ s.heap.objs.size o) :
    FRep G c.base c.L μ (σ.set s.heap.objs.size o) (s.heap.push x) := by
  obtain ⟨e, eσ⟩ := F.fresh
  have lo := size3 c.b F.keep
  obtain ⟨k, off, ⟨m, hn, hm⟩, δ, Y, ap⟩ := F
  have hb : c.base.get? s.heap.objs.size = none := by
    cases q : c.base.get? s.heap.objs.size with
    | none => rfl
    | some o => rw [k _ _ q] at e; cases e
  refine ⟨fun b y e => Heap.get?_push_of_some _ (k b y e), off, ⟨m, hn.push _, hm⟩, δ, Y.more e (fun _ => lo) hb i (hc _ δ (Heap.get?_push_size _ hf)) fun _ _ b y _ _ hy => Heap.get?_push_of_some _ hy, fun b ob q hbb => ?_⟩
  by_cases z : b = s.heap.objs.size
  · subst z
    rw [Hp.set_self] at q; cases q
    rcases hbb with w | ⟨q, _⟩
    · exact Nat.lt_irrefl _ (w ▸ hn.lt)
    · rw [i] at q; cases q
  · rw [Hp.set_ne z] at q; exact ap b ob q hbb

/-! new lists, tuples, dicts -/
theorem W_newList {xs : List AV} {vs : List Value} (hx : avs vs xs) (hz : xs.length ≤ 1000000) (h : ∀ a, σ a = none → Q (.ref a) μ (σ.set a (.list xs))) : EV c (newList vs) μ σ Q := fun s F S =>
  wpAny_newObj_type ⟨μ, _, F.newObj (o := .list xs) rfl rfl (fun h' δ e => ⟨vs, 0, e, hx⟩), S, _, rfl, h _ F.fresh.2⟩ (by
    show vs.toArray.size ≤ sizeLine
    have : vs.length = xs.length := by simpa using congrArg List.length hx
    rw [List.size_toArray, this, sizeLine_eq]; omega)
theorem W_newTuple {xs : List AV} {vs : List Value} (hx : avs vs xs) (hz : xs.length ≤ 1000000) (h : ∀ a, σ a = none → Q (.ref a) μ (σ.set a (.tup xs))) : EV c (newTuple vs) μ σ Q := fun s F S =>
  wpAny_newObj_type ⟨μ, _, F.newObj (o := .tup xs) rfl rfl (fun h' δ e => ⟨vs, 0, e, hx⟩), S, _, rfl, h _ F.fresh.2⟩ (by
    show vs.toArray.size ≤ sizeLine
    have : vs.length = xs.length := by simpa using congrArg List.length hx
    rw [List.size_toArray, this, sizeLine_eq]; omega)
theorem E_List {es : List Expr} {pos : Pos} (h : EVs c (spliced (backTo pos (starEach es env))) μ σ fun xs μ σ => xs.length ≤ 1000000 ∧ ∀ a, σ a = none → Q (.ref a) μ (σ.set a (.list xs))) : EV c (eval (.List es pos) env) μ σ Q := fun s F S =>
  PyProof.Rows.List_ (W.run h F S fun vs s₁ μ₁ σ₁ F₁ S₁ h₁ => by
    obtain ⟨xs, hx, hz, q⟩ := h₁
    exact W_newList hx hz q s₁ F₁ S₁)
theorem E_Tuple {es : List Expr} {k : Nat} {pos : Pos} (h : EVs c (spliced (backTo pos (starEach es env))) μ σ fun xs μ σ => xs.length ≤ 1000000 ∧ ∀ a, σ a = none → Q (.ref a) μ (σ.set a (.tup xs))) : EV c (eval (.Tuple es k pos) env) μ σ Q := fun s F S =>
  PyProof.Rows.Tuple_ (W.run h F S fun vs s₁ μ₁ σ₁ F₁ S₁ h₁ => by
    obtain ⟨xs, hx, hz, q⟩ := h₁
    exact W_newTuple hx hz q s₁ F₁ S₁)
theorem newDict_conc_i {h' : Heap} {δ : Addr → Addr} {a : Addr} (e : h'.get? a = some { cls := .type "dict", data := .dict #[] }) : Conc G h' δ a (.idict []) :=
  ⟨_, [], e, ⟨#[], 0, ⟨rfl, rfl, rfl⟩, rfl, fun _ h => by simp at h, .nil, .nil⟩, rfl⟩
theorem newDict_conc_s {h' : Heap} {δ : Addr → Addr} {a : Addr} (e : h'.get? a = some { cls := .type "dict", data := .dict #[] }) : Conc G h' δ a (.sdict []) :=
  ⟨_, [], e, ⟨#[], 0, ⟨rfl, rfl, rfl⟩, rfl, fun _ h => by simp at h, .nil, .nil⟩, rfl⟩
theorem E_Dict0i {pos : Pos} (h : ∀ a, σ a = none → Q (.ref a) μ (σ.set a (.idict []))) : EV c (eval (.Dict [] [] pos) env) μ σ Q := fun s F S => by
  rw [eval_Dict_empty]
  exact wpAny_bind (wpAny_standAt (wpAny_newObj_type ⟨μ, _, F.newObj (o := .idict []) rfl rfl (fun h' δ e => newDict_conc_i e), S, _, rfl, h _ F.fresh.2⟩ (by show 0 ≤ sizeLine + 1; omega)))
theorem E_Dict0s {pos : Pos} (h : ∀ a, σ a = none → Q (.ref a) μ (σ.set a (.sdict []))) : EV c (eval (.Dict [] [] pos) env) μ σ Q := fun s F S => by
  rw [eval_Dict_empty]
  exact wpAny_bind (wpAny_standAt (wpAny_newObj_type ⟨μ, _, F.newObj (o := .sdict []) rfl rfl (fun h' δ e => newDict_conc_s e), S, _, rfl, h _ F.fresh.2⟩ (by show 0 ≤ sizeLine + 1; omega)))

/-! methods of lists and dicts -/
theorem FRep.listAt {s : Shared} {l : Addr} {xs : List AV} (F : FRep G c.base c.L μ σ s.heap) (hl : σ l = some (.list xs)) : ∃ vs n, s.heap.get? l = some (listO vs n) ∧ avs vs xs := by
  have := F.conc hl rfl id
  exact this
theorem M_list {l : Addr} {xs : List AV} {name : Str} {id : String} {R : AV → List AV → Loc → Hp → Prop} (hl : σ l = some (.list xs)) (slot : Slot "list" name id) (hty : typeOf (.builtin id) = pure (.type "method_descriptor"))
    (h : R (.bi id) [.ref l] μ σ) : MethOf c (.ref l) name μ σ R := fun v pl hv s F S => by
  cases av_ref hv
  obtain ⟨vs, n, e, _⟩ := F.listAt hl
  exact getMethod_builtin ⟨_, e, rfl⟩ PySem.F.plainAttrs_list slot hty (fun a z => by cases z; exact ⟨_, e, rfl⟩) ⟨μ, σ, F, S, _, _, rfl, rfl, h⟩
theorem list_conc {h h' : Heap} {l : Addr} {vs vs' : List Value} {xs' : List AV} {n : Nat} {f : Array Value → Array Value} (e : h.get? l = some (listO vs n)) (hf : f vs.toArray = vs'.toArray) (hx : avs vs' xs') :
    ∀ δ, Conc G (h.update l (Obj.mapSeq f)) δ l (.list xs') := fun δ => by
  refine ⟨vs', (if (f vs.toArray).size == vs.toArray.size then n else n + 1), ?_, hx⟩
  have := Heap.get?_update_self (h := h) (Obj.mapSeq f) e rfl
  rw [this]
  unfold listO Obj.mapSeq
  simp only [hf]
theorem list_turn {h : Heap} {base : Heap} {L l : Addr} {xs xs' : List AV} {vs vs' : List Value} {n : Nat} {f : Array Value → Array Value} (F : FRep G base L μ σ h) (hl : σ l = some (.list xs)) (e : h.get? l = some (listO vs n))
    (hf : f vs.toArray = vs'.toArray) (hx : avs vs' xs') : FRep G base L μ (σ.set l (.list xs')) (h.update l (Obj.mapSeq f)) :=
  F.turnAt hl rfl rfl (Heap.SameBut.update ..) (list_conc (h' := h) e hf hx)

theorem avs_len {vs : List Value} {xs : List AV} (h : avs vs xs) : vs.length = xs.length := by simpa using congrArg List.length h
theorem avs_get {vs : List Value} {xs : List AV} (h : avs vs xs) {k : Nat} {x : AV} (e : xs[k]? = some x) : ∃ v, vs[k]? = some v ∧ av v = some x := by
  have := congrArg (·[k]?) h
  simp only [List.getElem?_map, e, Option.map_some] at this
  cases q : vs[k]? with
  | none => rw [q] at this; cases this
  | some v => rw [q] at this; exact ⟨v, rfl, Option.some.inj this⟩

theorem C_append {l : Addr} {xs : List AV} {x : AV} (hl : σ l = some (.list xs)) (hz : xs.length ≤ 1000000) (h : Q .none μ (σ.set l (.list (xs ++ [x])))) : Calls c (.bi "list.append") [.ref l, x] μ σ Q := fun vf vs hv hx s F S => by
  cases av_bi hv
  obtain ⟨a, r, rfl, ha, hr⟩ := avs_cons hx
  obtain ⟨b, rfl, hb⟩ := avs1 hr
  cases av_ref ha
  obtain ⟨us, n, e, hu⟩ := F.listAt hl
  refine append_at (n := n) e (fun h' hs he => ⟨μ, _, F.turnAt (o' := .list (xs ++ [x])) hl rfl rfl hs (fun δ => ⟨us ++ [b], n + 1, by rw [he]; simp [listO], by simp [avs, hu, hb]⟩), S, _, rfl, h⟩) ?_
  rw [List.size_toArray, avs_len hu, sizeLine_eq]; omega

theorem erase_at {us : List Value} {k : Nat} {v : Value} (e : us[k]? = some v) : us.toArray.eraseIdxIfInBounds k = (us.eraseIdx k).toArray := by
  have hk : k < us.length := by
    rcases Nat.lt_or_ge k us.length with q | q
    · exact q
    · rw [List.getElem?_eq_none q] at e; cases e
  have d : us = us.take k ++ v :: us.drop (k + 1) := by
    have : us[k] = v := by rw [List.getElem?_eq_getElem hk] at e; exact Option.some.inj e
    rw [← this, ← List.drop_eq_getElem_cons hk, List.take_append_drop]
  have l : (us.take k).length = k := by rw [List.length_take]; omega
  rw [List.eraseIdx_eq_take_drop_succ]
  conv => lhs; rw [d]
  have := kl_erase (us.take k) (us.drop (k + 1)) v
  rw [l] at this
  exact this
theorem avs_erase {vs : List Value} {xs : List AV} (h : avs vs xs) (k : Nat) : avs (vs.eraseIdx k) (xs.eraseIdx k) := by
  unfold avs at *
  rw [List.eraseIdx_eq_take_drop_succ, List.eraseIdx_eq_take_drop_succ]
  simp only [List.map_append, List.map_take, List.map_drop, h]

theorem C_pop {l : Addr} {xs : List AV} {x : AV} (hl : σ l = some (.list xs)) (hlast : xs[xs.length - 1]? = some x) (hz : xs.length ≤ 1000000) (h : Q x μ (σ.set l (.list (xs.eraseIdx (xs.length - 1))))) : Calls c (.bi "list.pop") [.ref l] μ σ Q := fun vf vs hv hx s F S => by
  cases av_bi hv
  obtain ⟨a, rfl, ha⟩ := avs1 hx
  cases av_ref ha
  obtain ⟨us, n, e, hu⟩ := F.listAt hl
  have hlen := avs_len hu
  obtain ⟨v, hv', hav⟩ := avs_get hu hlast
  have hz' : us.toArray.size ≤ sizeLine := by rw [List.size_toArray, hlen, sizeLine_eq]; omega
  refine call_meets PySem.F.slot_list_pop ⟨_, e, rfl⟩ PySem.F.entry_list_pop (PySem.F.args_list_pop_1 _) (PySem.MeetsSeq.list_pop_last l us.toArray n v (by simpa [hlen] using hv') hz') ⟨e, ?_⟩
  exact ⟨μ, _, list_turn (vs' := us.eraseIdx (xs.length - 1)) F hl e (by rw [List.size_toArray, hlen]; exact erase_at hv') (avs_erase hu _), S, x, hav, h⟩

theorem C_popAt {l : Addr} {xs : List AV} {x : AV} {i : Int} (hl : σ l = some (.list xs)) (h0 : 0 ≤ i) (hi : xs[i.toNat]? = some x) (hz : xs.length ≤ 1000000) (h : Q x μ (σ.set l (.list (xs.eraseIdx i.toNat)))) : Calls c (.bi "list.pop") [.ref l, .int i] μ σ Q := fun vf vs hv hx s F S => by
  cases av_bi hv
  obtain ⟨a, r, rfl, ha, hr⟩ := avs_cons hx
  obtain ⟨b, rfl, hb⟩ := avs1 hr
  cases av_ref ha
  obtain ⟨t, rfl⟩ := av_int hb
  obtain ⟨us, n, e, hu⟩ := F.listAt hl
  have hlen := avs_len hu
  obtain ⟨v, hv', hav⟩ := avs_get hu hi
  have hk : i.toNat < xs.length := by
    rcases Nat.lt_or_ge i.toNat xs.length with q | q
    · exact q
    · rw [List.getElem?_eq_none q] at hi; cases hi
  have hz' : us.toArray.size ≤ sizeLine := by rw [List.size_toArray, hlen, sizeLine_eq]; omega
  refine call_meets PySem.F.slot_list_pop ⟨_, e, rfl⟩ PySem.F.entry_list_pop (PySem.F.args_list_pop_2 _ _) (PySem.MeetsSeq.list_pop_at l us.toArray n i t i.toNat v (fitsIndex_of h0 (by omega)) (seqIndex_of h0 (by rw [List.size_toArray, hlen]; omega)) (by simpa using hv') hz') ⟨e, ?_⟩
  exact ⟨μ, _, list_turn (vs' := us.eraseIdx i.toNat) F hl e (erase_at hv') (avs_erase hu _), S, x, hav, h⟩

noncomputable def isInt (j : Int) : Value → Bool
  | .int i _ => i == j
  | _ => false
theorem avs_ints {vs : List Value} {ys : List Int} (h : avs vs (ys.map .int)) : ∀ v ∈ vs, ∃ i t, v = .int i t ∧ i ∈ ys := fun v hv => by
  have : av v ∈ (ys.map AV.int).map some := by rw [← h]; exact List.mem_map_of_mem hv
  simp only [List.mem_map] at this
  obtain ⟨x, ⟨i, hi, rfl⟩, e⟩ := this
  obtain ⟨t, rfl⟩ := av_int e.symm
  exact ⟨i, t, rfl, hi⟩
theorem C_remove {l : Addr} {ys : List Int} {j : Int} (hl : σ l = some (.list (ys.map .int))) (hj : j ∈ ys) (hz : ys.length ≤ 1000000) (h : Q .none μ (σ.set l (.list ((ys.erase j).map .int)))) : Calls c (.bi "list.remove") [.ref l, .int j] μ σ Q := fun vf vs hv hx s F S => by
  cases av_bi hv
  obtain ⟨a, r, rfl, ha, hr⟩ := avs_cons hx
  obtain ⟨b, rfl, hb⟩ := avs1 hr
  cases av_ref ha
  obtain ⟨t, rfl⟩ := av_int hb
  obtain ⟨us, n, e, hu⟩ := F.listAt hl
  have hlen := avs_len hu
  rw [List.length_map] at hlen
  have hlt : ys.idxOf j < ys.length := List.idxOf_lt_length_of_mem hj
  have at_ : ∀ k (hk : k < us.length), ∃ t', us[k] = .int (ys[k]'(by omega)) t' := fun k hk => by
    obtain ⟨v, hv', hav⟩ := avs_get hu (k := k) (x := .int (ys[k]'(by omega))) (by simp [List.getElem?_map, List.getElem?_eq_getElem (show k < ys.length by omega)])
    rw [List.getElem?_eq_getElem hk] at hv'
    obtain ⟨t', e'⟩ := av_int hav
    exact ⟨t', (Option.some.inj hv').trans e'⟩
  obtain ⟨t0, e0⟩ := at_ (ys.idxOf j) (by omega)
  have hz' : us.toArray.size ≤ sizeLine := by rw [List.size_toArray, hlen, sizeLine_eq]; omega
  refine call_meets PySem.F.slot_list_remove ⟨_, e, rfl⟩ PySem.F.entry_list_remove (PySem.F.args_list_remove_2 _ _) (PySem.MeetsSeq.list_remove l us.toArray n (.int j t) (isInt j) (fun y hy => ?_) (ys.idxOf j) (by rw [List.size_toArray]; omega) ?_ (fun m hm hlt' => ?_) hz') ⟨e, ?_⟩
  · obtain ⟨i, u, rfl, _⟩ := avs_ints hu y (by simpa using hy)
    exact PySem.MeetsSeq.EqGives.int i j u t
  · have : us.toArray[ys.idxOf j]'(by rw [List.size_toArray]; omega) = us[ys.idxOf j] := by simp
    rw [this, e0]
    simp [isInt]
  · have hm' : m < us.length := by simpa using hm
    obtain ⟨t1, e1⟩ := at_ m hm'
    have : us.toArray[m]'hm = us[m] := by simp
    rw [this, e1]
    have := List.not_of_lt_findIdx (p := (· == j)) (xs := ys) (i := m) (by simpa [List.idxOf] using hlt')
    simpa [isInt] using this
  · refine ⟨μ, _, list_turn (vs' := us.eraseIdx (ys.idxOf j)) (xs' := (ys.erase j).map .int) F hl e (erase_at (v := us[ys.idxOf j]) (by rw [List.getElem?_eq_getElem])) ?_, S, .none, rfl, h⟩
    have := avs_erase hu (ys.idxOf j)
    have e2 : (ys.map AV.int).eraseIdx (ys.idxOf j) = (ys.erase j).map AV.int := by
      rw [List.erase_eq_eraseIdx_of_idxOf rfl]
      simp only [List.eraseIdx_eq_take_drop_succ, List.map_append, List.map_take, List.map_drop]
    rwa [e2] at this
/-! subscripts -/
/-- o[i] read -/
noncomputable def GetItem (c : Cx G) (o i : AV) (μ : Loc) (σ : Hp) (Q : AV → Loc → Hp → Prop) : Prop := ∀ a b (s : Shared), av a = some o → av b = some i → FRep G c.base c.L μ σ s.heap → Still G s →
  (∃ T id, s.TypeIs a T ∧ typeLookup (.type T) "__getitem__" = pure (some (.builtin id))) ∧ wpAny G.M c.A (getItem a b) (fun v s' => ∃ μ' σ', FRep G c.base c.L μ' σ' s'.heap ∧ Still G s' ∧ VQ Q v μ' σ') (fun _ _ => False) s
theorem E_Sub {o i : Expr} {pos : Pos} (h : EV c (eval o env) μ σ fun x μ σ => EV c (eval i env) μ σ fun y μ σ => GetItem c x y μ σ Q)
    (hs : ∀ a b, subscripted i false a b = operate [a, b] (getItem a b) := by intro _ _; with_unfolding_all rfl) : EV c (eval (.Subscript o i pos) env) μ σ Q := fun _ F S =>
  PyProof.Rows.Subscript_ (h.run F S fun a x s₁ _ _ F₁ S₁ ha h₁ => h₁.run F₁ S₁ fun b y s₂ _ _ F₂ S₂ hb h₂ => by
    obtain ⟨⟨T, id, hT, hl⟩, w⟩ := h₂ a b s₂ ha hb F₂ S₂
    exact tail_any hT hl w (hs a b))
theorem I_list {l : Addr} {xs : List AV} {k : Int} {x : AV} (hl : σ l = some (.list xs)) (h0 : 0 ≤ k) (hk : xs[k.toNat]? = some x) (h : Q x μ σ) (hf : k < 2 ^ 63 := by omega) : GetItem c (.ref l) (.int k) μ σ Q := fun a b s ha hb F S => by
  cases av_ref ha
  obtain ⟨t, rfl⟩ := av_int hb
  obtain ⟨us, n, e, hu⟩ := F.listAt hl
  obtain ⟨v, hv', hav⟩ := avs_get hu hk
  exact ⟨⟨_, _, ⟨_, e, rfl⟩, PySem.slot_list_getitem.lookup⟩, wpAny_getItem_list (items := us.toArray) ⟨_, e, rfl, n, rfl⟩ h0 hf (by simpa using hv') ⟨μ, σ, F, S, x, hav, h⟩⟩
theorem I_tup {l : Addr} {xs : List AV} {k : Int} {x : AV} (hl : σ l = some (.tup xs)) (h0 : 0 ≤ k) (hk : xs[k.toNat]? = some x) (h : Q x μ σ) (hf : k < 2 ^ 63 := by omega) : GetItem c (.ref l) (.int k) μ σ Q := fun a b s ha hb F S => by
  cases av_ref ha
  obtain ⟨t, rfl⟩ := av_int hb
  obtain ⟨us, n, e, hu⟩ := F.conc hl rfl id
  have hlen := avs_len hu
  have hk' : k.toNat < xs.length := by
    rcases Nat.lt_or_ge k.toNat xs.length with q | q
    · exact q
    · rw [List.getElem?_eq_none q] at hk; cases hk
  obtain ⟨v, hv', hav⟩ := avs_get hu hk
  exact ⟨⟨_, _, ⟨_, e, rfl⟩, PySem.F.slot_tuple_getitem.lookup⟩, PyProof.Rows.getItem_tuple (items := us.toArray) ⟨_, e, rfl, n, rfl⟩ (by omega) hf (seqIndex_of h0 (by rw [List.size_toArray]; omega)) (by simpa using hv') ⟨μ, σ, F, S, x, hav, h⟩⟩

/-! dicts -/
noncomputable abbrev kvs {K : Type} (kv : List (K × Value)) (xs : List (K × AV)) : Prop := kv.map (fun p => (p.1, av p.2)) = xs.map fun p => (p.1, some p.2)
section
variable {K : Type} [DecidableEq K]
/-- the value at a key -/
noncomputable def keyAt (xs : List (K × AV)) (k : K) : Option AV := (xs.find? fun p => p.1 = k).map (·.2)
/-- a pair stored -/
noncomputable def putAt (xs : List (K × AV)) (k : K) (v : AV) : List (K × AV) := if xs.any (fun p => p.1 = k) then xs.map (fun p => if p.1 = k then (p.1, v) else p) else xs ++ [(k, v)]
noncomputable def dropAt (xs : List (K × AV)) (k : K) : List (K × AV) := xs.filter fun p => decide (p.1 ≠ k)
theorem kvs_at {kv : List (K × Value)} {xs : List (K × AV)} (h : kvs kv xs) (k : K) : (valueAt kv k).map av = (keyAt xs k).map some := by
  induction kv generalizing xs with
  | nil => cases xs with | nil => rfl | cons _ _ => cases h
  | cons p r ih =>
    cases xs with
    | nil => cases h
    | cons q t =>
      obtain ⟨h1, h2⟩ := List.cons.inj h
      obtain ⟨k1, v1⟩ := p; obtain ⟨k2, v2⟩ := q
      obtain ⟨rfl, h1⟩ := Prod.mk.inj h1
      have := ih h2
      unfold valueAt keyAt at *
      simp only [List.find?_cons]
      by_cases z : k1 = k
      · simp only [z, decide_true, Option.map_some]; exact congrArg some h1
      · simp only [z, decide_false]; exact this
theorem kvs_keys {kv : List (K × Value)} {xs : List (K × AV)} (h : kvs kv xs) : kv.map (·.1) = xs.map (·.1) := by
  have := congrArg (List.map (·.1)) h
  simpa [List.map_map, Function.comp_def] using this
theorem kvs_any {kv : List (K × Value)} {xs : List (K × AV)} (h : kvs kv xs) (k : K) : kv.any (fun p => p.1 = k) = xs.any fun p => p.1 = k := by
  have a : kv.any (fun p => decide (p.1 = k)) = (kv.map (·.1)).any fun y => decide (y = k) := by simp [List.any_map, Function.comp_def]
  have b : xs.any (fun p => decide (p.1 = k)) = (xs.map (·.1)).any fun y => decide (y = k) := by simp [List.any_map, Function.comp_def]
  rw [a, b, kvs_keys h]
theorem kvs_put {kv : List (K × Value)} {xs : List (K × AV)} (h : kvs kv xs) (k : K) {v : Value} {x : AV} (hv : av v = some x) : kvs (stored kv k v) (putAt xs k x) := by
  unfold stored putAt
  rw [kvs_any h k]
  split
  · rename_i q
    clear q
    induction kv generalizing xs with
    | nil => cases xs with | nil => rfl | cons _ _ => cases h
    | cons p r ih =>
      cases xs with
      | nil => cases h
      | cons q t =>
        obtain ⟨h1, h2⟩ := List.cons.inj h
        obtain ⟨k1, v1⟩ := p; obtain ⟨k2, v2⟩ := q
        obtain ⟨rfl, h1⟩ := Prod.mk.inj h1
        have h1' : av v1 = some v2 := h1
        have := ih h2
        unfold kvs at *
        simp only [List.map_cons]
        congr 1
        by_cases z : k1 = k
        · simp [z, hv]
        · simp [z, h1']
  · unfold kvs at *
    simp [h, hv]
theorem kvs_drop {kv : List (K × Value)} {xs : List (K × AV)} (h : kvs kv xs) (k : K) : kvs (without kv k) (dropAt xs k) := by
  induction kv generalizing xs with
  | nil => cases xs with | nil => rfl | cons _ _ => cases h
  | cons p r ih =>
    cases xs with
    | nil => cases h
    | cons q t =>
      obtain ⟨h1, h2⟩ := List.cons.inj h
      obtain ⟨k1, v1⟩ := p; obtain ⟨k2, v2⟩ := q
      obtain ⟨rfl, h1⟩ := Prod.mk.inj h1
      have := ih h2
      unfold without dropAt kvs at *
      simp only [List.filter_cons]
      by_cases z : k1 = k
      · simpa [z] using this
      · have h1' : av v1 = some v2 := h1
        simpa [z, h1'] using this
end
end Mine
end

section
open PySem PySem.W PySem.Calls PyProof.Rows
namespace Mine
variable {G : Gx} {c : Cx G} {μ : Loc} {σ : Hp} {env : Env} {Q : AV → Loc → Hp → Prop} {P : AF → Loc → Hp → Prop} {R : Loc → Hp → Prop}

theorem FRep.lo {h : Heap} {base : Heap} {L a : Addr} {o : AObj} (F : FRep G base L μ σ h) (ha : σ a = some o) (i : o.isDict = true) : (a == sysModules) = false := by
  obtain ⟨δ, Y, _⟩ := F.lay
  have := Y.lo a o ha i
  have h1 : sysModules = 1 := rfl
  rw [h1]; exact beq_false_of_ne (Nat.ne_of_gt (Nat.lt_trans (by decide) this))
theorem FRep.idict {s : Shared} {d : Addr} {xs : List (Int × AV)} (F : FRep G c.base c.L μ σ s.heap) (hd : σ d = some (.idict xs)) : ∃ kv, s.heap.DictOf (intKind G.prog G.w) d kv ∧ kvs kv xs := by
  obtain ⟨o, kv, h1, h2, h3⟩ := F.conc hd rfl id
  exact ⟨kv, Heap.dictOf_iff.mpr ⟨o, h1, h2⟩, h3⟩
theorem FRep.sdict {s : Shared} {d : Addr} {xs : List (Str × AV)} (F : FRep G c.base c.L μ σ s.heap) (hd : σ d = some (.sdict xs)) : ∃ kv, s.heap.DictOf (strKind G.prog G.w) d kv ∧ kvs kv xs := by
  obtain ⟨o, kv, h1, h2, h3⟩ := F.conc hd rfl id
  exact ⟨kv, Heap.dictOf_iff.mpr ⟨o, h1, h2⟩, h3⟩
theorem FRep.iturn {h h' : Heap} {base : Heap} {L d : Addr} {xs xs' : List (Int × AV)} {kv : List (Int × Value)} (F : FRep G base L μ σ h) (hd : σ d = some (.idict xs)) (hs : Heap.SameBut d h h') (hc : h'.DictOf (intKind G.prog G.w) d kv) (hk : kvs kv xs') :
    FRep G base L μ (σ.set d (.idict xs')) h' := F.turnAt hd rfl rfl hs fun δ => by
  obtain ⟨o, h1, h2⟩ := Heap.dictOf_iff.mp hc
  exact ⟨o, kv, h1, h2, hk⟩
theorem FRep.sturn {h h' : Heap} {base : Heap} {L d : Addr} {xs xs' : List (Str × AV)} {kv : List (Str × Value)} (F : FRep G base L μ σ h) (hd : σ d = some (.sdict xs)) (hs : Heap.SameBut d h h') (hc : h'.DictOf (strKind G.prog G.w) d kv) (hk : kvs kv xs') :
    FRep G base L μ (σ.set d (.sdict xs')) h' := F.turnAt hd rfl rfl hs fun δ => by
  obtain ⟨o, h1, h2⟩ := Heap.dictOf_iff.mp hc
  exact ⟨o, kv, h1, h2, hk⟩
theorem ik (prog : Program) (w : World) (k : Int) (t : Tok) : (intKind prog w).is k (.int k t) = true := intKind_is prog w k t
theorem sk (prog : Program) (w : World) (k : Str) (t : Tok) : (strKind prog w).is k (.str k t) = true := strKind_is prog w k t
theorem at_some {K : Type} [DecidableEq K] {kv : List (K × Value)} {xs : List (K × AV)} (h : kvs kv xs) {k : K} {x : AV} (e : keyAt xs k = some x) : ∃ v, valueAt kv k = some v ∧ av v = some x := by
  have := kvs_at h k
  rw [e] at this
  cases q : valueAt kv k with
  | none => rw [q] at this; cases this
  | some v => rw [q] at this; exact ⟨v, rfl, Option.some.inj this⟩
theorem kvs_len {K : Type} {kv : List (K × Value)} {xs : List (K × AV)} (h : kvs kv xs) : kv.length = xs.length := by simpa using congrArg List.length h

theorem I_idict {d : Addr} {xs : List (Int × AV)} {k : Int} {x : AV} (hd : σ d = some (.idict xs)) (hk : keyAt xs k = some x) (h : Q x μ σ) : GetItem c (.ref d) (.int k) μ σ Q := fun a b s ha hb F S => by
  cases av_ref ha
  obtain ⟨t, rfl⟩ := av_int hb
  obtain ⟨kv, hm, hv⟩ := F.idict hd
  obtain ⟨v, h1, h2⟩ := at_some hv hk
  exact ⟨⟨_, _, hm.typeIs, PySem.slot_dict_getitem.lookup⟩, wpAny_getItem_of (ik _ _ k t) hm.mapOf h1 ⟨μ, σ, F, S, x, h2, h⟩⟩
theorem I_sdict {d : Addr} {xs : List (Str × AV)} {k : Str} {x : AV} (hd : σ d = some (.sdict xs)) (hk : keyAt xs k = some x) (h : Q x μ σ) : GetItem c (.ref d) (.str k) μ σ Q := fun a b s ha hb F S => by
  cases av_ref ha
  obtain ⟨t, rfl⟩ := av_str hb
  obtain ⟨kv, hm, hv⟩ := F.sdict hd
  obtain ⟨v, h1, h2⟩ := at_some hv hk
  exact ⟨⟨_, _, hm.typeIs, PySem.slot_dict_getitem.lookup⟩, wpAny_getItem_of (sk _ _ k t) hm.mapOf h1 ⟨μ, σ, F, S, x, h2, h⟩⟩

theorem O_in {d : Addr} {xs : List (Int × AV)} {k : Int} (hd : σ d = some (.idict xs)) (h : Q (.bool (keyAt xs k).isSome) μ σ) : Op c (compareOp .In) (.int k) (.ref d) μ σ Q := fun a b ha hb s F S => by
  cases av_ref hb
  obtain ⟨t, rfl⟩ := av_int ha
  obtain ⟨kv, hm, hv⟩ := F.idict hd
  have : (valueAt kv k).isSome = (keyAt xs k).isSome := by simpa using congrArg Option.isSome (kvs_at hv k)
  exact wpAny_in_of (ik _ _ k t) (F.lo hd rfl) hm.mapOf ⟨μ, σ, F, S, _, rfl, by rw [this]; exact h⟩
theorem O_notin {d : Addr} {xs : List (Int × AV)} {k : Int} (hd : σ d = some (.idict xs)) (h : Q (.bool (!(keyAt xs k).isSome)) μ σ) : Op c (compareOp .NotIn) (.int k) (.ref d) μ σ Q := fun a b ha hb s F S => by
  cases av_ref hb
  obtain ⟨t, rfl⟩ := av_int ha
  obtain ⟨kv, hm, hv⟩ := F.idict hd
  have : (valueAt kv k).isSome = (keyAt xs k).isSome := by simpa using congrArg Option.isSome (kvs_at hv k)
  exact wpAny_notIn_of (ik _ _ k t) (F.lo hd rfl) hm.mapOf ⟨μ, σ, F, S, _, rfl, by rw [this]; exact h⟩

/-! stores into places -/
noncomputable def SetItem (c : Cx G) (o i x : AV) (μ : Loc) (σ : Hp) (R : Loc → Hp → Prop) : Prop := ∀ a b v, av a = some o → av b = some i → av v = some x → W c (setItem a b v) μ σ fun _ => R
theorem J_idict {d : Addr} {xs : List (Int × AV)} {k : Int} {x : AV} (hd : σ d = some (.idict xs)) (hz : xs.length ≤ 1000000) (h : R μ (σ.set d (.idict (putAt xs k x)))) : SetItem c (.ref d) (.int k) x μ σ R := fun a b v ha hb hv s F S => by
  cases av_ref ha
  obtain ⟨t, rfl⟩ := av_int hb
  obtain ⟨kv, hm, hk⟩ := F.idict hd
  exact wpAny_setItem_pairs (ik _ _ k t) hm (fun h' hm' hs' => ⟨μ, _, F.iturn hd hs' hm' (kvs_put hk k hv), S, h⟩) (by rw [kvs_len hk, sizeLine_eq]; omega)
theorem J_sdict {d : Addr} {xs : List (Str × AV)} {k : Str} {x : AV} (hd : σ d = some (.sdict xs)) (hz : xs.length ≤ 1000000) (h : R μ (σ.set d (.sdict (putAt xs k x)))) : SetItem c (.ref d) (.str k) x μ σ R := fun a b v ha hb hv s F S => by
  cases av_ref ha
  obtain ⟨t, rfl⟩ := av_str hb
  obtain ⟨kv, hm, hk⟩ := F.sdict hd
  exact wpAny_setItem_pairs (sk _ _ k t) hm (fun h' hm' hs' => ⟨μ, _, F.sturn hd hs' hm' (kvs_put hk k hv), S, h⟩) (by rw [kvs_len hk, sizeLine_eq]; omega)
noncomputable def DelItem (c : Cx G) (o i : AV) (μ : Loc) (σ : Hp) (R : Loc → Hp → Prop) : Prop := ∀ a b, av a = some o → av b = some i → W c (delItem a b) μ σ fun _ => R
theorem D_idict {d : Addr} {xs : List (Int × AV)} {k : Int} (hd : σ d = some (.idict xs)) (hk : (keyAt xs k).isSome = true) (hz : xs.length ≤ 1000000) (h : R μ (σ.set d (.idict (dropAt xs k)))) : DelItem c (.ref d) (.int k) μ σ R := fun a b ha hb s F S => by
  cases av_ref ha
  obtain ⟨t, rfl⟩ := av_int hb
  obtain ⟨kv, hm, hv⟩ := F.idict hd
  have e : (valueAt kv k).isSome = (keyAt xs k).isSome := by simpa using congrArg Option.isSome (kvs_at hv k)
  refine wpAny_delItem_slot hm.typeIs (by decide) PySem.F.slot_dict_delitem (call_meetsIn PySem.F.slot_dict_delitem hm.typeIs PySem.F.entry_dict_delitem (PySem.F.args_dict_delitem_2 _ _) (meets_dict_delitem_pairs (knd := intKind G.prog G.w) (d := d) (hkey := ik _ _ k t)) ?_)
  exact ⟨kv, hm, by rw [kvs_len hv, sizeLine_eq]; omega, by rw [e, hk], fun h' hm' hs' => ⟨μ, _, F.iturn hd hs' hm' (kvs_drop hv k), S, h⟩⟩

/-! dict.get -/
theorem M_dict {d : Addr} {o : AObj} {name : Str} {id : String} {R : AV → List AV → Loc → Hp → Prop} (hd : σ d = some o) (ho : (∃ xs, o = .idict xs) ∨ ∃ xs, o = .sdict xs) (slot : Slot "dict" name id) (hty : typeOf (.builtin id) = pure (.type "method_descriptor"))
    (h : R (.bi id) [.ref d] μ σ) : MethOf c (.ref d) name μ σ R := fun v pl hv s F S => by
  cases av_ref hv
  have : ∃ ob, s.heap.get? d = some ob ∧ ob.cls = .type "dict" ∧ ob.dict = none := by
    rcases ho with ⟨xs, rfl⟩ | ⟨xs, rfl⟩
    · obtain ⟨o, kv, h1, ⟨es, ep, hx, _⟩, _⟩ := F.conc hd rfl (fun x => x); exact ⟨o, h1, hx.1, hx.2.1⟩
    · obtain ⟨o, kv, h1, ⟨es, ep, hx, _⟩, _⟩ := F.conc hd rfl (fun x => x); exact ⟨o, h1, hx.1, hx.2.1⟩
  obtain ⟨ob, h1, h2, h3⟩ := this
  exact getMethod_builtin ⟨_, h1, h2⟩ PySem.F.plainAttrs_dict slot hty (fun a z => by cases z; exact ⟨_, h1, h3⟩) ⟨μ, σ, F, S, _, _, rfl, rfl, h⟩
theorem C_get {d : Addr} {xs : List (Int × AV)} {k : Int} (hd : σ d = some (.idict xs)) (h : Q ((keyAt xs k).getD .none) μ σ) : Calls c (.bi "dict.get") [.ref d, .int k] μ σ Q := fun vf vs hv hx s F S => by
  cases av_bi hv
  obtain ⟨a, r, rfl, ha, hr⟩ := avs_cons hx
  obtain ⟨b, rfl, hb⟩ := avs1 hr
  cases av_ref ha
  obtain ⟨t, rfl⟩ := av_int hb
  obtain ⟨kv, hm, hk⟩ := F.idict hd
  refine call_meetsIn PySem.F.slot_dict_get hm.typeIs PySem.F.entry_dict_get (PySem.F.args_dict_get_2 _ _) (meets_dict_get (knd := intKind G.prog G.w) (d := d) (hkey := ik _ _ k t) (hd := F.lo hd rfl)) ⟨_, hm.mapOf, ?_⟩
  refine ⟨μ, σ, F, S, _, ?_, h⟩
  have := kvs_at hk k
  cases q : keyAt xs k with
  | none => rw [q] at this; cases q' : valueAt kv k with
    | none => rfl
    | some v => rw [q'] at this; cases this
  | some x => rw [q] at this; cases q' : valueAt kv k with
    | none => rw [q'] at this; cases this
    | some v => rw [q'] at this; exact Option.some.inj this

/-! statements on places -/
theorem W_release {M : Model} {A : Around} {E : Value → Shared → Prop} {s : Shared} {vs keep : List Value} {Q : Unit → Shared → Prop} (h : Q () s) : wpAny M A (release vs keep) Q E s := fun Γ p hΓ => by
  rw [Sem.wp_release]; exact h
theorem W_operate {M : Model} {A : Around} {E : Value → Shared → Prop} {s : Shared} {vs : List Value} {m : Sem Value} {Q : Value → Shared → Prop} (h : wpAny M A m Q E s) : wpAny M A (operate vs m) Q E s := fun Γ p hΓ => by
  rw [Sem.wp_operate]; exact h Γ p hΓ
theorem S_AssignSub {o i value : Expr} {ipos pos : Pos} (h : EV c (eval value env) μ σ fun x μ σ => EV c (eval o env) μ σ fun ov μ σ => EV c (eval i env) μ σ fun iv μ σ => SetItem c ov iv x μ σ (P .next))
    (hs : swapsWith value (some (.Subscript o i ipos)) pos.line env = pure false := by with_unfolding_all rfl) : SV c (exec (.Assign [.Subscript o i ipos] value pos) env) μ σ P := fun _ F S =>
  wpAny_Assign_Subscript (hs := hs) (h.run F S fun a x s₁ _ _ F₁ S₁ ha h₁ => h₁.run F₁ S₁ fun b y s₂ _ _ F₂ S₂ hb h₂ => h₂.run F₂ S₂ fun d z s₃ _ _ F₃ S₃ hd h₃ => W.run (h₃ b d a hb hd ha) F₃ S₃ fun _ s₄ μ₄ σ₄ F₄ S₄ h₄ => ⟨μ₄, σ₄, F₄, S₄, .next, rfl, h₄⟩)
theorem S_DelSub {o i : Expr} {ipos pos : Pos} (h : EV c (eval o env) μ σ fun ov μ σ => EV c (eval i env) μ σ fun iv μ σ => DelItem c ov iv μ σ (P .next)) : SV c (exec (.Delete [.Subscript o i ipos] pos) env) μ σ P := fun s F S => by
  show wpAny _ _ (do
    standAt pos
    (do
      (do
        let ov ← eval o env
        let iv ← holding [ov] (eval i env)
        standAt ipos
        holding [ov, iv] (delItem ov iv)
        release [ov, iv] [])
      pure ())
    pure Flow.next) _ _ _
  refine wpAny_bind (wpAny_standAt (wpAny_bind (wpAny_bind (wpAny_bind (h.run F S fun a x s₁ _ _ F₁ S₁ ha h₁ => wpAny_bind (wpAny_holding (h₁.run F₁ S₁ fun b y s₂ _ _ F₂ S₂ hb h₂ => wpAny_bind (wpAny_standAt (wpAny_bind (wpAny_holding (W.run (h₂ a b ha hb) F₂ S₂ fun _ s₃ μ₃ σ₃ F₃ S₃ h₃ => ?_)))))))))))
  exact W_release (wpAny_pure (wpAny_pure ⟨μ₃, σ₃, F₃, S₃, .next, rfl, h₃⟩))
theorem J_list {l : Addr} {xs : List AV} {k : Int} {x : AV} (hl : σ l = some (.list xs)) (h0 : 0 ≤ k) (hk : k < xs.length) (h : R μ (σ.set l (.list (xs.set k.toNat x)))) (hf : k < 2 ^ 63 := by omega) : SetItem c (.ref l) (.int k) x μ σ R := fun a b v ha hb hv s F S => by
  cases av_ref ha
  obtain ⟨t, rfl⟩ := av_int hb
  obtain ⟨us, n, e, hu⟩ := F.listAt hl
  have hlen := avs_len hu
  refine ki_setAt (items := us.toArray) (n := n) e h0 hf (by rw [List.size_toArray, hlen]; exact hk) ⟨μ, _, list_turn (vs' := us.set k.toNat v) F hl e ?_ ?_, S, h⟩
  · show us.toArray.setIfInBounds k.toNat v = (us.set k.toNat v).toArray
    apply Array.toList_inj.mp
    simp
  · unfold avs at *
    rw [List.map_set, hu, hv, List.map_set]
/-- o[i] op= e, at a written place -/
theorem S_AugSub {o i value : Expr} {op : Operator} {ipos pos : Pos} (h : EV c (eval o env) μ σ fun ov μ σ => EV c (eval i env) μ σ fun iv μ σ => GetItem c ov iv μ σ fun x μ σ => EV c (eval value env) μ σ fun y μ σ => Op c (inplaceOp op) x y μ σ fun z μ σ => SetItem c ov iv z μ σ (P .next))
    (he : exec (.AugAssign (.Subscript o i ipos) op value pos) env = (do
      standAt pos
      let ov ← eval o env
      let iv ← holding [ov] (eval i env)
      let new ← holding [ov, iv] do
        standAt ipos
        let old ← getItem ov iv
        let v ← holding [old] (eval value env)
        standAt pos
        operate [old, v] (inplaceOp op old v)
      standAt ipos
      holding [new, ov, iv] (setItem ov iv new)
      release [new, ov, iv] []
      pure .next) := by with_unfolding_all rfl) : SV c (exec (.AugAssign (.Subscript o i ipos) op value pos) env) μ σ P := fun s F S => by
  rw [he]
  refine wpAny_bind (wpAny_standAt (wpAny_bind (h.run F S fun a x s₁ _ _ F₁ S₁ ha h₁ => wpAny_bind (wpAny_holding (h₁.run F₁ S₁ fun b y s₂ _ _ F₂ S₂ hb h₂ => wpAny_bind (wpAny_holding (wpAny_bind (wpAny_standAt (wpAny_bind ?_)))))))))
  refine wpAny_mono (h₂ a b s₂ ha hb F₂ S₂).2 (fun d s₃ z => ?_) fun _ _ e => e
  obtain ⟨μ₃, σ₃, F₃, S₃, x₃, hd, h₃⟩ := z
  refine wpAny_bind (wpAny_holding (h₃.run F₃ S₃ fun e y₄ s₄ _ _ F₄ S₄ he' h₄ => wpAny_bind (wpAny_standAt (W_operate (EV.run (h₄ d e hd he') F₄ S₄ fun f z₅ s₅ _ _ F₅ S₅ hf h₅ => wpAny_bind (wpAny_standAt (wpAny_bind (wpAny_holding (W.run (h₅ a b f ha hb hf) F₅ S₅ fun _ s₆ μ₆ σ₆ F₆ S₆ h₆ => wpAny_bind (W_release (wpAny_pure ⟨μ₆, σ₆, F₆, S₆, .next, rfl, h₆⟩)))))))))))
end Mine
end

section
open PySem PySem.W PySem.Calls PyProof.Rows
namespace Mine
variable {G : Gx} {c : Cx G} {μ : Loc} {σ : Hp} {env : Env} {Q : AV → Loc → Hp → Prop} {P : AF → Loc → Hp → Prop} {R : Loc → Hp → Prop}

/-- the same frame over a larger base -/
noncomputable def Cx.rebase (c : Cx G) (b : Heap) (hb : c.base.StaysIn b) : Cx G := { c with base := b, b := c.b.keeps hb, b0s := fun x o e => hb x o (c.b0s x o e) }

/-- one object of the base is turned: a new base -/
theorem FRep.turnBase' {base b h h' : Heap} {L it : Addr} {x : Obj} (F : FRep G b L μ σ h) (st : base.StaysIn b) (e : b.get? it = some x) (eb : base.get? it = none) (hs : Heap.ExtBut it h h') :
    ∃ b', base.StaysIn b' ∧ FRep G b' L μ σ h' ∧ (∀ y o, y ≠ it → b.get? y = some o → b'.get? y = some o) ∧ b'.get? it = h'.get? it := by
  obtain ⟨k, off, ⟨m, hn, hm⟩, δ, Y, ap⟩ := F
  have hL : it ≠ L := fun z => by rw [z, off] at e; cases e
  have hout : ¬ Foot σ δ it := fun ⟨a, o, q, hb⟩ => by rw [Y.off a o it q hb] at e; cases e
  have kk : ∀ y o, y ≠ it → b.get? y = some o → (hideP h' fun y => Foot σ δ y ∨ y = L).get? y = some o := fun y o hy q' => by
    have : ¬ (Foot σ δ y ∨ y = L) := by
      rintro (⟨a, oa, w, hb⟩ | z)
      · rw [Y.off a oa y w hb] at q'; cases q'
      · rw [z, off] at q'; cases q'
    rw [hideP_out this]
    exact hs y o hy (k y o q')
  refine ⟨hideP h' fun y => Foot σ δ y ∨ y = L, fun y o q => kk y o (fun z => by rw [z, eb] at q; cases q) (st y o q), ⟨fun y o q => (of_hideP q).1, hideP_in (.inr rfl), ⟨m, hn.extBut hs (Ne.symm hL), hm⟩, δ,
    ⟨Y.lo, fun a o q => (Y.conc a o q).keeps G (fun _ => rfl) fun y z hy hz => hs y z (fun w => hout ⟨a, o, q, w ▸ hy⟩) hz, fun a o y q hy => hideP_in (.inl ⟨a, o, q, hy⟩), Y.apart, Y.inj⟩, ap⟩, kk, ?_⟩
  rw [hideP_out (by rintro (z | z); exact hout z; exact hL z)]
theorem FRep.turnBase {base b h h' : Heap} {L it : Addr} {x o' : Obj} (F : FRep G b L μ σ h) (st : base.StaysIn b) (e : b.get? it = some x) (eb : base.get? it = none) (hs : Heap.ExtBut it h h') (ho : h'.get? it = some o') :
    ∃ b', base.StaysIn b' ∧ FRep G b' L μ σ h' ∧ b'.get? it = some o' := by
  obtain ⟨b', a, d, _, f⟩ := F.turnBase' st e eb hs
  exact ⟨b', a, d, f.trans ho⟩
/-- a fresh object goes into the base -/
theorem FRep.newBase {s : Shared} {o' : Obj} (F : FRep G c.base c.L μ σ s.heap) (hf : o'.isFreed = false) :
    c.base.get? s.heap.objs.size = none ∧ ∃ b', c.base.StaysIn b' ∧ FRep G b' c.L μ σ (s.heap.push o') ∧ b'.get? s.heap.objs.size = some o' := by
  obtain ⟨e, eσ⟩ := F.fresh
  obtain ⟨k, off, ⟨m, hn, hm⟩, δ, Y, ap⟩ := F
  have eb : c.base.get? s.heap.objs.size = none := by
    cases q : c.base.get? s.heap.objs.size with
    | none => rfl
    | some o => rw [k _ _ q] at e; cases e
  have hL : s.heap.objs.size ≠ c.L := fun z => Nat.lt_irrefl _ (z ▸ hn.lt)
  have hout : ¬ Foot σ δ s.heap.objs.size := fun ⟨a, o, q, hb⟩ => by
    obtain ⟨y, hy⟩ := (Y.conc a o q).there G _ hb; rw [e] at hy; cases hy
  have hs : ∀ y o, s.heap.get? y = some o → (s.heap.push o').get? y = some o := fun y o q => Heap.get?_push_of_some _ q
  refine ⟨eb, hideP (s.heap.push o') fun y => Foot σ δ y ∨ y = c.L, fun y o q => ?_, ⟨fun y o q => (of_hideP q).1, hideP_in (.inr rfl), ⟨m, hn.push _, hm⟩, δ,
    ⟨Y.lo, fun a o q => (Y.conc a o q).keeps G (fun _ => rfl) fun y z hy hz => hs y z hz, fun a o y q hy => hideP_in (.inl ⟨a, o, q, hy⟩), Y.apart, Y.inj⟩, ap⟩, ?_⟩
  · have q' := k y o q
    have : ¬ (Foot σ δ y ∨ y = c.L) := by
      rintro (⟨a, oa, w, hb⟩ | z)
      · rw [Y.off a oa y w hb] at q; cases q
      · rw [z, off] at q; cases q
    rw [hideP_out this]
    exact hs y o q'
  · rw [hideP_out (by rintro (z | z); exact hout z; exact hL z)]; exact Heap.get?_push_size _ hf
theorem FRep.unbase {base b h : Heap} {L : Addr} (F : FRep G b L μ σ h) (st : base.StaysIn b) : FRep G base L μ σ h := by
  obtain ⟨k, off, lc, δ, Y, ap⟩ := F
  refine ⟨fun y o q => k y o (st y o q), ?_, lc, δ, ⟨Y.lo, Y.conc, fun a o y q hy => ?_, Y.apart, Y.inj⟩, ap⟩
  · cases q : base.get? L with
    | none => rfl
    | some y => rw [st _ _ q] at off; cases off
  · cases w : base.get? y with
    | none => rfl
    | some z => have := Y.off a o y q hy; rw [st _ _ w] at this; cases this

theorem FRep.dropBase {base b h h' : Heap} {L it : Addr} {x : Obj} (F : FRep G b L μ σ h) (st : base.StaysIn b) (e : b.get? it = some x) (eb : base.get? it = none) (hs : Heap.ExtBut it h h') : FRep G base L μ σ h' := by
  have F0 := F.unbase st
  obtain ⟨k, off, lc, δ, Y, ap⟩ := F
  have hL : it ≠ L := fun z => by rw [z, off] at e; cases e
  have hout : ¬ Foot σ δ it := fun ⟨a, o, q, hb⟩ => by rw [Y.off a o it q hb] at e; cases e
  obtain ⟨m, hn, hm⟩ := lc
  refine ⟨fun y o q => hs y o (fun z => by rw [z, eb] at q; cases q) (F0.keep y o q), F0.off, ⟨m, hn.extBut hs (Ne.symm hL), hm⟩, δ, ⟨Y.lo, fun a o q => (Y.conc a o q).keeps G (fun _ => rfl) fun y z hy hz => hs y z (fun w => hout ⟨a, o, q, w ▸ hy⟩) hz, fun a o y q hy => ?_, Y.apart, Y.inj⟩, ap⟩
  cases w : base.get? y with
  | none => rfl
  | some z => have := Y.off a o y q hy; rw [st _ _ w] at this; cases this

/-! for over a list -/
noncomputable def Asg (c : Cx G) (target : Expr) (env : Env) (x : AV) (μ : Loc) (σ : Hp) (R : Loc → Hp → Prop) : Prop := ∀ v, av v = some x → W c (assign target env v) μ σ fun _ => R
/-- the end of a turn -/
noncomputable def TurnP (I : Loc → Hp → Prop) (P : AF → Loc → Hp → Prop) : AF → Loc → Hp → Prop
  | .next, μ, σ => I μ σ
  | .cont, μ, σ => I μ σ
  | .brk, μ, σ => P .next μ σ
  | .ret v, μ, σ => P (.ret v) μ σ
/-- targets that the rules know -/
noncomputable def TgtOk (target : Expr) (x : AV) : Prop := (∃ n p, target = .Name n p) ∨ (∃ es k p a, target = .Tuple es k p ∧ x = .ref a)
theorem go_list {M : Model} {target : Expr} {x : AV} {v : Value} {it l : Addr} {i : Nat} {s : Shared} {A : Around} {E : Value → Shared → Prop} {Q : Unit → Shared → Prop} {prog : Program} {w : World} (ok : TgtOk target x) (hv : av v = some x) (hit : s.heap.IsListIter it l i) (h : Q () s) :
    wpAny (model prog w) A (letOwnedTupleGo target (.ref it) v) Q E s := by
  rcases ok with ⟨n, p, rfl⟩ | ⟨es, k, p, a, rfl, rfl⟩
  · exact wpAny_of_eq rfl h
  · cases av_ref hv; exact wpAny_letOwnedTupleGo_listiter hit h

theorem S_ForList {target iter : Expr} {body : List Stmt} {pos : Pos}
    (h : EV c (eval iter env) μ σ fun v μ σ => ∃ l xs, ∃ I : List AV → Loc → Hp → Prop, v = .ref l ∧ I xs μ σ ∧ (∀ r μ σ, I r μ σ → σ l = some (.list xs)) ∧
      (∀ b hb x r μ σ, I (x :: r) μ σ → TgtOk target x ∧ Asg (c.rebase b hb) target env x μ σ fun μ σ => SV (c.rebase b hb) (execs body env) μ σ (TurnP (I r) P)) ∧ ∀ μ σ, I [] μ σ → P .next μ σ)
    (hs : ∀ x, foldedSetIterable iter env x = pure x := by intro _; rfl) : SV c (exec (.For target iter body [] pos) env) μ σ P := fun s F S => by
  refine wpAny_For (h.run F S fun a x s₁ μ₁ σ₁ F₁ S₁ ha h₁ => ?_) hs
  obtain ⟨l, xs, I, rfl, hI, hl, turn, done⟩ := h₁
  cases av_ref ha
  obtain ⟨us, n, e, hu⟩ := F₁.listAt (hl _ _ _ hI)
  refine wpAny_pyIter_list (items := us.toArray) ⟨_, e, rfl, n, rfl⟩ ?_
  obtain ⟨eb, b, st, F₂, ei⟩ := F₁.newBase (o' := { cls := .type "list_iterator", data := .fields #[.ref l, .int 0 0] }) rfl
  refine codeAny_forLoop_any (fun k s' => ∃ i μ σ b, k = xs.length - i ∧ i ≤ xs.length ∧ I (xs.drop i) μ σ ∧ c.base.StaysIn b ∧ FRep G b c.L μ σ s'.heap ∧ Still G s' ∧ b.IsListIter s₁.heap.objs.size l i) ?_ xs.length
    ⟨0, μ₁, σ₁, b, rfl, Nat.zero_le _, hI, st, F₂, S₁, ⟨_, ei, rfl, rfl⟩⟩
  rintro k s' ⟨i, μ', σ', b, rfl, hi, hI', st', F', S', hit⟩
  have hit' : s'.heap.IsListIter s₁.heap.objs.size l i := let ⟨o, ho, r⟩ := hit; ⟨o, F'.keep _ _ ho, r⟩
  have hll : ∃ vs n, s'.heap.get? l = some (listO vs n) ∧ avs vs xs := (F'.unbase st').listAt (hl _ _ _ hI')
  obtain ⟨vs, n', e', hv'⟩ := hll
  have hL' : s'.heap.IsList l vs.toArray := ⟨_, e', rfl, n', rfl⟩
  obtain ⟨oi, hoi, hoi2⟩ := hit
  rcases Nat.lt_or_ge i xs.length with q | q
  · obtain ⟨v, hv, hav⟩ := avs_get hv' (k := i) (x := xs[i]) (List.getElem?_eq_getElem q)
    refine wpAny_pyNext_list_item hit' hL' (x := v) (by simpa using hv) fun h' hit2 hs' => ?_
    obtain ⟨o2, ho2, ho2'⟩ := id hit2
    obtain ⟨b2, st2, F2, eb2⟩ := F'.turnBase st' hoi eb hs'.extBut ho2
    have hd : xs.drop i = xs[i] :: xs.drop (i + 1) := List.drop_eq_getElem_cons q
    rw [hd] at hI'
    obtain ⟨ok, asg⟩ := turn b2 st2 _ _ _ _ hI'
    refine go_list (s := { s' with heap := h' }) (M := G.M) ok hav hit2 ?_
    refine wpAny_mono (W.run (c := c.rebase b2 st2) (asg v hav) F2 S' fun _ s₃ μ₃ σ₃ F₃ S₃ h₃ => ?_) (fun _ _ z => z) (fun _ _ z => z.elim)
    refine wpAny_mono (W.run (c := c.rebase b2 st2) h₃ F₃ S₃ fun fl s₄ μ₄ σ₄ F₄ S₄ h₄ => ?_) (fun _ _ z => z) (fun _ _ z => z.elim)
    obtain ⟨y, ey, hy⟩ := h₄
    have again : I (xs.drop (i + 1)) μ₄ σ₄ → ∃ m, m < xs.length - i ∧ ∃ i μ σ b, m = xs.length - i ∧ i ≤ xs.length ∧ I (xs.drop i) μ σ ∧ c.base.StaysIn b ∧ FRep G b c.L μ σ s₄.heap ∧ Still G s₄ ∧ b.IsListIter s₁.heap.objs.size l i := fun z =>
      ⟨xs.length - (i + 1), by omega, i + 1, μ₄, σ₄, b2, rfl, q, z, st2, F₄, S₄, ⟨o2, eb2, ho2'⟩⟩
    have F₄' : FRep G c.base c.L μ₄ σ₄ s₄.heap := FRep.unbase F₄ st2
    cases fl with
    | next => cases ey; exact again hy
    | cont => cases ey; exact again hy
    | brk => cases ey; exact ⟨μ₄, σ₄, F₄', S₄, .next, rfl, hy⟩
    | ret u =>
      have e' : (av u).map AF.ret = some y := ey
      cases hu' : av u with
      | none => rw [hu'] at e'; cases e'
      | some z => rw [hu'] at e'; cases e'; exact ⟨μ₄, σ₄, F₄', S₄, .ret z, ey, hy⟩
  · have hi' : i = xs.length := by omega
    rw [List.drop_of_length_le (by omega)] at hI'
    refine wpAny_pyNext_list_end c.ok.hd hit' hL' (by simp [avs_len hv']; omega) fun h' hs' => ?_
    refine wpAny_execs_nil ?_
    exact ⟨μ', σ', F'.dropBase st' hoi eb hs', S', .next, rfl, done _ _ hI'⟩
/-! for over a range -/
theorem C_range {n : Int} (h : ∀ a, σ a = none → Q (.ref a) μ (σ.set a (.rng n))) : Calls c (.ty "range") [.int n] μ σ Q := fun vf vs hv hx s F S => by
  cases av_ty hv
  obtain ⟨a, rfl, ha⟩ := avs1 hx
  obtain ⟨t, rfl⟩ := av_int ha
  exact call_range_1 ⟨μ, _, F.newObj (o := .rng n) rfl rfl (fun h' δ e => ⟨_, _, _, e⟩), S, _, rfl, h _ F.fresh.2⟩
theorem S_ForRange {target iter : Expr} {body : List Stmt} {pos : Pos}
    (h : EV c (eval iter env) μ σ fun v μ σ => ∃ r n, ∃ I : Int → Loc → Hp → Prop, v = .ref r ∧ σ r = some (.rng n) ∧ 0 ≤ n ∧ n < 2 ^ 60 ∧ I 0 μ σ ∧
      (∀ b hb i μ σ, 0 ≤ i → i < n → I i μ σ → (∃ x p, target = .Name x p) ∧ Asg (c.rebase b hb) target env (.int i) μ σ fun μ σ => SV (c.rebase b hb) (execs body env) μ σ (TurnP (I (i + 1)) P)) ∧ ∀ μ σ, I n μ σ → P .next μ σ)
    (hs : ∀ x, foldedSetIterable iter env x = pure x := by intro _; rfl) : SV c (exec (.For target iter body [] pos) env) μ σ P := fun s F S => by
  refine wpAny_For (h.run F S fun a x s₁ μ₁ σ₁ F₁ S₁ ha h₁ => ?_) hs
  obtain ⟨r, n, I, rfl, hr, hn0, hn1, hI, turn, done⟩ := h₁
  cases av_ref ha
  obtain ⟨t, u, v, e⟩ := F₁.conc hr rfl id
  have hsz : Builtin.Range.rangeSize 0 n 1 = n := by rw [rangeSize_one]; split <;> omega
  refine wpAny_pyIter_range (a := 0) (b := n) (c := 1) e (small_one (by decide) (by decide) (by omega) (by omega)) ?_
  rw [hsz]
  obtain ⟨eb, b, st, F₂, ei⟩ := F₁.newBase (o' := { cls := .type "range_iterator", data := .fields #[rawInt 0, rawInt n, rawInt 1] }) rfl
  refine codeAny_forLoop_any (fun k s' => ∃ i μ σ b, k = (n - i).toNat ∧ 0 ≤ i ∧ i ≤ n ∧ I i μ σ ∧ c.base.StaysIn b ∧ FRep G b c.L μ σ s'.heap ∧ Still G s' ∧ IsRangeIter b s₁.heap.objs.size i (n - i) 1) ?_ n.toNat
    ⟨0, μ₁, σ₁, b, by simp, Int.le_refl _, hn0, hI, st, F₂, S₁, by simpa using ei⟩
  rintro k s' ⟨i, μ', σ', b, rfl, hi0, hi, hI', st', F', S', hit⟩
  have hit' : IsRangeIter s'.heap s₁.heap.objs.size i (n - i) 1 := F'.keep _ _ hit
  rcases Int.lt_or_le i n with q | q
  · refine wpAny_pyNext_range_item hit' (by omega) fun h' hit2 hs' => ?_
    obtain ⟨b2, st2, F2, eb2⟩ := F'.turnBase st' hit eb hs'.extBut hit2
    obtain ⟨⟨x, p, rfl⟩, asg⟩ := turn b2 st2 i _ _ hi0 q hI'
    refine wpAny_of_eq rfl ?_
    refine wpAny_mono (W.run (c := c.rebase b2 st2) (asg (.int i s'.toks) rfl) F2 S' fun _ s₃ μ₃ σ₃ F₃ S₃ h₃ => ?_) (fun _ _ z => z) (fun _ _ z => z.elim)
    refine wpAny_mono (W.run (c := c.rebase b2 st2) h₃ F₃ S₃ fun fl s₄ μ₄ σ₄ F₄ S₄ h₄ => ?_) (fun _ _ z => z) (fun _ _ z => z.elim)
    obtain ⟨y, ey, hy⟩ := h₄
    have again : I (i + 1) μ₄ σ₄ → ∃ m, m < (n - i).toNat ∧ ∃ i μ σ b, m = (n - i).toNat ∧ 0 ≤ i ∧ i ≤ n ∧ I i μ σ ∧ c.base.StaysIn b ∧ FRep G b c.L μ σ s₄.heap ∧ Still G s₄ ∧ IsRangeIter b s₁.heap.objs.size i (n - i) 1 := fun z =>
      ⟨(n - (i + 1)).toNat, by omega, i + 1, μ₄, σ₄, b2, rfl, by omega, q, z, st2, F₄, S₄, by rw [show n - (i + 1) = n - i - 1 by omega]; exact eb2⟩
    have F₄' : FRep G c.base c.L μ₄ σ₄ s₄.heap := FRep.unbase F₄ st2
    cases fl with
    | next => cases ey; exact again hy
    | cont => cases ey; exact again hy
    | brk => cases ey; exact ⟨μ₄, σ₄, F₄', S₄, .next, rfl, hy⟩
    | ret u =>
      have e' : (av u).map AF.ret = some y := ey
      cases hu' : av u with
      | none => rw [hu'] at e'; cases e'
      | some z => rw [hu'] at e'; cases e'; exact ⟨μ₄, σ₄, F₄', S₄, .ret z, ey, hy⟩
  · have hi' : i = n := by omega
    subst hi'
    refine wpAny_pyNext_range_end c.ok.hd hit' (by omega) fun h' hs' => ?_
    refine wpAny_execs_nil ?_
    exact ⟨μ', σ', F'.dropBase st' hit eb hs', S', .next, rfl, done _ _ hI'⟩

end Mine
end

section
open PySem PySem.W PySem.Calls PyProof.Rows
namespace Mine
variable {G : Gx} {c : Cx G} {μ : Loc} {σ : Hp} {env : Env} {Q : AV → Loc → Hp → Prop} {P : AF → Loc → Hp → Prop} {R : Loc → Hp → Prop}

noncomputable def cenvX (env : Env) (sc : Scope) (cl : List (Str × Addr)) (L : Addr) : Env := { scope := sc, locals := L, globals := env.globals, cells := cl, qual := env.qual, func := none, code := env.code, frame := env.frame, builtins := env.builtins }
/-- the tests of a comprehension -/
noncomputable def Tests (c : Cx G) (ifs : List Expr) (env : Env) (μ : Loc) (σ : Hp) (R : Bool → Loc → Hp → Prop) : Prop := match ifs with
  | [] => R true μ σ
  | [t] => TV c t env μ σ R
  | _ => False
theorem Tests.run {ifs : List Expr} {R : Bool → Loc → Hp → Prop} (h : Tests c ifs env μ σ R) : W c (forIn ifs true fun c r => if r = true then do let ok ← isTrue c env (eval c env); pure (ForInStep.yield ok) else pure (ForInStep.yield r)) μ σ R := fun s F S => by
  match ifs, h with
  | [], h => exact wpAny_pure ⟨μ, σ, F, S, h⟩
  | [t], h =>
    simp only [List.forIn_cons, List.forIn_nil, if_true]
    refine wpAny_bind (wpAny_bind (W.run h F S fun ok s₁ μ₁ σ₁ F₁ S₁ h₁ => wpAny_pure ?_))
    exact wpAny_pure ⟨μ₁, σ₁, F₁, S₁, h₁⟩

section
variable {prog : Program} {w : World} {A : Around} {s : Shared} {R : Result → Shared → Prop}
theorem comp_loop {elt target iter : Expr} {ifs : List Expr} {scope : Scope} {pos : Pos} {it acc : Value} (I : Nat → Shared → Prop)
    (turn : ∀ n s, I n s → wpAny (model prog w) A (pyNext it) (fun r s₁ => match r with
      | none => R (.ok .next) s₁
      | some v => wpAny (model prog w) A (letOwnedTupleGo target it v) (fun _ s₁' => wpAny (model prog w) A (assign target env v) (fun _ s₂ =>
          wpAny (model prog w) A (forIn ifs true fun c r => if r = true then do let ok ← isTrue c env (eval c env); pure (ForInStep.yield ok) else pure (ForInStep.yield r)) (fun ok s₃ =>
            if ok = true then wpAny (model prog w) A (eval elt env) (fun x s₄ => wpAny (model prog w) A (call (.builtin "list.append") [acc, x]) (fun _ s₅ => ∃ m, m < n ∧ I m s₅) (fun _ _ => False) s₄) (fun _ _ => False) s₃
            else ∃ m, m < n ∧ I m s₃) (fun _ _ => False) s₂) (fun _ _ => False) s₁') (fun _ _ => False) s₁) (fun _ _ => False) s)
    (n : Nat) (h : I n s) : codeAny (model prog w) A (.compLoop (.ListComp elt [⟨target, iter, ifs, 0⟩] scope pos) 0 it acc env) R s := by
  refine codeAny_loop rfl I (fun n s hI => ?_) n h
  show wpAny _ A ((compTurn (.ListComp elt [⟨target, iter, ifs, 0⟩] scope pos) 0 it acc env).onRaise (fun x => do noteFrame x env; theTreesLotGoes x)) _ _ s
  refine wpAny_noted (wpAny_mono (Q := _) (E := fun _ _ => False) ?_ (fun _ _ z => z) fun _ _ z => z.elim)
  rw [compTurn_list]
  refine wpAny_bind (wpAny_standAt (wpAny_bind (wpAny_mono (turn n s hI) (fun r s₁ h₁ => ?_) fun _ _ z => z)))
  cases r with
  | none => exact wpAny_pure h₁
  | some v =>
    refine wpAny_bind (wpAny_mono h₁ (fun _ s₁' h₁' => wpAny_bind (wpAny_mono h₁' (fun _ s₂ h₂ => ?_) fun _ _ z => z)) fun _ _ z => z)
    refine wpAny_bind (wpAny_mono h₂ (fun ok s₃ h₃ => ?_) fun _ _ z => z)
    cases ok with
    | false => exact wpAny_pure ⟨rfl, h₃⟩
    | true => exact wpAny_bind (wpAny_bind (wpAny_mono h₃ (fun x s₄ h₄ => wpAny_bind (wpAny_mono h₄ (fun _ s₅ h₅ => wpAny_pure (wpAny_pure ⟨rfl, h₅⟩)) fun _ _ z => z)) fun _ _ z => z))
end

/-- what a comprehension's turns keep -/
noncomputable def CompTurn (c : Cx G) (elt target : Expr) (ifs : List Expr) (sc : Scope) (cl : List (Str × Addr)) (env : Env) (xs : List AV) (I : List AV → List AV → Hp → Prop) : Prop :=
  ∀ (c' : Cx G), c'.n = c.n → c.base.StaysIn c'.base → ∀ x r acc μ σ, acc.length < xs.length → I (x :: r) acc σ → TgtOk target x ∧ Asg c' target (cenvX env sc cl c'.L) x μ σ fun μ σ => Tests c' ifs (cenvX env sc cl c'.L) μ σ fun ok μ σ =>
    if ok then EV c' (eval elt (cenvX env sc cl c'.L)) μ σ fun y _ σ => I r (acc ++ [y]) σ else I r acc σ

theorem comp_core {elt target iter : Expr} {ifs : List Expr} {scope sc : Scope} {cl : List (Str × Addr)} {pos : Pos} {l it D C : Addr} {xs : List AV} {b b1 : Heap} {s₄ : Shared} {I : List AV → List AV → Hp → Prop}
    (hb1 : BaseOk G b1) (hcb : c.base.StaysIn b1) (sz : b1.objs.size ≤ C) (F : FRep G b C μ σ s₄.heap) (S : Still G s₄) (st : b1.StaysIn b) (hit : b.get? it = some { cls := .type "list_iterator", data := .fields #[.ref l, .int 0 0] }) (hitb : b1.get? it = none) (hD : b.get? D = some (listO [] 0)) (hDb : b1.get? D = none) (hne : it ≠ D)
    (hI : I xs [] σ) (hl : ∀ r acc σ, I r acc σ → σ l = some (.list xs)) (hz : xs.length ≤ 1000000) (turn : CompTurn c elt target ifs sc cl env xs I) :
    codeAny G.M c.A (.compLoop (.ListComp elt [⟨target, iter, ifs, 0⟩] scope pos) 0 (.ref it) (.ref D) (cenvX env sc cl C)) (fun r s' => r = .ok .next ∧ ∃ acc μ' σ' b vs m, I [] acc σ' ∧ b1.StaysIn b ∧ FRep G b C μ' σ' s'.heap ∧ Still G s' ∧ b.get? D = some (listO vs m) ∧ avs vs acc ∧ acc.length ≤ xs.length) s₄ := by
  refine comp_loop (fun k s' => ∃ i acc μ σ b vs m oi, k = xs.length - i ∧ i ≤ xs.length ∧ acc.length ≤ i ∧ I (xs.drop i) acc σ ∧ b1.StaysIn b ∧ FRep G b C μ σ s'.heap ∧ Still G s' ∧
      b.get? it = some oi ∧ oi.cls = .type "list_iterator" ∧ oi.data = .fields #[.ref l, .int i 0] ∧ b.get? D = some (listO vs m) ∧ avs vs acc) ?_ xs.length
    ⟨0, [], μ, σ, b, [], 0, _, rfl, Nat.zero_le _, Nat.zero_le _, hI, st, F, S, hit, rfl, rfl, hD, rfl⟩
  rintro k s' ⟨i, acc, μ', σ', b, vs, m, oi, rfl, hi, hacc, hI', st', F', S', hoi, hoi1, hoi2, hD', hvs⟩
  have hit' : s'.heap.IsListIter it l i := ⟨oi, F'.keep _ _ hoi, hoi1, hoi2⟩
  have hll : ∃ vs n, s'.heap.get? l = some (listO vs n) ∧ avs vs xs := F'.conc (hl _ _ _ hI') rfl (fun x => x)
  obtain ⟨us, n', e', hu⟩ := hll
  have hL' : s'.heap.IsList l us.toArray := ⟨_, e', rfl, n', rfl⟩
  rcases Nat.lt_or_ge i xs.length with q | q
  · obtain ⟨v, hv, hav⟩ := avs_get hu (k := i) (x := xs[i]) (List.getElem?_eq_getElem q)
    refine wpAny_pyNext_list_item hit' hL' (x := v) (by simpa using hv) fun h' hit2 hs' => ?_
    obtain ⟨o2, ho2, ho2a, ho2b⟩ := id hit2
    -- the base behind the step
    obtain ⟨b2, st2, F2, kb2, eb2⟩ := F'.turnBase' st' hoi hitb hs'.extBut
    rw [ho2] at eb2
    have hD2 : b2.get? D = some (listO vs m) := kb2 _ _ (Ne.symm hne) hD'
    have hd : xs.drop i = xs[i] :: xs.drop (i + 1) := List.drop_eq_getElem_cons q
    rw [hd] at hI'
    let c' : Cx G := ⟨c.A, b2, C, c.n, c.ok, hb1.keeps st2, b1, hb1, sz, st2⟩
    obtain ⟨ok, asg⟩ := turn c' rfl (fun y o q => st2 y o (hcb y o q)) _ _ _ μ' _ (by omega) hI'
    refine go_list (s := { s' with heap := h' }) (M := G.M) ok hav hit2 ?_
    refine W.run (c := c') (asg v hav) F2 S' fun _ s₃ μ₃ σ₃ F₃ S₃ h₃ => ?_
    refine W.run (c := c') (Tests.run h₃) F₃ S₃ fun ok s₄ μ₄ σ₄ F₄ S₄ h₄ => ?_
    cases ok with
    | false => exact ⟨xs.length - (i + 1), by omega, i + 1, acc, μ₄, σ₄, b2, vs, m, o2, rfl, q, by omega, h₄, st2, F₄, S₄, eb2, ho2a, ho2b, hD2, hvs⟩
    | true =>
      refine EV.run (c := c') h₄ F₄ S₄ fun y yy s₅ μ₅ σ₅ F₅ S₅ hy h₅ => ?_
      have hDs : s₅.heap.get? D = some (listO vs m) := F₅.keep _ _ hD2
      refine append_at (n := m) hDs (fun h6 hs6 he6 => ?_) (by rw [List.size_toArray, avs_len hvs, sizeLine_eq]; omega)
      have he6' : h6.get? D = some (listO (vs ++ [y]) (m + 1)) := by rw [he6]; simp [listO]
      obtain ⟨b3, st3, F3, kb3, eb3⟩ := FRep.turnBase' F₅ st2 hD2 hDb hs6.extBut
      rw [he6'] at eb3
      have hit3 : b3.get? it = some o2 := kb3 _ _ hne eb2
      exact ⟨xs.length - (i + 1), by omega, i + 1, acc ++ [yy], μ₅, σ₅, b3, vs ++ [y], m + 1, o2, rfl, q, by simp; omega, h₅, st3, F3, S₅, hit3, ho2a, ho2b, eb3, by simp [avs, hvs, hy]⟩
  · rw [List.drop_of_length_le q] at hI'
    refine wpAny_pyNext_list_end c.ok.hd hit' hL' (by simp [avs_len hu]; omega) fun h' hs' => ?_
    obtain ⟨b2, st2, F2, kb2, _⟩ := F'.turnBase' st' hoi hitb hs'
    exact ⟨rfl, acc, μ', σ', b2, vs, m, hI', st2, F2, S', kb2 _ _ (Ne.symm hne) hD', hvs, by omega⟩

/-- what a comprehension's turns keep, over a range -/
noncomputable def CompTurnR (c : Cx G) (elt target : Expr) (ifs : List Expr) (sc : Scope) (cl : List (Str × Addr)) (env : Env) (n : Int) (I : Int → List AV → Hp → Prop) : Prop :=
  ∀ (c' : Cx G), c'.n = c.n → c.base.StaysIn c'.base → ∀ i acc μ σ, 0 ≤ i → i < n → (acc.length : Int) ≤ i → I i acc σ → (∃ x p, target = .Name x p) ∧ Asg c' target (cenvX env sc cl c'.L) (.int i) μ σ fun μ σ => Tests c' ifs (cenvX env sc cl c'.L) μ σ fun ok μ σ =>
    if ok then EV c' (eval elt (cenvX env sc cl c'.L)) μ σ fun y _ σ => I (i + 1) (acc ++ [y]) σ else I (i + 1) acc σ

theorem comp_coreR {elt target iter : Expr} {ifs : List Expr} {scope sc : Scope} {cl : List (Str × Addr)} {pos : Pos} {it D C : Addr} {n : Int} {b b1 : Heap} {s₄ : Shared} {I : Int → List AV → Hp → Prop}
    (hb1 : BaseOk G b1) (hcb : c.base.StaysIn b1) (sz : b1.objs.size ≤ C) (F : FRep G b C μ σ s₄.heap) (S : Still G s₄) (st : b1.StaysIn b) (hit : IsRangeIter b it 0 n 1) (hitb : b1.get? it = none) (hD : b.get? D = some (listO [] 0)) (hDb : b1.get? D = none) (hne : it ≠ D)
    (hI : I 0 [] σ) (hn0 : 0 ≤ n) (hz : n ≤ 1000000) (turn : CompTurnR c elt target ifs sc cl env n I) :
    codeAny G.M c.A (.compLoop (.ListComp elt [⟨target, iter, ifs, 0⟩] scope pos) 0 (.ref it) (.ref D) (cenvX env sc cl C)) (fun r s' => r = .ok .next ∧ ∃ acc μ' σ' b vs m, I n acc σ' ∧ b1.StaysIn b ∧ FRep G b C μ' σ' s'.heap ∧ Still G s' ∧ b.get? D = some (listO vs m) ∧ avs vs acc) s₄ := by
  refine comp_loop (fun k s' => ∃ i acc μ σ b vs m, k = (n - i).toNat ∧ 0 ≤ i ∧ i ≤ n ∧ (acc.length : Int) ≤ i ∧ I i acc σ ∧ b1.StaysIn b ∧ FRep G b C μ σ s'.heap ∧ Still G s' ∧
      IsRangeIter b it i (n - i) 1 ∧ b.get? D = some (listO vs m) ∧ avs vs acc) ?_ n.toNat
    ⟨0, [], μ, σ, b, [], 0, by simp, Int.le_refl _, hn0, Int.le_refl _, hI, st, F, S, by simpa using hit, hD, rfl⟩
  rintro k s' ⟨i, acc, μ', σ', b, vs, m, rfl, hi0, hi, hacc, hI', st', F', S', hoi, hD', hvs⟩
  have hit' : IsRangeIter s'.heap it i (n - i) 1 := F'.keep _ _ hoi
  rcases Int.lt_or_le i n with q | q
  · refine wpAny_pyNext_range_item hit' (by omega) fun h' hit2 hs' => ?_
    obtain ⟨b2, st2, F2, kb2, eb2⟩ := F'.turnBase' st' hoi hitb hs'.extBut
    rw [hit2] at eb2
    have hD2 : b2.get? D = some (listO vs m) := kb2 _ _ (Ne.symm hne) hD'
    let c' : Cx G := ⟨c.A, b2, C, c.n, c.ok, hb1.keeps st2, b1, hb1, sz, st2⟩
    obtain ⟨⟨x, p, rfl⟩, asg⟩ := turn c' rfl (fun y o q => st2 y o (hcb y o q)) i _ μ' _ hi0 q hacc hI'
    refine wpAny_of_eq rfl ?_
    refine W.run (c := c') (asg (.int i s'.toks) rfl) F2 S' fun _ s₃ μ₃ σ₃ F₃ S₃ h₃ => ?_
    refine W.run (c := c') (Tests.run h₃) F₃ S₃ fun ok s₄ μ₄ σ₄ F₄ S₄ h₄ => ?_
    have eb3 : IsRangeIter b2 it (i + 1) (n - (i + 1)) 1 := by rw [show n - (i + 1) = n - i - 1 by omega]; exact eb2
    cases ok with
    | false => exact ⟨(n - (i + 1)).toNat, by omega, i + 1, acc, μ₄, σ₄, b2, vs, m, rfl, by omega, q, by omega, h₄, st2, F₄, S₄, eb3, hD2, hvs⟩
    | true =>
      refine EV.run (c := c') h₄ F₄ S₄ fun y yy s₅ μ₅ σ₅ F₅ S₅ hy h₅ => ?_
      have hDs : s₅.heap.get? D = some (listO vs m) := F₅.keep _ _ hD2
      refine append_at (n := m) hDs (fun h6 hs6 he6 => ?_) (by rw [List.size_toArray, avs_len hvs, sizeLine_eq]; omega)
      have he6' : h6.get? D = some (listO (vs ++ [y]) (m + 1)) := by rw [he6]; simp [listO]
      obtain ⟨b3, st3, F3, kb3, eb4⟩ := FRep.turnBase' F₅ st2 hD2 hDb hs6.extBut
      rw [he6'] at eb4
      exact ⟨(n - (i + 1)).toNat, by omega, i + 1, acc ++ [yy], μ₅, σ₅, b3, vs ++ [y], m + 1, rfl, by omega, q, by simp; omega, h₅, st3, F3, S₅, kb3 _ _ hne eb3, eb4, by simp [avs, hvs, hy]⟩
  · have hi' : i = n := by omega
    subst hi'
    refine wpAny_pyNext_range_end c.ok.hd hit' (by omega) fun h' hs' => ?_
    obtain ⟨b2, st2, F2, kb2, _⟩ := F'.turnBase' st' hoi hitb hs'
    exact ⟨rfl, acc, μ', σ', b2, vs, m, hI', st2, F2, S', kb2 _ _ (Ne.symm hne) hD', hvs⟩

/-- a list out of the base -/
theorem FRep.ofBase {base b h : Heap} {L D : Addr} {vs : List Value} {xs : List AV} {m : Nat} (F : FRep G b L μ σ h) (st : base.StaysIn b) (hD : b.get? D = some (listO vs m)) (hDb : base.get? D = none) (hv : avs vs xs) :
    σ D = none ∧ FRep G base L μ (σ.set D (.list xs)) h := by
  have F0 := F.unbase st
  obtain ⟨k, off, lc, δ, Y, ap⟩ := F
  have hL : D ≠ L := fun z => by rw [z, off] at hD; cases hD
  have hout : ¬ Foot σ δ D := fun ⟨a, o, q, hb⟩ => by rw [Y.off a o D q hb] at hD; cases hD
  have eσ : σ D = none := by
    cases q : σ D with
    | none => rfl
    | some o => exact absurd ⟨D, o, q, .inl rfl⟩ hout
  refine ⟨eσ, F0.keep, F0.off, F0.loc, δ, ⟨fun a o q ni => ?_, fun a o q => ?_, fun a o y q hy => ?_, fun a o q i => ?_, fun a a' o o' q q' i i' r => ?_⟩, fun a o q hb => ?_⟩
  · by_cases z : a = D
    · subst z; rw [Hp.set_self] at q; cases q; cases ni
    · rw [Hp.set_ne z] at q; exact Y.lo _ _ q ni
  · by_cases z : a = D
    · subst z; rw [Hp.set_self] at q; cases q; exact ⟨vs, m, k _ _ hD, hv⟩
    · rw [Hp.set_ne z] at q; exact Y.conc _ _ q
  · by_cases z : a = D
    · subst z; rw [Hp.set_self] at q; cases q
      rcases hy with rfl | ⟨w, _⟩
      · exact hDb
      · cases w
    · rw [Hp.set_ne z] at q
      cases w : base.get? y with
      | none => rfl
      | some x => have := Y.off a o y q hy; rw [st _ _ w] at this; cases this
  · by_cases z : a = D
    · subst z; rw [Hp.set_self] at q; cases q; cases i
    · rw [Hp.set_ne z] at q
      have : δ a ≠ D := fun w => hout ⟨a, o, q, .inr ⟨i, w.symm⟩⟩
      rw [Hp.set_ne this]; exact Y.apart _ _ q i
  · have g : ∀ a o, (σ.set D (.list xs)) a = some o → o.isInst = true → σ a = some o := fun a o q i => by
      by_cases z : a = D
      · subst z; rw [Hp.set_self] at q; cases q; cases i
      · rwa [Hp.set_ne z] at q
    exact Y.inj a a' o o' (g _ _ q i) (g _ _ q' i') i i' r
  · by_cases z : a = D
    · subst z; rw [Hp.set_self] at q; cases q
      rcases hb with w | ⟨w, _⟩
      · exact hL w.symm
      · cases w
    · rw [Hp.set_ne z] at q; exact ap _ _ q hb

/-- a frame's dict beside the abstract heap -/
theorem Rep.frame {b1 h h₄ : Heap} {C : Addr} {m : Str → Option Value} (R : Rep G b1 σ h) (k : ∀ y o, h.get? y = some o → h₄.get? y = some o) (hn : h₄.Ns C m) (hm : ∀ x, (m x).map av = (μ.lookup x).map some) (hC : h.get? C = none) :
    ∃ b, b1.StaysIn b ∧ FRep G b C μ σ h₄ ∧ ∀ y, h.get? y = none → y ≠ C → b.get? y = h₄.get? y := by
  obtain ⟨kk, δ, Y⟩ := R
  have ft : ∀ y, Foot σ δ y → ∃ o, h.get? y = some o := fun y ⟨a, o, q, hb⟩ => (Y.conc a o q).there G y hb
  have hCf : ¬ Foot σ δ C := fun z => by obtain ⟨o, e⟩ := ft C z; rw [hC] at e; cases e
  refine ⟨hideP h₄ fun y => Foot σ δ y ∨ y = C, fun y o q => ?_, ⟨fun y o q => (of_hideP q).1, hideP_in (.inr rfl), ⟨m, hn, hm⟩, δ, ⟨Y.lo, fun a o q => (Y.conc a o q).keeps G (fun _ => rfl) fun y z _ hz => k y z hz, fun a o y q hy => hideP_in (.inl ⟨a, o, q, hy⟩), Y.apart, Y.inj⟩, fun a o q hb => hCf ⟨a, o, q, hb⟩⟩, fun y hy hyC => hideP_out ?_⟩
  · have : ¬ (Foot σ δ y ∨ y = C) := by
      rintro (⟨a, oa, w, hb⟩ | rfl)
      · rw [Y.off a oa y w hb] at q; cases q
      · rw [kk _ _ q] at hC; cases hC
    rw [hideP_out this]; exact k _ _ (kk y o q)
  · rintro (z | z)
    · obtain ⟨o, e⟩ := ft y z; rw [hy] at e; cases e
    · exact hyC z
theorem FRep.exit {b1 h h' : Heap} {C : Addr} (F : FRep G b1 C μ σ h) (hs : Heap.SameBut C h h') : Rep G b1 σ h' := by
  obtain ⟨k, off, lc, δ, Y, ap⟩ := F
  exact ⟨fun y o q => hs.extBut y o (fun z => by rw [z, off] at q; cases q) (k y o q), δ, ⟨Y.lo, fun a o q => (Y.conc a o q).keeps G (fun _ => rfl) fun y z hy hz => hs.extBut y z (fun w => ap a o q (w ▸ hy)) hz, Y.off, Y.apart, Y.inj⟩⟩

/-- a list comprehension over a list -/
noncomputable def CompL (c : Cx G) (elt target : Expr) (ifs : List Expr) (sc : Scope) (cl : List (Str × Addr)) (env : Env) (v : AV) (μ : Loc) (σ : Hp) (R : Addr → Loc → Hp → Prop) : Prop :=
  ∃ l xs, ∃ I : List AV → List AV → Hp → Prop, v = .ref l ∧ I xs [] σ ∧ (∀ r acc σ, I r acc σ → σ l = some (.list xs)) ∧ xs.length ≤ 1000000 ∧ CompTurn c elt target ifs sc cl env xs I ∧
    ∀ acc σ, I [] acc σ → ∀ a, σ a = none → R a μ (σ.set a (.list acc))

theorem neA {a b : Nat} (h : a ≠ b) : @Ne Addr a b := h
theorem leA {a b : Nat} (h : a ≤ b) : @LE.le Nat _ a b := h
theorem comp_wayL {elt target iter : Expr} {ifs : List Expr} {scope sc : Scope} {cl : List (Str × Addr)} {pos : Pos} {v : AV} {vv : Value} {s₁ : Shared} {R : Addr → Loc → Hp → Prop} {K : Value → Result → Shared → Prop} {E : Value → Shared → Prop}
    (F₁ : FRep G c.base c.L μ σ s₁.heap) (S₁ : Still G s₁) (hv : av vv = some v) (h : CompL c elt target ifs sc cl env v μ σ R)
    (hcell : ∀ x ∈ scope.names, x.2 ≠ .cell) (hkind : scope.kind = .function)
    (k : ∀ D C s', (∃ m, s'.heap.Ns C m) → C ≠ c.L → c.base.get? C = none → Still G s' → (∃ σ' b2 o, R D μ σ' ∧ c.base.StaysIn b2 ∧ FRep G b2 c.L μ σ' s'.heap ∧ b2.get? C = some o) → C = s₁.heap.objs.size + 2 → K (.ref D) (.ok .next) s') :
    wpAny G.M c.A (pyIter vv) (fun it s₂ => wpAny G.M c.A (newList []) (fun acc s₃ =>
      wpAny G.M c.A (newFunctionEnv scope env.globals cl [] env.qual none .none (some env)) (fun cenv s₄ => cenv.locals = s₁.heap.objs.size + 2 ∧
        codeAny G.M c.A (.compStart (.ListComp elt [⟨target, iter, ifs, 0⟩] scope pos) 0 it acc { cenv with scope := sc }) (K acc) s₄) E s₃) E s₂) E s₁ := by
  obtain ⟨l, xs, I, rfl, hI, hl, hz, turn, done⟩ := h
  cases av_ref hv
  obtain ⟨us, n, e, hu⟩ := F₁.listAt (hl _ _ _ hI)
  obtain ⟨e1, eσ⟩ := F₁.fresh
  have lo := size3 c.b F₁.keep
  obtain ⟨b1, st1, sz1, R1, back, backC⟩ := F₁.leaveC
  have hnone : ∀ y, s₁.heap.objs.size ≤ y → s₁.heap.get? y = none := fun y hy => by
    cases q : s₁.heap.get? y with
    | none => rfl
    | some o => exact absurd (Heap.lt_size q) (Nat.not_lt.mpr hy)
  have b1none : ∀ y, s₁.heap.objs.size ≤ y → b1.get? y = none := fun y hy => by
    cases q : b1.get? y with
    | none => rfl
    | some o => have := R1.keep _ _ q; rw [hnone y hy] at this; cases this
  refine wpAny_pyIter_list (items := us.toArray) ⟨_, e, rfl, n, rfl⟩ (wpAny_newObj_type (wpAny_newFunctionEnv hcell (fun _ hx => nomatch hx) (fun h' hns hsb => ?_) hkind) (by show (0 : Nat) ≤ sizeLine; omega))
  simp only [Heap.size_push] at hns hsb ⊢
  refine ⟨by simp [newEnv], ?_⟩
  have kk : ∀ y o, (((s₁.heap.push { cls := .type "list_iterator", data := .fields #[.ref l, .int 0 0] }).push { cls := .type "list", data := .seq #[] })).get? y = some o → h'.get? y = some o := fun y o q =>
    hsb.extBut y o (fun z => by have := Heap.lt_size q; rw [z] at this; simp only [Heap.size_push] at this; exact absurd this (Nat.lt_irrefl _)) (Heap.get?_push_of_some _ q)
  have k1 : ∀ y o, s₁.heap.get? y = some o → h'.get? y = some o := fun y o q => kk y o (Heap.get?_push_of_some _ (Heap.get?_push_of_some _ q))
  obtain ⟨b, stb, F4, gb⟩ := R1.frame (μ := []) (C := s₁.heap.objs.size + 1 + 1) k1 hns (fun x => rfl) (hnone _ (by omega))
  have hit : b.get? s₁.heap.objs.size = some { cls := .type "list_iterator", data := .fields #[.ref l, .int 0 0] } := by
    rw [gb _ (hnone _ (Nat.le_refl _)) (neA (by omega))]
    exact kk _ _ (Heap.get?_push_of_some _ (Heap.get?_push_size _ rfl))
  have hD : b.get? (s₁.heap.objs.size + 1) = some (listO [] 0) := by
    rw [gb _ (hnone _ (by omega)) (neA (by omega))]
    refine kk _ _ ?_
    have := Heap.get?_push_size (s₁.heap.push { cls := .type "list_iterator", data := .fields #[.ref l, .int 0 0] }) (o := { cls := .type "list", data := .seq #[] }) rfl
    rwa [Heap.size_push] at this
  have fin : codeAny G.M c.A (.compLoop (.ListComp elt [⟨target, iter, ifs, 0⟩] scope pos) 0 (.ref s₁.heap.objs.size) (.ref (s₁.heap.objs.size + 1)) (cenvX env sc cl (s₁.heap.objs.size + 1 + 1))) (K (.ref (s₁.heap.objs.size + 1))) { s₁ with heap := h', toks := s₁.toks + 0 } := by
    refine codeAny_mono (comp_core (c.b.keeps st1) st1 (by omega) F4 S₁ stb hit (b1none _ (Nat.le_refl _)) hD (b1none _ (by omega)) (neA (by omega)) hI hl hz turn) fun r s' z => ?_
    obtain ⟨rfl, acc, μ', σ', b', vs, m, hI', st', F', S', hD', hvs, _⟩ := z
    obtain ⟨eD, F''⟩ := F'.ofBase st' hD' (b1none _ (by omega)) hvs
    obtain ⟨mC, hnC, _⟩ := F'.loc
    obtain ⟨b2, oC, s2, F2, g2⟩ := backC _ _ _ _ F''
    refine k _ (s₁.heap.objs.size + 1 + 1) s' ⟨mC, hnC⟩ (fun z => ?_) ?_ S' ⟨_, b2, oC, done acc σ' hI' _ eD, s2, F2, g2⟩ rfl
    · obtain ⟨m0, hn0, _⟩ := F₁.loc
      have := hn0.lt
      rw [← z] at this
      exact absurd this (Nat.not_lt.mpr (by omega))
    · cases q : c.base.get? (s₁.heap.objs.size + 1 + 1) with
      | none => rfl
      | some o => have := F₁.keep _ _ q; rw [hnone _ (by omega)] at this; cases this
  refine codeAny_compStart_list fin (wpAny_pyIter_listiter (l := l) (i := 0) ⟨_, F4.keep _ _ hit, rfl, rfl⟩ fin)

/-- a list comprehension over a range -/
noncomputable def CompR (c : Cx G) (elt target : Expr) (ifs : List Expr) (sc : Scope) (cl : List (Str × Addr)) (env : Env) (v : AV) (μ : Loc) (σ : Hp) (R : Addr → Loc → Hp → Prop) : Prop :=
  ∃ r n, ∃ I : Int → List AV → Hp → Prop, v = .ref r ∧ σ r = some (.rng n) ∧ 0 ≤ n ∧ n ≤ 1000000 ∧ I 0 [] σ ∧ CompTurnR c elt target ifs sc cl env n I ∧
    ∀ acc σ, I n acc σ → ∀ a, σ a = none → R a μ (σ.set a (.list acc))
noncomputable def CompOf (c : Cx G) (elt target : Expr) (ifs : List Expr) (sc : Scope) (cl : List (Str × Addr)) (env : Env) (v : AV) (μ : Loc) (σ : Hp) (R : Addr → Loc → Hp → Prop) : Prop :=
  CompL c elt target ifs sc cl env v μ σ R ∨ CompR c elt target ifs sc cl env v μ σ R

theorem comp_wayR {elt target iter : Expr} {ifs : List Expr} {scope sc : Scope} {cl : List (Str × Addr)} {pos : Pos} {v : AV} {vv : Value} {s₁ : Shared} {R : Addr → Loc → Hp → Prop} {K : Value → Result → Shared → Prop} {E : Value → Shared → Prop}
    (F₁ : FRep G c.base c.L μ σ s₁.heap) (S₁ : Still G s₁) (hv : av vv = some v) (h : CompR c elt target ifs sc cl env v μ σ R)
    (hcell : ∀ x ∈ scope.names, x.2 ≠ .cell) (hkind : scope.kind = .function)
    (k : ∀ D C s', (∃ m, s'.heap.Ns C m) → C ≠ c.L → c.base.get? C = none → Still G s' → (∃ σ' b2 o, R D μ σ' ∧ c.base.StaysIn b2 ∧ FRep G b2 c.L μ σ' s'.heap ∧ b2.get? C = some o) → C = s₁.heap.objs.size + 2 → K (.ref D) (.ok .next) s') :
    wpAny G.M c.A (pyIter vv) (fun it s₂ => wpAny G.M c.A (newList []) (fun acc s₃ =>
      wpAny G.M c.A (newFunctionEnv scope env.globals cl [] env.qual none .none (some env)) (fun cenv s₄ => cenv.locals = s₁.heap.objs.size + 2 ∧
        codeAny G.M c.A (.compStart (.ListComp elt [⟨target, iter, ifs, 0⟩] scope pos) 0 it acc { cenv with scope := sc }) (K acc) s₄) E s₃) E s₂) E s₁ := by
  obtain ⟨rr, n, I, rfl, hr, hn0, hz, hI, turn, done⟩ := h
  cases av_ref hv
  obtain ⟨t0, u0, v0, e⟩ := F₁.conc hr rfl (fun x => x)
  have hsz : Builtin.Range.rangeSize 0 n 1 = n := by rw [rangeSize_one]; split <;> omega
  obtain ⟨e1, eσ⟩ := F₁.fresh
  have lo := size3 c.b F₁.keep
  obtain ⟨b1, st1, sz1, R1, back, backC⟩ := F₁.leaveC
  have hnone : ∀ y, s₁.heap.objs.size ≤ y → s₁.heap.get? y = none := fun y hy => by
    cases q : s₁.heap.get? y with
    | none => rfl
    | some o => exact absurd (Heap.lt_size q) (Nat.not_lt.mpr hy)
  have b1none : ∀ y, s₁.heap.objs.size ≤ y → b1.get? y = none := fun y hy => by
    cases q : b1.get? y with
    | none => rfl
    | some o => have := R1.keep _ _ q; rw [hnone y hy] at this; cases this
  refine wpAny_pyIter_range (a := 0) (b := n) (c := 1) e (small_one (by decide) (by decide) (by omega) (by omega)) ?_
  rw [hsz]
  refine (wpAny_newObj_type (wpAny_newFunctionEnv hcell (fun _ hx => nomatch hx) (fun h' hns hsb => ?_) hkind) (by show (0 : Nat) ≤ sizeLine; omega))
  simp only [Heap.size_push] at hns hsb ⊢
  refine ⟨by simp [newEnv], ?_⟩
  have kk : ∀ y o, (((s₁.heap.push { cls := .type "range_iterator", data := .fields #[rawInt 0, rawInt n, rawInt 1] }).push { cls := .type "list", data := .seq #[] })).get? y = some o → h'.get? y = some o := fun y o q =>
    hsb.extBut y o (fun z => by have := Heap.lt_size q; rw [z] at this; simp only [Heap.size_push] at this; exact absurd this (Nat.lt_irrefl _)) (Heap.get?_push_of_some _ q)
  have k1 : ∀ y o, s₁.heap.get? y = some o → h'.get? y = some o := fun y o q => kk y o (Heap.get?_push_of_some _ (Heap.get?_push_of_some _ q))
  obtain ⟨b, stb, F4, gb⟩ := R1.frame (μ := []) (C := s₁.heap.objs.size + 1 + 1) k1 hns (fun x => rfl) (hnone _ (by omega))
  have hit : b.get? s₁.heap.objs.size = some { cls := .type "range_iterator", data := .fields #[rawInt 0, rawInt n, rawInt 1] } := by
    rw [gb _ (hnone _ (Nat.le_refl _)) (neA (by omega))]
    exact kk _ _ (Heap.get?_push_of_some _ (Heap.get?_push_size _ rfl))
  have hD : b.get? (s₁.heap.objs.size + 1) = some (listO [] 0) := by
    rw [gb _ (hnone _ (by omega)) (neA (by omega))]
    refine kk _ _ ?_
    have := Heap.get?_push_size (s₁.heap.push { cls := .type "range_iterator", data := .fields #[rawInt 0, rawInt n, rawInt 1] }) (o := { cls := .type "list", data := .seq #[] }) rfl
    rwa [Heap.size_push] at this
  have fin : codeAny G.M c.A (.compLoop (.ListComp elt [⟨target, iter, ifs, 0⟩] scope pos) 0 (.ref s₁.heap.objs.size) (.ref (s₁.heap.objs.size + 1)) (cenvX env sc cl (s₁.heap.objs.size + 1 + 1))) (K (.ref (s₁.heap.objs.size + 1))) { s₁ with heap := h', toks := s₁.toks + 0 } := by
    refine codeAny_mono (comp_coreR (c.b.keeps st1) st1 (by omega) F4 S₁ stb hit (b1none _ (Nat.le_refl _)) hD (b1none _ (by omega)) (neA (by omega)) hI hn0 hz turn) fun r s' z => ?_
    obtain ⟨rfl, acc, μ', σ', b', vs, m, hI', st', F', S', hD', hvs⟩ := z
    obtain ⟨eD, F''⟩ := F'.ofBase st' hD' (b1none _ (by omega)) hvs
    obtain ⟨mC, hnC, _⟩ := F'.loc
    obtain ⟨b2, oC, s2, F2, g2⟩ := backC _ _ _ _ F''
    refine k _ (s₁.heap.objs.size + 1 + 1) s' ⟨mC, hnC⟩ (fun z => ?_) ?_ S' ⟨_, b2, oC, done acc σ' hI' _ eD, s2, F2, g2⟩ rfl
    · obtain ⟨m0, hn0, _⟩ := F₁.loc
      have := hn0.lt
      rw [← z] at this
      exact absurd this (Nat.not_lt.mpr (by omega))
    · cases q : c.base.get? (s₁.heap.objs.size + 1 + 1) with
      | none => rfl
      | some o => have := F₁.keep _ _ q; rw [hnone _ (by omega)] at this; cases this
  refine codeAny_compStart_list fin (wpAny_pyIter_rangeiter (x := 0) (left := n) (step := 1) (F4.keep _ _ hit) fin)

theorem comp_way {elt target iter : Expr} {ifs : List Expr} {scope sc : Scope} {cl : List (Str × Addr)} {pos : Pos} {v : AV} {vv : Value} {s₁ : Shared} {R : Addr → Loc → Hp → Prop} {K : Value → Result → Shared → Prop} {E : Value → Shared → Prop}
    (F₁ : FRep G c.base c.L μ σ s₁.heap) (S₁ : Still G s₁) (hv : av vv = some v) (h : CompOf c elt target ifs sc cl env v μ σ R)
    (hcell : ∀ x ∈ scope.names, x.2 ≠ .cell) (hkind : scope.kind = .function)
    (k : ∀ D C s', (∃ m, s'.heap.Ns C m) → C ≠ c.L → c.base.get? C = none → Still G s' → (∃ σ' b2 o, R D μ σ' ∧ c.base.StaysIn b2 ∧ FRep G b2 c.L μ σ' s'.heap ∧ b2.get? C = some o) → C = s₁.heap.objs.size + 2 → K (.ref D) (.ok .next) s') :
    wpAny G.M c.A (pyIter vv) (fun it s₂ => wpAny G.M c.A (newList []) (fun acc s₃ =>
      wpAny G.M c.A (newFunctionEnv scope env.globals cl [] env.qual none .none (some env)) (fun cenv s₄ => cenv.locals = s₁.heap.objs.size + 2 ∧
        codeAny G.M c.A (.compStart (.ListComp elt [⟨target, iter, ifs, 0⟩] scope pos) 0 it acc { cenv with scope := sc }) (K acc) s₄) E s₃) E s₂) E s₁ :=
  h.elim (fun h => comp_wayL F₁ S₁ hv h hcell hkind k) fun h => comp_wayR F₁ S₁ hv h hcell hkind k

theorem E_ListComp {elt target iter : Expr} {ifs : List Expr} {scope : Scope} {pos : Pos}
    (h : EV c (eval iter env) μ σ fun v μ σ => CompOf c elt target ifs scope [] env v μ σ fun a μ σ => Q (.ref a) μ σ)
    (hfree : ∀ x ∈ scope.names, x.2 ≠ .free) (hcell : ∀ x ∈ scope.names, x.2 ≠ .cell) (hnames : ∀ x ∈ scope.names, x.2 = .local → scope.names.lookup x.1 = some .local) (hkind : scope.kind = .function := by rfl)
    (hs : ∀ x, foldedSetIterable iter env x = pure x := by intro _; rfl) : EV c (eval (.ListComp elt [⟨target, iter, ifs, 0⟩] scope pos) env) μ σ Q := fun s F S => by
  refine wpAny_ListComp hfree hkind hnames (h.run F S fun a x s₁ μ₁ σ₁ F₁ S₁ ha h₁ => ?_) hs
  refine wpAny_mono (comp_way (iter := iter) (pos := pos) (K := fun acc r s' => ∃ m, s'.heap.Ns (s₁.heap.objs.size + 2) m ∧ ∀ h', Heap.SameBut (s₁.heap.objs.size + 2) s'.heap h' → r = .ok .next ∧ ∃ μ' σ', FRep G c.base c.L μ' σ' h' ∧ Still G s' ∧ VQ Q acc μ' σ') F₁ S₁ ha h₁ hcell hkind (fun D C s' hC hCL hCb S' hσ eC => ?_)) (fun it s₂ h₂ => wpAny_mono h₂ (fun acc s₃ h₃ => wpAny_mono h₃ (fun cenv s₄ h₄ => ?_) fun _ _ z => z) fun _ _ z => z) fun _ _ z => z
  · subst eC
    obtain ⟨m, hm⟩ := hC
    obtain ⟨σ', b2, o, hR, st2, F2, g2⟩ := hσ
    exact ⟨m, hm, fun h' hs' => ⟨rfl, μ₁, σ', F2.dropBase st2 g2 hCb hs'.extBut, S', _, rfl, hR⟩⟩
  · obtain ⟨eC, hc⟩ := h₄
    refine codeAny_mono hc fun r s' z => ?_
    rw [eC]
    obtain ⟨m, hm, hh⟩ := z
    refine ⟨m, hm, fun h' hs' => ?_⟩
    obtain ⟨rfl, μ', σ', F', S', q⟩ := hh h' hs'
    exact ⟨μ', σ', F', S', q⟩

theorem S_AssignComp {elt target iter : Expr} {ifs : List Expr} {scope : Scope} {pos spos py : Pos} {y : Str}
    (hsw : swapsWith (.ListComp elt [⟨target, iter, ifs, 0⟩] scope pos) (some (.Name y py)) spos.line env = pure true)
    (h : EV c (eval iter env) μ σ fun v μ σ => CompOf c elt target ifs scope [] env v μ σ fun a μ σ => P .next (upd y (.ref a) μ) σ)
    (hfree : ∀ x ∈ scope.names, x.2 ≠ .free) (hcell : ∀ x ∈ scope.names, x.2 ≠ .cell) (hnames : ∀ x ∈ scope.names, x.2 = .local → scope.names.lookup x.1 = some .local) (hkind : scope.kind = .function := by rfl)
    (hs : ∀ x, foldedSetIterable iter env x = pure x := by intro _; rfl) (hL : env.locals = c.L := by rfl) (hl : env.kindOf y = some .local := by rfl)
    (hp : (env.scope.kind == .class || (env.scope.kind == .module && env.locals != env.globals)) = false := by rfl) : SV c (exec (.Assign [.Name y py] (.ListComp elt [⟨target, iter, ifs, 0⟩] scope pos) spos) env) μ σ P := fun s F S => by
  show wpAny _ _ (do
    standAt spos
    if ← swapsWith (.ListComp elt [⟨target, iter, ifs, 0⟩] scope pos) (some (.Name y py)) spos.line env then do
      (do let _ ← comprehension (.ListComp elt [⟨target, iter, ifs, 0⟩] scope pos) scope env (firstIterPos [⟨target, iter, ifs, 0⟩] pos) (newList []) false (eval iter env) (some fun v => assignAll v [assign (.Name y py) env]))
      pure Flow.next
    else do
      let v ← eval (.ListComp elt [⟨target, iter, ifs, 0⟩] scope pos) env
      assignStores env v (← swappedStores [.Name y py] (.ListComp elt [⟨target, iter, ifs, 0⟩] scope pos) env) [assign (.Name y py) env]) _ _ _
  refine wpAny_bind (wpAny_standAt ?_)
  rw [hsw]
  refine wpAny_bind (wpAny_pure ?_)
  simp only [if_true]
  refine wpAny_bind (wpAny_bind (wpAny_mono (Q := fun _ s' => ∃ μ' σ', FRep G c.base c.L μ' σ' s'.heap ∧ Still G s' ∧ P .next μ' σ') (E := fun _ _ => False) ?_ (fun _ s' z => ?_) fun _ _ z => z))
  · refine wpAny_comprehension_use (g := ⟨target, iter, ifs, 0⟩) (gs := []) rfl hs hfree hkind hnames (h.run F S fun a x s₁ μ₁ σ₁ F₁ S₁ ha h₁ => ?_)
    refine wpAny_mono (comp_way (iter := iter) (pos := pos) (K := fun acc r s' => r = .ok .next ∧ ∃ D, acc = .ref D ∧ (s₁.heap.objs.size + 2 ≠ c.L) ∧ (∃ m, s'.heap.Ns (s₁.heap.objs.size + 2) m) ∧ Still G s' ∧ c.base.get? (s₁.heap.objs.size + 2) = none ∧ ∃ σ' b2 o, P .next (upd y (.ref D) μ₁) σ' ∧ c.base.StaysIn b2 ∧ FRep G b2 c.L μ₁ σ' s'.heap ∧ b2.get? (s₁.heap.objs.size + 2) = some o) F₁ S₁ ha h₁ hcell hkind (fun D C s' hC hCL hCb S' hσ eC => ?_)) (fun it s₂ h₂ => wpAny_mono h₂ (fun acc s₃ h₃ => wpAny_mono h₃ (fun cenv s₄ h₄ => ?_) fun _ _ z => z) fun _ _ z => z) fun _ _ z => z
    · subst eC
      exact ⟨rfl, D, rfl, hCL, hC, S', hCb, hσ⟩
    · obtain ⟨eC, hc⟩ := h₄
      refine codeAny_mono hc fun r s' z => ?_
      rw [eC]
      obtain ⟨rfl, D, rfl, hCL, ⟨m, hm⟩, S', hCb, σ', b2, o, hR, st2, F2, g2⟩ := z
      obtain ⟨mL, hnL, hmL⟩ := F2.loc
      show wpAny _ _ (assign (.Name y py) env (.ref D)) _ _ _
      refine wpAny_assign_Name (wpAny_storeName_local hl (hL ▸ hnL) (fun h6 hn6 hs6 => ?_) hp)
      rw [hL] at hn6 hs6
      have hm6 : h6.Ns (s₁.heap.objs.size + 2) m := hm.sameBut hs6 hCL
      have F6 : FRep G b2 c.L (upd y (.ref D) μ₁) σ' h6 := F2.store hmL rfl hn6 hs6
      exact ⟨m, hm6, fun h7 hs7 => ⟨_, σ', F6.dropBase st2 g2 hCb hs7.extBut, S', hR⟩⟩
  · obtain ⟨μ', σ', F', S', q⟩ := z
    exact wpAny_pure (wpAny_pure ⟨μ', σ', F', S', .next, rfl, q⟩)
end Mine
end

section
open PySem PySem.W PySem.Calls PyProof.Rows
namespace Mine
variable {G : Gx} {c : Cx G} {μ : Loc} {σ : Hp} {env : Env} {Q : AV → Loc → Hp → Prop} {P : AF → Loc → Hp → Prop} {R : Loc → Hp → Prop}

/-! built-in functions -/
theorem C_len {l : Addr} {xs : List AV} (hl : σ l = some (.list xs)) (h : Q (.int xs.length) μ σ) (hz : xs.length ≤ 1000000) : Calls c (.bi "len") [.ref l] μ σ Q := fun vf vs hv hx s F S => by
  cases av_bi hv
  obtain ⟨a, rfl, ha⟩ := avs1 hx
  cases av_ref ha
  obtain ⟨us, n, e, hu⟩ := F.listAt hl
  refine Calls.call_len_list (items := us.toArray) ⟨_, e, rfl, n, rfl⟩ ?_ ⟨μ, σ, F, S, _, rfl, ?_⟩
  · rw [List.size_toArray, avs_len hu]; omega
  · rw [List.size_toArray, avs_len hu]; exact h
theorem C_leni {d : Addr} {xs : List (Int × AV)} (hd : σ d = some (.idict xs)) (h : Q (.int xs.length) μ σ) (hz : xs.length ≤ 1000000) : Calls c (.bi "len") [.ref d] μ σ Q := fun vf vs hv hx s F S => by
  cases av_bi hv
  obtain ⟨a, rfl, ha⟩ := avs1 hx
  cases av_ref ha
  obtain ⟨kv, hm, hk⟩ := F.idict hd
  refine call_len_dict (F.lo hd rfl) hm (by rw [kvs_len hk]; omega) ⟨μ, σ, F, S, _, rfl, ?_⟩
  rw [kvs_len hk]; exact h
theorem C_min {i j : Int} (h : Q (.int (min i j)) μ σ) : Calls c (.bi "min") [.int i, .int j] μ σ Q := fun vf vs hv hx s F S => by
  cases av_bi hv
  obtain ⟨a, r, rfl, ha, hr⟩ := avs_cons hx
  obtain ⟨b, rfl, hb⟩ := avs1 hr
  obtain ⟨t, rfl⟩ := av_int ha
  obtain ⟨u, rfl⟩ := av_int hb
  refine min_two_ints c.ok.hd fun h' tk hk => ⟨μ, σ, F.grow hk, S, .int (min i j), ?_, h⟩
  by_cases z : j < i
  · rw [if_pos z, Int.min_eq_right (Int.le_of_lt z)]; rfl
  · rw [if_neg z, Int.min_eq_left (Int.not_lt.mp z)]; rfl
theorem C_max {i j : Int} (h : Q (.int (max i j)) μ σ) : Calls c (.bi "max") [.int i, .int j] μ σ Q := fun vf vs hv hx s F S => by
  cases av_bi hv
  obtain ⟨a, r, rfl, ha, hr⟩ := avs_cons hx
  obtain ⟨b, rfl, hb⟩ := avs1 hr
  obtain ⟨t, rfl⟩ := av_int ha
  obtain ⟨u, rfl⟩ := av_int hb
  refine max_two_ints c.ok.hd fun h' tk hk => ⟨μ, σ, F.grow hk, S, .int (max i j), ?_, h⟩
  by_cases z : j > i
  · rw [if_pos z, Int.max_eq_right (Int.le_of_lt z)]; rfl
  · rw [if_neg z, Int.max_eq_left (Int.not_lt.mp z)]; rfl
/-- a fresh list of any rule's making -/
theorem FRep.newAt {s : Shared} {h' : Heap} {vs : List Value} {xs : List AV} {n : Nat} (F : FRep G c.base c.L μ σ s.heap) (k : ∀ b o, s.heap.get? b = some o → h'.get? b = some o) (e : h'.get? s.heap.objs.size = some (listO vs n)) (hv : avs vs xs) :
    FRep G c.base c.L μ (σ.set s.heap.objs.size (.list xs)) h' := by
  obtain ⟨e1, eσ⟩ := F.fresh
  obtain ⟨kk, off, ⟨m, hn, hm⟩, δ, Y, ap⟩ := F
  have hb : c.base.get? s.heap.objs.size = none := by
    cases q : c.base.get? s.heap.objs.size with
    | none => rfl
    | some o => rw [kk _ _ q] at e1; cases e1
  refine ⟨fun b y e => k b y (kk b y e), off, ⟨m, hn.keeps k, hm⟩, δ, Y.more e1 (fun z => nomatch z) hb rfl ⟨vs, n, e, hv⟩ fun _ _ b y _ _ hy => k b y hy, fun b ob q hbb => ?_⟩
  by_cases z : b = s.heap.objs.size
  · subst z
    rw [Hp.set_self] at q; cases q
    rcases hbb with w | ⟨q, _⟩
    · exact Nat.lt_irrefl _ (w ▸ hn.lt)
    · cases q
  · rw [Hp.set_ne z] at q; exact ap b ob q hbb
theorem FRep.newFr {s : Shared} {h' : Heap} {vs : List Value} {xs : List AV} {n D : Nat} {m : Str → Option Value} (F : FRep G c.base c.L μ σ s.heap) (hD : s.heap.objs.size ≤ D) (hm : ∀ x, (m x).map av = (μ.lookup x).map some) (F' : Fr c.b0 c.L h' m)
    (N' : News c.b0 c.L h' ((D, listO vs n) :: rest s.heap c.b0 c.L [])) (hv : avs vs xs) : σ D = none ∧ FRep G c.base c.L μ (σ.set D (.list xs)) h' := by
  have e1 : s.heap.get? D = none := by
    cases q : s.heap.get? D with
    | none => rfl
    | some o => exact absurd (Heap.lt_size q) (Nat.not_lt.mpr hD)
  have k := rest_keep (l := [_]) F.keep0 F' N'
  have e := (N' _ (.head _)).1
  have hDL := (N' _ (.head _)).2.1
  obtain ⟨kk, off, ⟨m0, hn, _⟩, δ, Y, ap⟩ := F
  have eσ : σ D = none := by
    cases q : σ D with
    | none => rfl
    | some o => obtain ⟨y, hy⟩ := (Y.conc _ o q).there G _ (.inl rfl); rw [e1] at hy; cases hy
  have hb : c.base.get? D = none := by
    cases q : c.base.get? D with
    | none => rfl
    | some o => rw [kk _ _ q] at e1; cases e1
  refine ⟨eσ, fun b y q => k b y (fun z => by rw [z, off] at q; cases q) (fun z => nomatch z) (kk b y q), off, ⟨m, F'.ns, hm⟩, δ, Y.more e1 (fun z => nomatch z) hb rfl ⟨vs, n, e, hv⟩ fun d od b y q hb hy => k b y (fun z => ap d od q (z ▸ hb)) (fun z => nomatch z) hy, fun b ob q hbb => ?_⟩
  by_cases z : b = D
  · subst z
    rw [Hp.set_self] at q; cases q
    rcases hbb with w | ⟨q, _⟩
    · exact hDL w.symm
    · cases q
  · rw [Hp.set_ne z] at q; exact ap b ob q hbb
theorem C_list {l : Addr} {xs : List AV} (hl : σ l = some (.list xs)) (hz : xs.length ≤ 1000000) (h : ∀ a, σ a = none → Q (.ref a) μ (σ.set a (.list xs))) : Calls c (.ty "list") [.ref l] μ σ Q := fun vf vs hv hx s F S => by
  cases av_ty hv
  obtain ⟨a, rfl, ha⟩ := avs1 hx
  cases av_ref ha
  obtain ⟨us, n, e, hu⟩ := F.listAt hl
  exact call_list_seq l (.inl rfl) e rfl rfl (fun h' c' k e' => ⟨μ, _, F.newAt k e' hu, S, _, rfl, h _ F.fresh.2⟩) (by rw [List.size_toArray, avs_len hu, sizeLine_eq]; omega)
/-- list(x) of a list that stands in the base -/
theorem C_listB {l : Addr} {o : Obj} {us : List Value} {n : Nat} {xs : List AV} (e : c.base.get? l = some o) (hc : o.cls = .type "list") (hd : o.data = .seq us.toArray n) (hu : avs us xs) (hz : xs.length ≤ 1000000) (h : ∀ a, σ a = none → Q (.ref a) μ (σ.set a (.list xs))) : Calls c (.ty "list") [.ref l] μ σ Q := fun vf vs hv hx s F S => by
  cases av_ty hv
  obtain ⟨a, rfl, ha⟩ := avs1 hx
  cases av_ref ha
  exact call_list_seq l (.inl rfl) (F.keep _ _ e) hc hd (fun h' c' k e' => ⟨μ, _, F.newAt k e' hu, S, _, rfl, h _ F.fresh.2⟩) (by rw [List.size_toArray, avs_len hu, sizeLine_eq]; omega)
theorem avs_IntsAre : ∀ {vs : List Value} {ys : List Int}, avs vs (ys.map .int) → IntsAre vs ys
  | [], [], _ => .nil
  | [], _ :: _, h => nomatch h
  | _ :: _, [], h => nomatch h
  | v :: vs, y :: ys, h => by
    obtain ⟨h1, h2⟩ := List.cons.inj h
    obtain ⟨t, rfl⟩ := av_int h1
    exact .cons _ _ (avs_IntsAre h2)
theorem IntsAre_avs : ∀ {vs : List Value} {ys : List Int}, IntsAre vs ys → avs vs (ys.map .int)
  | _, _, .nil => rfl
  | _, _, .cons _ _ h => by show _ :: _ = _ :: _; rw [IntsAre_avs h]; rfl
theorem sorted_unique {a b : List Int} (p : a.Perm b) (o : a.Pairwise (· ≤ ·)) : a = b.mergeSort := by
  have h2 : b.mergeSort.Pairwise (· ≤ ·) := by
    have := List.pairwise_mergeSort (le := fun a b : Int => decide (a ≤ b)) (fun a b c h1 h2 => by simp at *; omega) (fun a b => by simp; omega) b
    simpa using this
  exact (p.trans (List.mergeSort_perm b _).symm).eq_of_pairwise (le := (· ≤ ·)) (fun a b _ _ h1 h2 => Int.le_antisymm h1 h2) o h2
theorem C_sorted {l : Addr} {ys : List Int} (hl : σ l = some (.list (ys.map .int))) (hz : ys.length < 64) (h : ∀ a, σ a = none → Q (.ref a) μ (σ.set a (.list (ys.mergeSort.map .int)))) : Calls c (.bi "sorted") [.ref l] μ σ Q := fun vf vs hv hx s F S => by
  cases av_bi hv
  obtain ⟨a, rfl, ha⟩ := avs1 hx
  cases av_ref ha
  obtain ⟨us, n, e, hu⟩ := F.listAt hl
  obtain ⟨m, hn, hm⟩ := F.loc
  refine sorted_N (F.fr hn) (news := rest s.heap c.b0 c.L []) rest_news (vs := us) ⟨_, e, rfl, n, rfl⟩ (avs_IntsAre hu) (by have := avs_len hu; simp at this; omega) fun h' vs' ns' e2 F' N' a1 a2 a3 => ?_
  obtain ⟨h1, h2⟩ := F.newFr (Nat.le_succ _) hm F' N' (IntsAre_avs a1)
  refine ⟨μ, _, h2, S, _, rfl, ?_⟩
  rw [sorted_unique a2 a3]
  exact h _ h1
theorem O_addl {l l' : Addr} {xs ys : List AV} (hl : σ l = some (.list xs)) (hl' : σ l' = some (.list ys)) (hz : xs.length + ys.length ≤ 1000000) (h : ∀ a, σ a = none → Q (.ref a) μ (σ.set a (.list (xs ++ ys)))) : Op c (binaryOp .Add) (.ref l) (.ref l') μ σ Q := fun a b ha hb s F S => by
  cases av_ref ha
  cases av_ref hb
  obtain ⟨us, n, e, hu⟩ := F.listAt hl
  obtain ⟨ws, n', e', hw⟩ := F.listAt hl'
  obtain ⟨m, hn, hm⟩ := F.loc
  refine add_arrays (F.fr hn) (news := rest s.heap c.b0 c.L []) rest_news (its := us.toArray) (its2 := ws.toArray) ⟨_, e, rfl, n, rfl⟩ ⟨_, e', rfl, n', rfl⟩ (fun h' F' N' => ?_) (by simp [avs_len hu, avs_len hw, sizeLine_eq]; omega)
  obtain ⟨h1, h2⟩ := F.newFr (vs := us ++ ws) (n := 0) (xs := xs ++ ys) (Nat.le_refl _) hm F' N' (by simp [avs, hu, hw])
  exact ⟨μ, _, h2, S, _, rfl, h _ h1⟩

/-! slices: o[:k] -/
theorem pick_upto {us : List Value} {k : Int} (h : 0 ≤ k) : slicePick us.toArray none (some k) none = (us.take k.toNat).toArray := by
  have e : sliceBounds none (some k) none us.toArray.size = (((0 : Nat) : Int), ((min k.toNat us.toArray.size : Nat) : Int), 1) := by
    simp only [sliceBounds, Option.getD_none, show (1 : Int) > 0 by decide, if_true, if_neg (show ¬ (k < 0) by omega)]
    congr 1
    congr 1
    omega
  rw [kmk_pick_nat _ e, List.drop_zero, Nat.sub_zero, List.size_toArray, kmk_take_min]
theorem E_SliceTo {o hi : Expr} {sp pos : Pos} (h : EV c (eval o env) μ σ fun v μ σ => ∃ l xs, v = .ref l ∧ EV c (eval hi env) μ σ fun y μ σ => ∃ k, y = .int k ∧ σ l = some (.list xs) ∧ 0 ≤ k ∧ xs.length ≤ 1000000 ∧ ∀ a, σ a = none → Q (.ref a) μ (σ.set a (.list (xs.take k.toNat))))
    (hs : ∀ a b, subscripted (.Slice none (some hi) none sp) false a b = operate [b, a] (getItem a b) := by intro _ _; with_unfolding_all rfl) : EV c (eval (.Subscript o (.Slice none (some hi) none sp) pos) env) μ σ Q := fun s F S => by
  refine PyProof.Rows.Subscript_ (h.run F S fun a x s₁ μ₁ σ₁ F₁ S₁ ha h₁ => ?_)
  obtain ⟨l, xs, rfl, h₁⟩ := h₁
  cases av_ref ha
  show wpAny _ _ (do
    let l ← valueOrNone (evalOpt none env)
    let u ← holding [l] (valueOrNone (evalOpt (some hi) env))
    let s ← holding [l, u] (valueOrNone (evalOpt none env))
    newFields "slice" [l, u, s]) _ _ _
  refine wpAny_bind (wpAny_pure (wpAny_bind (wpAny_holding (h₁.run F₁ S₁ fun b y s₂ μ₂ σ₂ F₂ S₂ hb h₂ => ?_))))
  obtain ⟨k, rfl, hl, h0, hz, q⟩ := h₂
  obtain ⟨t, rfl⟩ := av_int hb
  refine wpAny_bind (wpAny_holding (wpAny_pure (wpAny_newObj_type ?_ (by show (3 : Nat) ≤ sizeLine + 2; rw [sizeLine_eq]; omega))))
  have F₃ : FRep G c.base c.L μ₂ σ₂ (s₂.heap.push { cls := .type "slice", data := .fields #[.none, .int k t, .none] }) := F₂.grow fun _ _ e => Heap.get?_push_of_some _ e
  obtain ⟨us, n, e, hu⟩ := F₂.listAt hl
  have e3 : (s₂.heap.push { cls := .type "slice", data := .fields #[.none, .int k t, .none] }).get? l = some (listO us n) := Heap.get?_push_of_some _ e
  refine tail_any (s := { s₂ with heap := s₂.heap.push { cls := .type "slice", data := .fields #[.none, .int k t, .none] } }) ⟨_, e3, rfl⟩ PySem.slot_list_getitem.lookup (wpAny_getItem_list_slice (items := us.toArray) ⟨_, e3, rfl, n, rfl⟩ (Heap.IsSliceOf.new ..) .none (.int k t) .none (by simp) ?_ ?_) (hs _ _)
  · refine ⟨μ₂, _, FRep.newObj (s := { s₂ with heap := s₂.heap.push { cls := .type "slice", data := .fields #[.none, .int k t, .none] } }) (o := .list (xs.take k.toNat)) F₃ rfl rfl (fun h' δ e' => ⟨us.take k.toNat, 0, ?_, ?_⟩), S₂, _, rfl, q _ (FRep.fresh (s := { s₂ with heap := s₂.heap.push { cls := .type "slice", data := .fields #[.none, .int k t, .none] } }) F₃).2⟩
    · rw [e', pick_upto h0]; rfl
    · simp only [avs, List.map_take, hu]
  · rw [List.size_toArray, avs_len hu, sizeLine_eq]; omega

/-! unpacking -/
/-- names bound in order -/
noncomputable def bindAll : List Str → List AV → Loc → Loc
  | x :: xs, v :: vs, μ => bindAll xs vs (upd x v μ)
  | _, _, μ => μ
theorem inOrder {ns : List (Str × Pos)} (hL : env.locals = c.L) (hp : (env.scope.kind == .class || (env.scope.kind == .module && env.locals != env.globals)) = false) :
    ∀ (vs : List Value) (xs : List AV) (μ : Loc) (R : Loc → Hp → Prop), avs vs xs → (∀ p ∈ ns, env.kindOf p.1 = some .local) → R (bindAll (ns.map (·.1)) xs μ) σ → W c (assignInOrder ((assignEach (ns.map fun p => Expr.Name p.1 p.2) env).map (·.2)) vs) μ σ fun _ => R := by
  induction ns with
  | nil => intro vs xs μ R hx hl h s F S; cases xs <;> exact wpAny_pure ⟨μ, σ, F, S, h⟩
  | cons p r ih =>
    intro vs xs μ R hx hl h s F S
    cases vs with
    | nil => cases xs with
      | nil => exact wpAny_pure ⟨μ, σ, F, S, h⟩
      | cons _ _ => cases hx
    | cons v vs => cases xs with
      | nil => cases hx
      | cons x xs =>
        obtain ⟨h1, h2⟩ := List.cons.inj hx
        show wpAny _ _ (do holding vs (assign (.Name p.1 p.2) env v); assignInOrder ((assignEach (r.map fun p => Expr.Name p.1 p.2) env).map (·.2)) vs) _ _ _
        refine wpAny_bind (wpAny_holding (W.run (A_Name (R := fun _ μ₁ σ₁ => μ₁ = upd p.1 x μ ∧ σ₁ = σ) h1 ⟨rfl, rfl⟩ hL (hl p (.head _)) hp) F S fun _ s₁ μ₁ σ₁ F₁ S₁ h₁ => ?_))
        obtain ⟨rfl, rfl⟩ := h₁
        exact ih vs xs _ R h2 (fun q hq => hl q (.tail _ hq)) h s₁ F₁ S₁
theorem A_Tuple {ns : List (Str × Pos)} {k : Nat} {pos : Pos} {t : Addr} {xs : List AV} (ht : σ t = some (.tup xs)) (hn : xs.length = ns.length) (hz : xs.length ≤ 1000) (hl : ∀ p ∈ ns, env.kindOf p.1 = some .local) (h : R (bindAll (ns.map (·.1)) xs μ) σ)
    (hL : env.locals = c.L := by rfl) (hp : (env.scope.kind == .class || (env.scope.kind == .module && env.locals != env.globals)) = false := by rfl) : Asg c (.Tuple (ns.map fun p => Expr.Name p.1 p.2) k pos) env (.ref t) μ σ R := fun v hv s F S => by
  cases av_ref hv
  obtain ⟨us, n, e, hu⟩ := F.conc ht rfl id
  have hlen : (assignEach (ns.map fun p => Expr.Name p.1 p.2) env).length = ns.length := by
    clear hn hz hl h hp hL
    induction ns with
    | nil => rfl
    | cons p r ih => show List.length (_ :: assignEach (r.map fun p => Expr.Name p.1 p.2) env) = _; simp [ih]
  have hst : (assignEach (ns.map fun p => Expr.Name p.1 p.2) env).findIdx? (·.1) = none := by
    clear hn hz hl h hp hL hlen
    induction ns with
    | nil => rfl
    | cons p r ih => show List.findIdx? _ ((false, _) :: assignEach (r.map fun p => Expr.Name p.1 p.2) env) = _; simp [List.findIdx?_cons, ih]
  refine wpAny_assign_Tuple (items := us.toArray) c.ok.hd ?_ (by rw [hlen, List.size_toArray, avs_len hu, hn]) hst fun h' hs => ?_
  · exact ⟨_, e, rfl, n, rfl⟩
  · have F' : FRep G c.base c.L μ σ h' := F.grow fun b o q => hs b o (fun z => Nat.lt_irrefl _ (z ▸ Heap.lt_size q)) q
    exact inOrder (c := c) hL hp us xs μ R hu hl h { s with heap := h' } F' S
end Mine
end

section
open PySem PySem.W PySem.Calls PyProof.Rows
namespace Mine
variable {G : Gx} {c : Cx G} {μ : Loc} {σ : Hp} {env : Env} {Q : AV → Loc → Hp → Prop} {P : AF → Loc → Hp → Prop} {R : Loc → Hp → Prop}

theorem Cx.u1 (c : Cx G) : c.A.units < cLine := c.ok.cunits
theorem Cx.u2 (c : Cx G) : c.A.in1.units < cLine := by have := c.ok.units; unfold cLine; show c.A.units + 1 < 9900; omega
theorem Cx.u64 (c : Cx G) : c.A.units + 64 < cLine := by have := c.ok.units; unfold cLine; omega

/-! two lists compared -/
theorem O_eqInts {l l' : Addr} {xs ys : List Int} (hl : σ l = some (.list (xs.map .int))) (hl' : σ l' = some (.list (ys.map .int))) (h : Q (.bool (decide (xs = ys))) μ σ) : Op c (compareOp .Eq) (.ref l) (.ref l') μ σ Q := fun a b ha hb s F S => by
  cases av_ref ha
  cases av_ref hb
  obtain ⟨us, n, e, hu⟩ := F.listAt hl
  obtain ⟨ws, n', e', hw⟩ := F.listAt hl'
  exact ke_eq_ints (xs := us) (ys := ws) ⟨_, e, rfl, n, rfl⟩ ⟨_, e', rfl, n', rfl⟩ (avs_IntsAre hu) (avs_IntsAre hw) c.u64 ⟨μ, σ, F, S, _, rfl, h⟩
/-- values that == finds equal by what the rules know -/
inductive SameV (σ : Hp) : AV → AV → Prop
  | int (i : Int) : SameV σ (.int i) (.int i)
  | str (i : Str) : SameV σ (.str i) (.str i)
  | ref (a : Addr) : SameV σ (.ref a) (.ref a)
  | tup {a b : Addr} {xs : List AV} : σ a = some (.tup xs) → σ b = some (.tup xs) → (∀ x ∈ xs, match x with | .int _ => True | .str _ => True | .ref _ => True | _ => False) → SameV σ (.ref a) (.ref b)
theorem eqFlat {A : Around} {s : Shared} {x : AV} {a b : Value} (ok : match x with | .int _ => True | .str _ => True | .ref _ => True | _ => False) (ha : av a = some x) (hb : av b = some x) : PySem.SeqAt.EqAt A s a b true := by
  cases x with
  | int i =>
    obtain ⟨t, rfl⟩ := av_int ha; obtain ⟨u, rfl⟩ := av_int hb
    have := (PySem.MeetsSeq.EqGives.int i i t u).at A s
    rwa [beq_self_eq_true] at this
  | str i =>
    obtain ⟨t, rfl⟩ := av_str ha; obtain ⟨u, rfl⟩ := av_str hb
    exact fun prog w E Q h => wpAny_eqBool_str (by simpa using h)
  | ref i => cases av_ref ha; cases av_ref hb; exact PySem.SeqAt.EqAt.same _
  | none => exact ok.elim
  | bool _ => exact ok.elim
  | bi _ => exact ok.elim
  | ty _ => exact ok.elim
theorem SameV.at {s : Shared} {x y : AV} {a b : Value} (h : SameV σ x y) (F : FRep G c.base c.L μ σ s.heap) (ha : av a = some x) (hb : av b = some y) : PySem.SeqAt.EqAt c.A.in1 s a b true := by
  cases h with
  | int i => exact eqFlat trivial ha hb
  | str i => exact eqFlat trivial ha hb
  | ref i => exact eqFlat trivial ha hb
  | @tup p q xs hp hq ok =>
    cases av_ref ha; cases av_ref hb
    obtain ⟨us, n, e, hu⟩ := F.conc hp rfl (fun x => x)
    obtain ⟨ws, n', e', hw⟩ := F.conc hq rfl (fun x => x)
    have l1 := avs_len hu
    have l2 := avs_len hw
    by_cases z : p = q
    · subst z; exact PySem.SeqAt.EqAt.same _
    · have := PySem.SeqAt.RcAt.tuples (e := fun _ => true) (A := c.A.in1) (s := s) (l := p) (b := q) (items := us.toArray) (items2 := ws.toArray) ⟨_, e, rfl, n, rfl⟩ ⟨_, e', rfl, n', rfl⟩ c.u2 (fun j h1 h2 => by
        have j1 : j < us.length := by simpa using h1
        have j2 : j < ws.length := by simpa using h2
        have j3 : j < xs.length := by omega
        obtain ⟨v, hv, hav⟩ := avs_get hu (k := j) (x := xs[j]) (List.getElem?_eq_getElem j3)
        obtain ⟨v', hv', hav'⟩ := avs_get hw (k := j) (x := xs[j]) (List.getElem?_eq_getElem j3)
        have q1 : us.toArray[j] = v := by simp only [List.getElem_toArray]; rw [List.getElem?_eq_getElem j1] at hv; exact Option.some.inj hv
        have q2 : ws.toArray[j] = v' := by simp only [List.getElem_toArray]; rw [List.getElem?_eq_getElem j2] at hv'; exact Option.some.inj hv'
        rw [q1, q2]
        exact eqFlat (ok _ (List.getElem_mem j3)) hav hav')
      have e2 : ((List.range (min us.toArray.size ws.toArray.size)).all (fun _ => true) && us.toArray.size == ws.toArray.size) = true := by
        simp [l1, l2]
      rw [e2] at this
      exact PySem.SeqAt.EqAt.of_refs z this
theorem O_eqSame {l l' : Addr} {xs ys : List AV} (hl : σ l = some (.list xs)) (hl' : σ l' = some (.list ys)) (hlen : xs.length = ys.length) (hs : ∀ j (h1 : j < xs.length) (h2 : j < ys.length), SameV σ xs[j] ys[j]) (h : Q (.bool true) μ σ) : Op c (compareOp .Eq) (.ref l) (.ref l') μ σ Q := fun a b ha hb s F S => by
  cases av_ref ha
  cases av_ref hb
  obtain ⟨us, n, e, hu⟩ := F.listAt hl
  obtain ⟨ws, n', e', hw⟩ := F.listAt hl'
  have l1 := avs_len hu
  have l2 := avs_len hw
  refine PySem.SeqAt.eq_listAt (e := fun _ => true) (items := us.toArray) (items2 := ws.toArray) ⟨_, e, rfl, n, rfl⟩ ⟨_, e', rfl, n', rfl⟩ (by simp [l1, l2, hlen]) c.u1 (fun j h1 h2 => ?_) ⟨μ, σ, F, S, _, rfl, ?_⟩
  · have j1 : j < us.length := by simpa using h1
    have j2 : j < ws.length := by simpa using h2
    obtain ⟨v, hv, hav⟩ := avs_get hu (k := j) (x := xs[j]) (List.getElem?_eq_getElem (by omega))
    obtain ⟨v', hv', hav'⟩ := avs_get hw (k := j) (x := ys[j]) (List.getElem?_eq_getElem (by omega))
    have q1 : us.toArray[j] = v := by simp only [List.getElem_toArray]; rw [List.getElem?_eq_getElem j1] at hv; exact Option.some.inj hv
    have q2 : ws.toArray[j] = v' := by simp only [List.getElem_toArray]; rw [List.getElem?_eq_getElem j2] at hv'; exact Option.some.inj hv'
    rw [q1, q2]
    exact (hs j (by omega) (by omega)).at F hav hav'
  · have : (List.range us.toArray.size).all (fun _ => true) = true := List.all_eq_true.mpr fun _ _ => rfl
    rw [this]; exact h
theorem O_neNil {l l' : Addr} {xs : List AV} (hl : σ l = some (.list xs)) (hl' : σ l' = some (.list [])) (h : Q (.bool (!xs.isEmpty)) μ σ) : Op c (compareOp .NotEq) (.ref l) (.ref l') μ σ Q := fun a b ha hb s F S => by
  cases av_ref ha
  cases av_ref hb
  obtain ⟨us, n, e, hu⟩ := F.listAt hl
  obtain ⟨ws, n', e', hw⟩ := F.listAt hl'
  have l1 := avs_len hu
  have l2 := avs_len hw
  show wpAny _ _ (richCompare .NotEq (.ref l) (.ref l')) _ _ _
  cases xs with
  | nil =>
    refine PySem.SeqAt.RcNeAt.lists (e := fun _ => true) (items := us.toArray) (items2 := ws.toArray) ⟨_, e, rfl, n, rfl⟩ ⟨_, e', rfl, n', rfl⟩ (by simp [l1, l2]) c.u1 (fun j h1 h2 => ?_) _ _ _ _ ⟨μ, σ, F, S, _, rfl, ?_⟩
    · exact absurd h1 (by simp [l1])
    · simpa [l1] using h
  | cons x r =>
    refine PySem.SeqAt.RcNeAt.lists_lengths (items := us.toArray) (items2 := ws.toArray) ⟨_, e, rfl, n, rfl⟩ ⟨_, e', rfl, n', rfl⟩ (by simp [l1, l2]) c.u1 _ _ _ _ ⟨μ, σ, F, S, _, rfl, h⟩
/-! none and ints compared -/
noncomputable def eqNI : AV → AV → Option Bool
  | .int i, .int j => some (i == j)
  | .none, .none => some true
  | .none, .int _ => some false
  | .int _, .none => some false
  | _, _ => none
theorem O_eqNI {x y : AV} {b : Bool} (e : eqNI x y = some b) (h : Q (.bool b) μ σ) : Op c (compareOp .Eq) x y μ σ Q := fun u v hu hv s F S => by
  cases x <;> cases y <;> cases e
  · cases av_none hu; cases av_none hv; exact EqNone.eq_none_none ⟨μ, σ, F, S, _, rfl, h⟩
  · cases av_none hu; obtain ⟨t, rfl⟩ := av_int hv; exact EqNone.eq_none_int ⟨μ, σ, F, S, _, rfl, h⟩
  · obtain ⟨t, rfl⟩ := av_int hu; cases av_none hv; exact EqNone.eq_int_none ⟨μ, σ, F, S, _, rfl, h⟩
  · obtain ⟨t, rfl⟩ := av_int hu; obtain ⟨t', rfl⟩ := av_int hv; exact wpAny_eq_int ⟨μ, σ, F, S, _, rfl, h⟩
theorem O_neNI {x y : AV} {b : Bool} (e : eqNI x y = some b) (h : Q (.bool (!b)) μ σ) : Op c (compareOp .NotEq) x y μ σ Q := fun u v hu hv s F S => by
  show wpAny _ _ (richCompare .NotEq u v) _ _ _
  cases x <;> cases y <;> cases e
  · cases av_none hu; cases av_none hv; exact PySem.SeqAt.RcNeAt.none_none _ _ _ _ ⟨μ, σ, F, S, _, rfl, h⟩
  · cases av_none hu; obtain ⟨t, rfl⟩ := av_int hv; exact PySem.SeqAt.RcNeAt.none_int _ _ _ _ _ _ ⟨μ, σ, F, S, _, rfl, h⟩
  · obtain ⟨t, rfl⟩ := av_int hu; cases av_none hv; exact PySem.SeqAt.RcNeAt.int_none _ _ _ _ _ _ ⟨μ, σ, F, S, _, rfl, h⟩
  · obtain ⟨t, rfl⟩ := av_int hu; obtain ⟨t', rfl⟩ := av_int hv; exact PySem.SeqAt.RcNeAt.int_int _ _ _ _ _ _ _ _ ⟨μ, σ, F, S, _, rfl, h⟩

/-! a, b, .. = e -/
theorem S_AssignTuple {elts : List Expr} {k : Nat} {tpos pos : Pos} {value : Expr} (h : EV c (eval value env) μ σ fun v μ σ => Asg c (.Tuple elts k tpos) env v μ σ (P .next))
    (hs : swapsWithSole [.Tuple elts k tpos] value pos.line env = pure false := by with_unfolding_all rfl) (hw : swappedStores [.Tuple elts k tpos] value env = pure none := by with_unfolding_all rfl) : SV c (exec (.Assign [.Tuple elts k tpos] value pos) env) μ σ P := fun s F S =>
  PyProof.Rows.Assign_Tuple (h.run F S fun a x s₁ μ₁ σ₁ F₁ S₁ ha h₁ => W.run (h₁ a ha) F₁ S₁ fun _ s₂ μ₂ σ₂ F₂ S₂ h₂ => ⟨μ₂, σ₂, F₂, S₂, .next, rfl, h₂⟩) hs hw

/-! while -/
theorem S_While {test : Expr} {body : List Stmt} {pos : Pos} (I : Nat → Loc → Hp → Prop) (n : Nat) (hI : I n μ σ)
    (turn : ∀ n μ σ, I n μ σ → TV c test env μ σ fun b μ σ => if b then SV c (execs body env) μ σ (TurnP (fun μ σ => ∃ m, m < n ∧ I m μ σ) P) else P .next μ σ) : SV c (exec (.While test body [] pos) env) μ σ P := fun s F S => by
  refine wpAny_While ?_
  refine codeAny_whileLoop (fun n s' => ∃ μ σ, I n μ σ ∧ FRep G c.base c.L μ σ s'.heap ∧ Still G s') ?_ n ⟨μ, σ, hI, F, S⟩
  rintro n s' ⟨μ', σ', hI', F', S'⟩
  refine wpAny_mono (W.run (turn n μ' σ' hI') F' S' fun b s₁ μ₁ σ₁ F₁ S₁ h₁ => ?_) (fun _ _ z => z) (fun _ _ z => z.elim)
  cases b with
  | true =>
    refine wpAny_mono (W.run h₁ F₁ S₁ fun fl s₂ μ₂ σ₂ F₂ S₂ h₂ => ?_) (fun _ _ z => z) (fun _ _ z => z.elim)
    obtain ⟨y, ey, hy⟩ := h₂
    cases fl with
    | next => cases ey; obtain ⟨m, hm, z⟩ := hy; exact ⟨m, hm, μ₂, σ₂, z, F₂, S₂⟩
    | cont => cases ey; obtain ⟨m, hm, z⟩ := hy; exact ⟨m, hm, μ₂, σ₂, z, F₂, S₂⟩
    | brk => cases ey; exact ⟨μ₂, σ₂, F₂, S₂, .next, rfl, hy⟩
    | ret u =>
      have e' : (av u).map AF.ret = some y := ey
      cases hu' : av u with
      | none => rw [hu'] at e'; cases e'
      | some z => rw [hu'] at e'; cases e'; exact ⟨μ₂, σ₂, F₂, S₂, .ret z, ey, hy⟩
  | false => exact wpAny_execs_nil ⟨μ₁, σ₁, F₁, S₁, .next, rfl, h₁⟩
end Mine
end

section
open PySem PySem.W PySem.Calls PyProof.Rows
namespace Mine
variable {G : Gx} {c : Cx G} {μ : Loc} {σ : Hp} {env : Env} {Q : AV → Loc → Hp → Prop} {P : AF → Loc → Hp → Prop} {R : Loc → Hp → Prop}

/-! a dict display with written str keys -/
noncomputable def PQ (Q : List (Str × AV) → Loc → Hp → Prop) : List (Value × Value) → Loc → Hp → Prop := fun vs μ σ => ∃ xs, allStrKeys vs = true ∧ kvs (strPairs vs) xs ∧ Q xs μ σ
noncomputable abbrev EVp (c : Cx G) (t : Sem (List (Value × Value))) (μ : Loc) (σ : Hp) (Q : List (Str × AV) → Loc → Hp → Prop) : Prop := W c t μ σ (PQ Q)
theorem EVp_nil {pos : Pos} {Q : List (Str × AV) → Loc → Hp → Prop} (h : Q [] μ σ) : EVp c (evalPairs (pairTrees [] [] env pos)) μ σ Q := fun s F S => pairTrees_nil_walk ⟨μ, σ, F, S, [], rfl, rfl, h⟩
theorem EVp_cons {k v : Expr} {ks : List (Option Expr)} {vs : List Expr} {pos : Pos} {Q : List (Str × AV) → Loc → Hp → Prop}
    (h : EV c (eval k env) μ σ fun y μ σ => ∃ n, y = .str n ∧ EV c (eval v env) μ σ fun x μ σ => EVp c (evalPairs (pairTrees ks vs env pos)) μ σ fun xs μ σ => Q ((n, x) :: xs) μ σ) : EVp c (evalPairs (pairTrees (some k :: ks) (v :: vs) env pos)) μ σ Q := fun s F S =>
  pairTrees_cons_walk (h.run F S fun a y s₁ μ₁ σ₁ F₁ S₁ ha h₁ => by
    obtain ⟨n, rfl, h₁⟩ := h₁
    obtain ⟨t, rfl⟩ := av_str ha
    exact h₁.run F₁ S₁ fun b x s₂ μ₂ σ₂ F₂ S₂ hb h₂ => W.run h₂ F₂ S₂ fun r s₃ μ₃ σ₃ F₃ S₃ h₃ => by
      obtain ⟨xs, h1, h2, q⟩ := h₃
      exact ⟨μ₃, σ₃, F₃, S₃, (n, x) :: xs, by simp [allStrKeys, h1], by unfold kvs at *; simp [strPairs, h2, hb], q⟩)
theorem E_DictS {keys : List (Option Expr)} {values : List Expr} {pos : Pos}
    (h : ∀ d, σ d = none → EVp c (evalPairs (pairTrees keys values env pos)) μ (σ.set d (.sdict [])) fun xs μ σ => σ d = some (.sdict []) ∧ (xs.map (·.1)).Nodup ∧ Q (.ref d) μ (σ.set d (.sdict xs)))
    (hall : keys.all (·.isSome) = true := by rfl) (hl : keys.length = values.length := by rfl) (h0 : keys ≠ [] := by simp) (hlen : keys.length ≤ 15 := by exact Nat.le_of_ble_eq_true rfl) : EV c (eval (.Dict keys values pos) env) μ σ Q := fun s F S => by
  have F0 : FRep G c.base c.L μ (σ.set s.heap.objs.size (.sdict [])) (s.heap.push { cls := .type "dict", data := .dict #[] }) := F.newObj (o := .sdict []) rfl rfl (fun h' δ e => newDict_conc_s e)
  refine wpAny_Dict_walk (knd := strKind G.prog G.w) hall hl h0 hlen (W.run (h _ F.fresh.2) (s := { s with heap := s.heap.push { cls := .type "dict", data := .dict #[] } }) F0 S fun vs s₁ μ₁ σ₁ F₁ S₁ h₁ => ?_)
  obtain ⟨xs, h1, h2, hd, hn, q⟩ := h₁
  obtain ⟨kv, hm, hv⟩ := F₁.sdict hd
  have hkv : kv = [] := by
    have := kvs_len hv
    cases kv with
    | nil => rfl
    | cons _ _ => cases this
  subst hkv
  refine display_done_str h1 (by rw [kvs_keys h2]; exact hn) hm fun h' hm' hs' => ?_
  exact ⟨μ₁, _, F₁.sturn hd hs' hm' h2, S₁, _, rfl, q⟩

/-! a for over the keys of a dict, that stands aside meanwhile -/
/-- the abstract heap without an object -/
noncomputable def Hp.del (σ : Hp) (a : Addr) : Hp := fun b => if b = a then none else σ b
theorem Hp.del_ne {σ : Hp} {a b : Addr} (h : b ≠ a) : (σ.del a) b = σ b := by simp [Hp.del, h]
theorem Hp.del_self (σ : Hp) (a : Addr) : (σ.del a) a = none := by simp [Hp.del]
/-- a dict of the base read -/
theorem I_idictB {d : Addr} {xs : List (Int × AV)} {kv : List (Int × Value)} {k : Int} {x : AV} (hd : c.base.DictOf (intKind G.prog G.w) d kv) (hv : kvs kv xs) (hk : keyAt xs k = some x) (h : Q x μ σ) : GetItem c (.ref d) (.int k) μ σ Q := fun a b s ha hb F S => by
  cases av_ref ha
  obtain ⟨t, rfl⟩ := av_int hb
  have hm : s.heap.DictOf (intKind G.prog G.w) d kv := Heap.DictOf.keep hd F.keep
  obtain ⟨v, h1, h2⟩ := at_some hv hk
  exact ⟨⟨_, _, hm.typeIs, PySem.slot_dict_getitem.lookup⟩, wpAny_getItem_of (ik _ _ k t) hm.mapOf h1 ⟨μ, σ, F, S, x, h2, h⟩⟩

theorem FRep.toBase {base h : Heap} {L d : Addr} {o : AObj} (F : FRep G base L μ σ h) (hd : σ d = some o) (i : o.isInst = false) : base.get? d = none ∧ ∃ b, base.StaysIn b ∧ FRep G b L μ (σ.del d) h ∧ b.get? d = h.get? d := by
  obtain ⟨k, off, lc, δ, Y, ap⟩ := F
  have sub : ∀ a x, (σ.del d) a = some x → a ≠ d ∧ σ a = some x := fun a x e => by
    by_cases z : a = d
    · rw [z, Hp.del_self] at e; cases e
    · rw [Hp.del_ne z] at e; exact ⟨z, e⟩
  have Y' : Lay G base (σ.del d) h δ := Y.sub fun a x e => (sub a x e).2
  have hdL : d ≠ L := fun z => ap d o hd (.inl z.symm)
  have hdf : ¬ Foot (σ.del d) δ d := fun ⟨a, x, q, hb⟩ => (sub a x q).1 (Y.disj (sub a x q).2 hd hb (.inl rfl))
  refine ⟨Y.off d o d hd (.inl rfl), hideP h fun y => Foot (σ.del d) δ y ∨ y = L, fun y x e => ?_, ⟨fun y x e => (of_hideP e).1, hideP_in (.inr rfl), lc, δ, ⟨Y'.lo, Y'.conc, fun a x y e hy => hideP_in (.inl ⟨a, x, e, hy⟩), Y'.apart, Y'.inj⟩, fun a x e hb => ap a x (sub a x e).2 hb⟩, ?_⟩
  · rw [hideP_out, k y x e]
    rintro (⟨a, oa, q, hb⟩ | rfl)
    · rw [Y'.off a oa y q hb] at e; cases e
    · rw [off] at e; cases e
  · rw [hideP_out]
    rintro (z | z)
    · exact hdf z
    · exact hdL z
theorem FRep.ofBaseO {base b h : Heap} {L D : Addr} {x : Obj} {o : AObj} (F : FRep G b L μ σ h) (st : base.StaysIn b) (hD : b.get? D = some x) (hDb : base.get? D = none) (i : o.isInst = false) (lo : o.isDict = true → 3 < D) (hc : ∀ δ, Conc G h δ D o) :
    σ D = none ∧ FRep G base L μ (σ.set D o) h := by
  have F0 := F.unbase st
  obtain ⟨k, off, lc, δ, Y, ap⟩ := F
  have hL : D ≠ L := fun z => by rw [z, off] at hD; cases hD
  have hout : ¬ Foot σ δ D := fun ⟨a, o, q, hb⟩ => by rw [Y.off a o D q hb] at hD; cases hD
  have eσ : σ D = none := by
    cases q : σ D with
    | none => rfl
    | some o => exact absurd ⟨D, o, q, .inl rfl⟩ hout
  refine ⟨eσ, F0.keep, F0.off, F0.loc, δ, ⟨fun a oo q ni => ?_, fun a oo q => ?_, fun a oo y q hy => ?_, fun a oo q ii => ?_, fun a a' oo o' q q' ii i' r => ?_⟩, fun a oo q hb => ?_⟩
  · by_cases z : a = D
    · subst z; rw [Hp.set_self] at q; cases q; exact lo ni
    · rw [Hp.set_ne z] at q; exact Y.lo _ _ q ni
  · by_cases z : a = D
    · subst z; rw [Hp.set_self] at q; cases q; exact hc δ
    · rw [Hp.set_ne z] at q; exact Y.conc _ _ q
  · by_cases z : a = D
    · subst z; rw [Hp.set_self] at q; cases q
      rcases hy with rfl | ⟨w, _⟩
      · exact hDb
      · rw [i] at w; cases w
    · rw [Hp.set_ne z] at q
      cases w : base.get? y with
      | none => rfl
      | some x => have := Y.off a oo y q hy; rw [st _ _ w] at this; cases this
  · by_cases z : a = D
    · subst z; rw [Hp.set_self] at q; cases q; rw [i] at ii; cases ii
    · rw [Hp.set_ne z] at q
      have : δ a ≠ D := fun w => hout ⟨a, oo, q, .inr ⟨ii, w.symm⟩⟩
      rw [Hp.set_ne this]; exact Y.apart _ _ q ii
  · have g : ∀ a oo, (σ.set D o) a = some oo → oo.isInst = true → σ a = some oo := fun a oo q ii => by
      by_cases z : a = D
      · subst z; rw [Hp.set_self] at q; cases q; rw [i] at ii; cases ii
      · rwa [Hp.set_ne z] at q
    exact Y.inj a a' oo o' (g _ _ q ii) (g _ _ q' i') ii i' r
  · by_cases z : a = D
    · subst z; rw [Hp.set_self] at q; cases q
      rcases hb with w | ⟨w, _⟩
      · exact hL w.symm
      · rw [i] at w; cases w
    · rw [Hp.set_ne z] at q; exact ap _ _ q hb

theorem S_ForDict {target iter : Expr} {body : List Stmt} {pos : Pos}
    (h : EV c (eval iter env) μ σ fun v μ σ => ∃ d xs, ∃ I : List (Int × AV) → Loc → Hp → Prop, v = .ref d ∧ σ d = some (.idict xs) ∧ I xs μ (σ.del d) ∧
      (∀ b hb kv x r μ σ, b.DictOf (intKind G.prog G.w) d kv → kvs kv xs → I (x :: r) μ σ → (∃ n p, target = .Name n p) ∧ Asg (c.rebase b hb) target env (.int x.1) μ σ fun μ σ => SV (c.rebase b hb) (execs body env) μ σ (TurnP (I r) fun f μ σ => f = .next ∧ I [] μ σ)) ∧
      ∀ μ σ, I [] μ σ → P .next μ (σ.set d (.idict xs)))
    (hs : ∀ x, foldedSetIterable iter env x = pure x := by intro _; rfl) : SV c (exec (.For target iter body [] pos) env) μ σ P := fun s F S => by
  refine wpAny_For (h.run F S fun a x s₁ μ₁ σ₁ F₁ S₁ ha h₁ => ?_) hs
  obtain ⟨d, xs, I, rfl, hd, hI, turn, done⟩ := h₁
  cases av_ref ha
  obtain ⟨kv, hm, hv⟩ := F₁.idict hd
  obtain ⟨ep, hat⟩ := hm.dictAt
  have lo : 3 < d := by obtain ⟨δ, Y, _⟩ := F₁.lay; exact Y.lo d _ hd rfl
  have hlo := F₁.lo hd rfl
  refine wpAny_pyIter_dict hlo hat ?_
  -- the dict and its iterator go aside
  obtain ⟨edb, b0, st0, F0, g0⟩ := F₁.toBase hd rfl
  obtain ⟨oD, hoD⟩ : ∃ oD, s₁.heap.get? d = some oD := let ⟨o, _, ho, _⟩ := hat; ⟨o, ho⟩
  obtain ⟨eb0, b, st, F₂, ei⟩ := FRep.newBase (c := c.rebase b0 st0) F0 (o' := { cls := .type "dict_keyiterator", data := .fields #[.ref d, .int 0 0, .int kv.length 0, .int ep 0] }) rfl
  replace eb0 : b0.get? s₁.heap.objs.size = none := eb0
  replace st : b0.StaysIn b := st
  have ebit : c.base.get? s₁.heap.objs.size = none := by
    cases q : c.base.get? s₁.heap.objs.size with
    | none => rfl
    | some o => rw [st0 _ _ q] at eb0; cases eb0
  have stb : c.base.StaysIn b := fun y o q => st y o (st0 y o q)
  have hdb : b.get? d = some oD := st _ _ (g0.trans hoD)
  have hne : s₁.heap.objs.size ≠ d := fun z => by rw [z] at eb0; rw [g0, hoD] at eb0; cases eb0
  refine codeAny_forLoop_any (fun k s' => ∃ i μ σ b, k = xs.length - i ∧ i ≤ xs.length ∧ I (xs.drop i) μ σ ∧ c.base.StaysIn b ∧ FRep G b c.L μ σ s'.heap ∧ Still G s' ∧ b.get? d = some oD ∧ b.IsKeyIter s₁.heap.objs.size d i kv.length ep) ?_ xs.length
    ⟨0, μ₁, σ₁.del d, b, rfl, Nat.zero_le _, hI, stb, F₂, S₁, hdb, ⟨_, ei, rfl, rfl⟩⟩
  rintro k s' ⟨i, μ', σ', b, rfl, hi, hI', st', F', S', hdb', hit⟩
  have hatB : ∀ H : Heap, H.get? d = some oD → H.DictAt (intKind G.prog G.w) d kv ep := fun H e => by
    obtain ⟨o, es, ho, r⟩ := hat
    rw [hoD] at ho; cases ho
    exact ⟨oD, es, e, r⟩
  have hat' := hatB s'.heap (F'.keep _ _ hdb')
  have hit' : s'.heap.IsKeyIter s₁.heap.objs.size d i kv.length ep := let ⟨o, ho, r⟩ := hit; ⟨o, F'.keep _ _ ho, r⟩
  obtain ⟨oi, hoi, hoi2⟩ := hit
  have hlen := kvs_len hv
  rcases Nat.lt_or_ge i xs.length with q | q
  · have hk : kv[i]? = some (kv[i]'(by omega)) := List.getElem?_eq_getElem (by omega)
    have e1 : (kv[i]'(by omega)).1 = xs[i].1 := by
      have := congrArg (·[i]?) (kvs_keys hv)
      simp only [List.getElem?_map, hk, List.getElem?_eq_getElem q, Option.map_some] at this
      exact Option.some.inj this
    refine wpAny_pyNext_dict_item hit' hat' (k := (kv[i]'(by omega)).1) (v := (kv[i]'(by omega)).2) hk fun key h' hkey hit2 hs' => ?_
    obtain ⟨o2, ho2, ho2'⟩ := id hit2
    obtain ⟨b2, st2, F2, kb2, eb2⟩ := F'.turnBase' st' hoi ebit hs'.extBut
    rw [ho2] at eb2
    have hd2 : b2.get? d = some oD := kb2 _ _ (Ne.symm hne) hdb'
    have hd' : xs.drop i = xs[i] :: xs.drop (i + 1) := List.drop_eq_getElem_cons q
    rw [hd'] at hI'
    obtain ⟨⟨n, p, rfl⟩, asg⟩ := turn b2 st2 kv _ _ _ _ (hatB b2 hd2).dictOf hv hI'
    refine wpAny_of_eq rfl ?_
    have hav : av key = some (.int xs[i].1) := by
      obtain ⟨t, rfl⟩ := Value.isInt_shape (k := (kv[i]'(by omega)).1) (v := key) hkey
      rw [e1]; rfl
    refine wpAny_mono (W.run (c := c.rebase b2 st2) (asg key hav) F2 S' fun _ s₃ μ₃ σ₃ F₃ S₃ h₃ => ?_) (fun _ _ z => z) (fun _ _ z => z.elim)
    refine wpAny_mono (W.run (c := c.rebase b2 st2) h₃ F₃ S₃ fun fl s₄ μ₄ σ₄ F₄ S₄ h₄ => ?_) (fun _ _ z => z) (fun _ _ z => z.elim)
    obtain ⟨y, ey, hy⟩ := h₄
    have again : I (xs.drop (i + 1)) μ₄ σ₄ → ∃ m, m < xs.length - i ∧ ∃ i μ σ b, m = xs.length - i ∧ i ≤ xs.length ∧ I (xs.drop i) μ σ ∧ c.base.StaysIn b ∧ FRep G b c.L μ σ s₄.heap ∧ Still G s₄ ∧ b.get? d = some oD ∧ b.IsKeyIter s₁.heap.objs.size d i kv.length ep := fun z =>
      ⟨xs.length - (i + 1), by omega, i + 1, μ₄, σ₄, b2, rfl, q, z, st2, F₄, S₄, hd2, ⟨o2, eb2, ho2'⟩⟩
    cases fl with
    | next => cases ey; exact again hy
    | cont => cases ey; exact again hy
    | brk =>
      cases ey
      have hc : ∀ δ, Conc G s₄.heap δ d (.idict xs) := fun δ => by
        obtain ⟨o, h1, h2⟩ := Heap.dictOf_iff.mp (hatB s₄.heap (FRep.keep F₄ _ _ hd2)).dictOf
        exact ⟨o, kv, h1, h2, hv⟩
      obtain ⟨_, F5⟩ := FRep.ofBaseO (base := c.base) F₄ st2 hd2 edb (o := .idict xs) rfl (fun _ => lo) hc
      exact ⟨μ₄, _, F5, S₄, .next, rfl, done _ _ hy.2⟩
    | ret u =>
      have e' : (av u).map AF.ret = some y := ey
      cases hu' : av u with
      | none => rw [hu'] at e'; cases e'
      | some z => rw [hu'] at e'; cases e'; cases hy.1
  · rw [List.drop_of_length_le q] at hI'
    refine wpAny_pyNext_dict_end c.ok.hd hit' hat' (by rw [List.getElem?_eq_none]; omega) fun h' hs' => ?_
    refine wpAny_execs_nil ?_
    obtain ⟨b2, st2, F2, kb2, _⟩ := F'.turnBase' st' hoi ebit hs'
    have hd2 : b2.get? d = some oD := kb2 _ _ (Ne.symm hne) hdb'
    have hc : ∀ δ, Conc G h' δ d (.idict xs) := fun δ => by
      obtain ⟨o, h1, h2⟩ := Heap.dictOf_iff.mp (hatB h' (F2.keep _ _ hd2)).dictOf
      exact ⟨o, kv, h1, h2, hv⟩
    obtain ⟨_, F5⟩ := F2.ofBaseO (base := c.base) st2 hd2 edb (o := .idict xs) rfl (fun _ => lo) hc
    exact ⟨μ', _, F5, S', .next, rfl, done _ _ hI'⟩
end Mine
end

section
open PySem PySem.W PySem.Calls PyProof.Rows
namespace Mine
variable {G : Gx} {c : Cx G} {μ : Loc} {σ : Hp} {env : Env} {Q : AV → Loc → Hp → Prop} {P : AF → Loc → Hp → Prop} {R : Loc → Hp → Prop}

/-! cells -/
theorem E_cell {x : Str} {pos : Pos} {v : Value} {y : AV} {ca : Addr} {o : Obj} (hc : env.cells.lookup x = some ca) (ho : c.base.get? ca = some o) (hd : o.data = .cell (some v)) (hv : av v = some y) (h : Q y μ σ) (hk : env.scope.kind = .function := by rfl) (hl : env.kindOf x = some .cell := by rfl)
    (hb : (x == ("__debug__" : Str)) = false := by decide) : EV c (eval (.Name x pos) env) μ σ Q := fun s F S =>
  wpAny_Name (wpAny_loadName_cell hk hl hc ⟨o, F.keep _ _ ho, hd⟩ ⟨μ, σ, F, S, y, hv, h⟩) hb

theorem E_ListCompC {elt target iter : Expr} {ifs : List Expr} {scope : Scope} {pos : Pos} {cl : List (Str × Addr)} (hclos : closureFor scope env = pure cl)
    (h : EV c (eval iter env) μ σ fun v μ σ => CompOf c elt target ifs (relabel scope env) cl env v μ σ fun a μ σ => Q (.ref a) μ σ)
    (hcell : ∀ x ∈ scope.names, x.2 ≠ .cell) (hnames : ∀ x ∈ scope.names, x.2 = .local → scope.names.lookup x.1 = some .local) (hkind : scope.kind = .function := by rfl)
    (hs : ∀ x, foldedSetIterable iter env x = pure x := by intro _; rfl) : EV c (eval (.ListComp elt [⟨target, iter, ifs, 0⟩] scope pos) env) μ σ Q := fun s F S => by
  rw [eval_ListComp]
  refine wpAny_comprehension_free (use := none) (g := ⟨target, iter, ifs, 0⟩) (gs := []) rfl hs hclos hkind hnames (h.run F S fun a x s₁ μ₁ σ₁ F₁ S₁ ha h₁ => ?_)
  refine wpAny_mono (comp_way (iter := iter) (pos := pos) (K := fun acc r s' => ∃ m, s'.heap.Ns (s₁.heap.objs.size + 2) m ∧ ∀ h', Heap.SameBut (s₁.heap.objs.size + 2) s'.heap h' → r = .ok .next ∧ ∃ μ' σ', FRep G c.base c.L μ' σ' h' ∧ Still G s' ∧ VQ Q acc μ' σ') F₁ S₁ ha h₁ hcell hkind (fun D C s' hC hCL hCb S' hσ eC => ?_)) (fun it s₂ h₂ => wpAny_mono h₂ (fun acc s₃ h₃ => wpAny_mono h₃ (fun cenv s₄ h₄ => ?_) fun _ _ z => z) fun _ _ z => z) fun _ _ z => z
  · subst eC
    obtain ⟨m, hm⟩ := hC
    obtain ⟨σ', b2, o, hR, st2, F2, g2⟩ := hσ
    exact ⟨m, hm, fun h' hs' => ⟨rfl, μ₁, σ', F2.dropBase st2 g2 hCb hs'.extBut, S', _, rfl, hR⟩⟩
  · obtain ⟨eC, hc⟩ := h₄
    refine codeAny_mono hc fun r s' z => ?_
    rw [eC]
    obtain ⟨m, hm, hh⟩ := z
    cases r with
    | ok f =>
      refine ⟨m, hm, fun h' hs' => ?_⟩
      obtain ⟨_, μ', σ', F', S', q⟩ := hh h' hs'
      exact ⟨μ', σ', F', S', q⟩
    | error x =>
      obtain ⟨e, _⟩ := hh s'.heap ⟨rfl, fun _ _ => rfl⟩
      cases e

/-- entering a def whose one cell is its one parameter -/
theorem Fn.enterC {n : Nat} {f : Addr} {x : AV} {Q : AV → Hp → Prop} {p name qual : Str} {params : Arguments} {body : List Stmt} {scope : Scope} {dV kV doc pm cdv ct oc : Value} {an od : Option Addr} {osl : Array (Option Value)}
    (ho : G.K.lookup f = some ⟨oc, od, .func (fnOf name qual params body scope dV kV doc pm an cdv ct), osl⟩) (hcd : codeIn G.K cdv qual = true)
    (hb : ∀ v, av v = some x → ∀ s : Shared, BindsTo s (fnOf name qual params body scope dV kV doc pm an cdv ct) ⟨[v], []⟩ [(p, v)])
    (hl : scope.names.lookup p = some .cell) (hce : ∀ n, cellsFrom n scope.names [] = [(p, n)])
    (h : ∀ c : Cx G, c.n = n → ∀ v o, av v = some x → c.base.get? (c.L + 1) = some o → o.data = .cell (some v) → SV c (execs body (envOfC qual scope c.L f cdv)) [] σ fun fl _ σ => match fl with | .ret x => Q x σ | _ => Q .none σ)
    (hco : scope.isCoroutine = false := by rfl) (hgen : scope.isGenerator = false := by rfl) (hk : scope.kind = .function := by rfl) : Fn G (n + 1) f [x] σ Q := fun A base s vs aok bok sz hx R S => by
  have X : G.K.In s.heap := bok.X.keeps R.keep
  obtain ⟨v, rfl, hv⟩ := avs1 hx
  refine codeAny_call_function aok.room (X _ _ ho) rfl hco hgen rfl (codeRec_of X hcd) (hb v hv s _ _ _ _ ?_)
  refine wpAny_newFunctionEnv_cells hk (fun y hy => ?_) fun env' he s' z => ?_
  · cases List.mem_singleton.mp hy
    exact .inr ⟨hl, by rw [hce]; simp⟩
  subst he
  refine ⟨(bok.T.nolimit.keeps R.keep).keeps z.toInCall.keep, codeAny_func ?_⟩
  obtain ⟨h₁, tk, rfl, hdone⟩ := z.done
  have hk₁ := z.toInCall.keep
  have hns := z.toInCall.ns
  have hcell := z.cell p (s.heap.objs.size + 1) (by show List.lookup p (cellsFrom _ scope.names []) = _; rw [hce]; simp)
  have none_ : ∀ y, s.heap.objs.size ≤ y → s.heap.get? y = none := fun y hy => by
    cases q : s.heap.get? y with
    | none => rfl
    | some o => exact absurd (Heap.lt_size q) (Nat.not_lt.mpr hy)
  have hlk : (envOfC qual scope s.heap.objs.size f cdv).kindOf p = some .cell := hl
  have hm0 : ∀ y, (bindL (envOfC qual scope s.heap.objs.size f cdv).kindOf [(p, v)] (fun _ => none) y).map av = (List.lookup y ([] : Loc)).map some := fun y => by
    unfold bindL bindL
    rw [hlk]; rfl
  obtain ⟨b, stb, F, gb⟩ := R.frame (μ := []) (C := s.heap.objs.size) hk₁ hns hm0 (none_ _ (Nat.le_refl _))
  let c : Cx G := ⟨A.deeper (envOfC qual scope s.heap.objs.size f cdv), b, s.heap.objs.size, n, aok.deeper _, bok.keeps stb, base, bok, sz, stb⟩
  obtain ⟨o, ho1, ho2⟩ := hcell
  have e1 : b.get? (s.heap.objs.size + 1) = some o := by rw [gb _ (none_ _ (by omega)) (neA (by omega))]; exact ho1
  have hcv : bindC (envOfC qual scope s.heap.objs.size f cdv).kindOf [(p, v)] (fun _ => none) p = some v := by
    unfold bindC bindC
    rw [hlk]; simp
  refine wpAny_mono (h c rfl v o hv e1 (by rw [ho2]; exact congrArg _ hcv) { s with heap := h₁, toks := tk } F S) (fun fl s' z => ?_) fun _ _ e => e.elim
  obtain ⟨μ', σ', F', S', x, e, q⟩ := z
  have RB : Rep G base σ' s'.heap := (FRep.unbase F' stb).toRep
  cases fl with
  | ret v =>
    have e' : (av v).map AF.ret = some x := e
    cases hv : av v with
    | none => rw [hv] at e'; cases e'
    | some y => rw [hv] at e'; cases e'; exact ⟨v, y, σ', rfl, hv, RB, S', q⟩
  | next => cases e; exact ⟨.none, .none, σ', rfl, rfl, RB, S', q⟩
  | brk => cases e; exact ⟨.none, .none, σ', rfl, rfl, RB, S', q⟩
  | cont => cases e; exact ⟨.none, .none, σ', rfl, rfl, RB, S', q⟩
end Mine
end

section
open PySem PySem.W PySem.Calls PyProof.Rows
namespace Mine
variable {G : Gx} {c : Cx G} {μ : Loc} {σ : Hp} {env : Env} {Q : AV → Loc → Hp → Prop} {P : AF → Loc → Hp → Prop} {R : Loc → Hp → Prop}
/-- a bound method read -/
theorem A_bound {a C f : Addr} {at' : Loc} {name : Str} (ha : σ a = some (.inst C at')) (hx : at'.lookup name = none) (hf : findIn G.K (.ref C) name = some (some (.ref f))) (ht : isFn G.K (.ref f) = true)
    (hg : specialIn G.K (.ref f) "__get__" = some (some (.builtin "function.__get__"))) (hk : takesIn G.K (.ref f) = some false) (hc : copiedNames.contains name = false)
    (h : ∀ q, σ q = none → Q (.ref q) μ (σ.set q (.meth f a))) : AttrOf c (.ref a) name μ σ Q := fun v b hv s F S => by
  cases av_ref hv
  obtain ⟨δ, Y, ap⟩ := id F.lay
  obtain ⟨es, n, h1, h2, h3, cf, _⟩ := Y.conc _ _ ha
  have g := getL_attr (name := name) h3
  rw [hx] at g
  have I : InstAt s.heap a (instObj C (δ a)) C (some (dictOf es n)) := ⟨h1, rfl, rfl, h2⟩
  refine get_bind F.X I cf.get (findObj_fn cf.dict hf hg hk hc (by show lookIn name (dictOf es n) = _; rw [lookIn_dict, g])) cf.get2
    (wpAny_call (fn_get (s := { s with toks := s.toks + 1 }) F.X (beq_iff_eq.mp ht) (handed_on rfl ?_)))
  have F' : FRep G c.base c.L μ σ ({ s with toks := s.toks + 1 } : Shared).heap := F
  exact ⟨μ, _, F'.newObj (o := .meth f a) rfl rfl (fun h' δ e => e), S, _, rfl, h _ F.fresh.2⟩
end Mine
end

section
open PySem PySem.W PySem.Calls PyProof.Rows
namespace Mine
variable {G : Gx} {c : Cx G} {μ : Loc} {σ : Hp} {env : Env} {Q : AV → Loc → Hp → Prop} {P : AF → Loc → Hp → Prop} {R : Loc → Hp → Prop}

/-! tests of three -/
section
variable {T : Bool → Loc → Hp → Prop}
theorem T_And3 {x y z : Expr} {pos : Pos} {w : Sem Value} (h : TV c x env μ σ fun b μ σ => if b then TV c y env μ σ fun b μ σ => if b then TV c z env μ σ T else T false μ σ else T false μ σ) : W c (isTrue (.BoolOp .And [x, y, z] pos) env w) μ σ T := fun s F S =>
  wpAny_isTrue_BoolOp (wpAny_allTrue_And_cons (h.run F S fun b s₁ μ₁ σ₁ F₁ S₁ h₁ => by
    cases b
    · exact ⟨μ₁, σ₁, F₁, S₁, h₁⟩
    · exact wpAny_allTrue_And_cons (W.run h₁ F₁ S₁ fun b s₂ μ₂ σ₂ F₂ S₂ h₂ => by
        cases b
        · exact ⟨μ₂, σ₂, F₂, S₂, h₂⟩
        · exact wpAny_allTrue_And_cons (W.run h₂ F₂ S₂ fun b s₃ μ₃ σ₃ F₃ S₃ h₃ => by
            cases b
            · exact ⟨μ₃, σ₃, F₃, S₃, h₃⟩
            · exact wpAny_allTrue_And_nil ⟨μ₃, σ₃, F₃, S₃, h₃⟩))))
theorem T_Or3 {x y z : Expr} {pos : Pos} {w : Sem Value} (h : TV c x env μ σ fun b μ σ => if b then T true μ σ else TV c y env μ σ fun b μ σ => if b then T true μ σ else TV c z env μ σ T) : W c (isTrue (.BoolOp .Or [x, y, z] pos) env w) μ σ T := fun s F S =>
  wpAny_isTrue_BoolOp (wpAny_allTrue_Or_cons (h.run F S fun b s₁ μ₁ σ₁ F₁ S₁ h₁ => by
    cases b
    · exact wpAny_allTrue_Or_cons (W.run h₁ F₁ S₁ fun b s₂ μ₂ σ₂ F₂ S₂ h₂ => by
        cases b
        · exact wpAny_allTrue_Or_cons (W.run h₂ F₂ S₂ fun b s₃ μ₃ σ₃ F₃ S₃ h₃ => by
            cases b
            · exact wpAny_allTrue_Or_nil ⟨μ₃, σ₃, F₃, S₃, h₃⟩
            · exact ⟨μ₃, σ₃, F₃, S₃, h₃⟩)
        · exact ⟨μ₂, σ₂, F₂, S₂, h₂⟩)
    · exact ⟨μ₁, σ₁, F₁, S₁, h₁⟩))
end

/-! keys that are a str or an int -/
noncomputable def mixIs : Str ⊕ Int → Value → Bool
  | .inl s, v => Value.isStrOf s v
  | .inr i, v => Value.isInt i v
theorem mixIs_inj (v : Value) (a b : Str ⊕ Int) (ha : mixIs a v = true) (hb : mixIs b v = true) : a = b := by
  cases a with
  | inl s =>
    obtain ⟨t, rfl⟩ := Value.isStrOf_shape ha
    cases b with
    | inl s' => rw [Value.isStrOf_inj (.str s t) s s' ha hb]
    | inr i => cases hb
  | inr i =>
    obtain ⟨t, rfl⟩ := Value.isInt_shape ha
    cases b with
    | inl s' => cases hb
    | inr j => rw [Value.isInt_inj (.int i t) i j ha hb]
theorem mix_eqBool {prog : Program} {w : World} {A : Around} {E : Value → Shared → Prop} {s : Shared} {a b : Str ⊕ Int} {u v : Value} {Q : Bool → Shared → Prop} (hu : mixIs a u = true) (hv : mixIs b v = true) (h : Q (decide (a = b)) s) : wpAny (model prog w) A (PySem.eqBool u v) Q E s := by
  cases a with
  | inl x =>
    obtain ⟨t, rfl⟩ := Value.isStrOf_shape hu
    cases b with
    | inl y =>
      obtain ⟨t', rfl⟩ := Value.isStrOf_shape hv
      refine wpAny_eqBool_str ?_
      rw [show decide (x = y) = decide ((Sum.inl x : Str ⊕ Int) = Sum.inl y) by simp]; exact h
    | inr j =>
      obtain ⟨t', rfl⟩ := Value.isInt_shape hv
      exact PySem.SeqAt.EqAt.str_int _ _ _ _ _ _ _ _ (by simpa using h)
  | inr i =>
    obtain ⟨t, rfl⟩ := Value.isInt_shape hu
    cases b with
    | inl y =>
      obtain ⟨t', rfl⟩ := Value.isStrOf_shape hv
      exact PySem.SeqAt.EqAt.int_str _ _ _ _ _ _ _ _ (by simpa using h)
    | inr j =>
      obtain ⟨t', rfl⟩ := Value.isInt_shape hv
      refine wpAny_eqBool_int ?_
      have e : (i == j) = decide ((Sum.inr i : Str ⊕ Int) = Sum.inr j) := by
        by_cases q : i = j
        · subst q; simp
        · rw [beq_false_of_ne q]; simp [q]
      rw [e]; exact h
noncomputable def mixHash (w : World) : Str ⊕ Int → Int
  | .inl s => hashStr w s
  | .inr i => hashInt i
theorem mix_pyHash {prog : Program} {w : World} {A : Around} {E : Value → Shared → Prop} {s : Shared} {k : Str ⊕ Int} {v : Value} {Q : Int → Shared → Prop} (hv : mixIs k v = true) (h : Q (mixHash w k) { s with toks := s.toks + 1 }) : wpAny (model prog w) A (PySem.pyHash v) Q E s := by
  cases k with
  | inl s => obtain ⟨t, rfl⟩ := Value.isStrOf_shape hv; exact wpAny_pyHash_str h
  | inr i => obtain ⟨t, rfl⟩ := Value.isInt_shape hv; exact wpAny_pyHash_int h
theorem mix_strs (k : Str ⊕ Int) (x : Str) (t : Tok) (v : Value) (h : mixIs k (.str x t) = true) : mixIs k v = v.isStr x := by
  cases k with
  | inl s =>
    obtain ⟨u, hu⟩ := Value.isStrOf_shape (x := s) (v := .str x t) h
    injection hu with hx
    subst hx
    cases v <;> rfl
  | inr i => cases h
theorem mix_byValue (k : Str ⊕ Int) (v : Value) (h : mixIs k v = true) : carriedByValue v = true := by
  cases k with
  | inl s => obtain ⟨t, rfl⟩ := Value.isStrOf_shape h; rfl
  | inr i => obtain ⟨t, rfl⟩ := Value.isInt_shape h; rfl
noncomputable def mixKind (prog : Program) (w : World) : KeyKind prog w (Str ⊕ Int) where
  is := mixIs
  hash := mixHash w
  inj := mixIs_inj
  byValue := mix_byValue
  pyHash := fun hv h => mix_pyHash hv h
  eqBool := fun hu hv h => mix_eqBool hu hv h
  «strs» := mix_strs

/-- a new object at a free place -/
theorem FRep.newO {h h' : Heap} {base : Heap} {L D : Addr} {o : AObj} (F : FRep G base L μ σ h) (nd : h.get? D = none) (i : o.isInst = false) (lo : o.isDict = true → 3 < D) (k : ∀ b o, h.get? b = some o → h'.get? b = some o) (hc : ∀ δ, Conc G h' δ D o) :
    σ D = none ∧ FRep G base L μ (σ.set D o) h' := by
  obtain ⟨kk, off, ⟨m, hn, hm⟩, δ, Y, ap⟩ := F
  have eσ : σ D = none := by
    cases q : σ D with
    | none => rfl
    | some o => obtain ⟨y, hy⟩ := (Y.conc _ o q).there G _ (.inl rfl); rw [nd] at hy; cases hy
  have hb : base.get? D = none := by
    cases q : base.get? D with
    | none => rfl
    | some o => rw [kk _ _ q] at nd; cases nd
  have hDL : D ≠ L := fun z => by
    obtain ⟨o, es, ep, ho, _⟩ := hn
    rw [← z, nd] at ho; cases ho
  refine ⟨eσ, fun b y e => k b y (kk b y e), off, ⟨m, hn.keeps k, hm⟩, δ, Y.more nd lo hb i (hc δ) fun _ _ b y _ _ hy => k b y hy, fun b ob q hbb => ?_⟩
  by_cases z : b = D
  · subst z
    rw [Hp.set_self] at q; cases q
    rcases hbb with w | ⟨q, _⟩
    · exact hDL w.symm
    · rw [i] at q; cases q
  · rw [Hp.set_ne z] at q; exact ap b ob q hbb

noncomputable def tkey (k : Str × Int) : List (Str ⊕ Int) := [.inl k.1, .inr k.2]
theorem tkey_inj {a b : Str × Int} (h : tkey a = tkey b) : a = b := by
  unfold tkey at h
  simp only [List.cons.injEq, Sum.inl.injEq, Sum.inr.injEq, and_true] at h
  exact Prod.ext h.1 h.2
noncomputable abbrev TK (G : Gx) := tupleKind (mixKind G.prog G.w)
theorem tkey_conc {h : Heap} {a : Addr} {vs : List Value} {n : Nat} {k : Str × Int} (e : h.get? a = some (tupO vs n)) (hv : avs vs [.str k.1, .int k.2]) : IsTupleKey (mixKind G.prog G.w) h (tkey k) a := by
  obtain ⟨x, r, rfl, h1, hr⟩ := avs_cons hv
  obtain ⟨y, rfl, h2⟩ := avs1 hr
  obtain ⟨t, rfl⟩ := av_str h1
  obtain ⟨u, rfl⟩ := av_int h2
  exact ⟨_, _, n, e, rfl, rfl, .cons (by show Value.isStrOf k.1 (.str k.1 t) = true; simp [Value.isStrOf]) (.cons (by show Value.isInt k.2 (.int k.2 u) = true; simp [Value.isInt]) .nil)⟩
theorem tk_more {prog : Program} {w : World} {K : Type} [DecidableEq K] {knd : KeyKind prog w K} {h h' : Heap} {ks : List K} {a : Addr} (x : IsTupleKey knd h ks a) (k : ∀ b o, h.get? b = some o → h'.get? b = some o) : IsTupleKey knd h' ks a := by
  obtain ⟨o, items, n, h1, h2⟩ := x
  exact ⟨o, items, n, k _ _ h1, h2⟩
noncomputable def TupsAt (σ : Hp) (ts : List Addr) (ks : List (Str × Int)) : Prop := ts.length = ks.length ∧ ∀ (j : Nat) (t : Addr) (k : Str × Int), ts[j]? = some t → ks[j]? = some k → σ t = some (.tup [.str k.1, .int k.2])

/-- what is kept of the dict between two turns -/
noncomputable def DMid (G : Gx) (h0 H : Heap) (D : Addr) (ks : List (Str × Int)) (i : Nat) : Prop :=
  ∃ o es ep, ∃ xs : List (List (Str ⊕ Int) × Addr × Value), H.get? D = some o ∧ o.ExactDict ∧ o.data = .dict es ep ∧ es.toList = xs.map (entryOfKey (TK G)) ∧ xs.map (·.1) = (ks.take i).map tkey ∧ ∀ x ∈ xs, IsTupleKey (mixKind G.prog G.w) h0 x.1 x.2.1
theorem DMid.at {h0 H H' : Heap} {D : Addr} {ks : List (Str × Int)} {i : Nat} (d : DMid G h0 H D ks i) (k : ∀ o, H.get? D = some o → H'.get? D = some o) : DMid G h0 H' D ks i := by
  obtain ⟨o, es, ep, xs, h1, h2⟩ := d
  exact ⟨o, es, ep, xs, k _ h1, h2⟩
theorem nodup_tkey {ks : List (Str × Int)} (h : ks.Nodup) : (ks.map tkey).Nodup := by
  induction ks with
  | nil => exact List.nodup_nil
  | cons k r ih =>
    rw [List.nodup_cons] at h
    rw [List.map_cons, List.nodup_cons]
    refine ⟨fun z => ?_, ih h.2⟩
    obtain ⟨y, hy, e⟩ := List.mem_map.mp z
    exact h.1 (tkey_inj e ▸ hy)

set_option maxHeartbeats 2000000 in
theorem E_DictCompT {x : Str} {px p1 p2 : Pos} {iter : Expr} {scope : Scope} {pos : Pos} {n1 : Nat}
    (h : EV c (eval iter env) μ σ fun v μ σ => ∃ l ts ks, v = .ref l ∧ σ l = some (.list (ts.map .ref)) ∧ TupsAt σ ts ks ∧ ks.Nodup ∧ ks.length ≤ 100000 ∧ ∀ a, σ a = none → Q (.ref a) μ (σ.set a (.tdict ks.length)))
    (hclos : closureFor scope env = pure []) (hcell : ∀ x ∈ scope.names, x.2 ≠ .cell) (hnames : ∀ x ∈ scope.names, x.2 = .local → scope.names.lookup x.1 = some .local) (hx : scope.names.lookup x = some .local)
    (hkind : scope.kind = .function := by rfl) (hd : (x == ("__debug__" : Str)) = false := by decide) (hs : ∀ x, foldedSetIterable iter env x = pure x := by intro _; rfl) :
    EV c (eval (.DictComp (.Name x p1) (.Constant (.bool true) n1 p2) [⟨.Name x px, iter, [], 0⟩] scope pos) env) μ σ Q := fun s F S => by
  rw [arm_eval_DictComp]
  refine wpAny_comprehension_free (use := none) (g := ⟨.Name x px, iter, [], 0⟩) (gs := []) rfl hs hclos hkind hnames (h.run F S fun a v s₁ μ₁ σ₁ F₁ S₁ ha h₁ => ?_)
  obtain ⟨l, ts, ks, rfl, hl, ht, hn, hz, hQ⟩ := h₁
  cases av_ref ha
  obtain ⟨us, n, e, hu⟩ := F₁.listAt hl
  have hlen : us.length = ts.length := by have := avs_len hu; simpa using this
  have lo := size3 c.b F₁.keep
  -- the tuples
  have tup : ∀ i (hi : i < ts.length) (hk : i < ks.length), us[i]? = some (.ref ts[i]) ∧ IsTupleKey (mixKind G.prog G.w) s₁.heap (tkey ks[i]) ts[i] := fun i hi hk => by
    obtain ⟨v, hv, hav⟩ := avs_get hu (k := i) (x := .ref ts[i]) (by rw [List.getElem?_map, List.getElem?_eq_getElem hi]; rfl)
    have := ht.2 i _ _ (List.getElem?_eq_getElem hi) (List.getElem?_eq_getElem hk)
    obtain ⟨vs, m, e1, e2⟩ := F₁.conc this rfl id
    exact ⟨by rw [hv, av_ref hav], tkey_conc e1 e2⟩
  refine wpAny_pyIter_list (items := us.toArray) ⟨_, e, rfl, n, rfl⟩ (wpAny_newObj_type (wpAny_newFunctionEnv hcell (fun _ hx => nomatch hx) (fun h' hns hsb => ?_) hkind))
  simp only [Heap.size_push] at hns hsb ⊢
  have kk : ∀ y o, (((s₁.heap.push { cls := .type "list_iterator", data := .fields #[.ref l, .int 0 0] }).push { cls := .type "dict", data := .dict #[] })).get? y = some o → h'.get? y = some o := fun y o q =>
    hsb.extBut y o (fun z => by have := Heap.lt_size q; rw [z] at this; simp only [Heap.size_push] at this; exact absurd this (Nat.lt_irrefl _)) (Heap.get?_push_of_some _ q)
  have k1 : ∀ y o, s₁.heap.get? y = some o → h'.get? y = some o := fun y o q => kk y o (Heap.get?_push_of_some _ (Heap.get?_push_of_some _ q))
  have hit : h'.get? s₁.heap.objs.size = some { cls := .type "list_iterator", data := .fields #[.ref l, .int 0 0] } := kk _ _ (Heap.get?_push_of_some _ (Heap.get?_push_size _ rfl))
  have hD : h'.get? (s₁.heap.objs.size + 1) = some { cls := .type "dict", data := .dict #[] } := by
    refine kk _ _ ?_
    have := Heap.get?_push_size (s₁.heap.push { cls := .type "list_iterator", data := .fields #[.ref l, .int 0 0] }) (o := { cls := .type "dict", data := .dict #[] }) rfl
    rwa [Heap.size_push] at this
  have old : ∀ y o, s₁.heap.get? y = some o → y ≠ s₁.heap.objs.size ∧ y ≠ s₁.heap.objs.size + 1 ∧ y ≠ s₁.heap.objs.size + 1 + 1 := fun y o q => by
    have h := Heap.lt_size q
    exact ⟨Nat.ne_of_lt h, Nat.ne_of_lt (Nat.lt_succ_of_lt h), Nat.ne_of_lt (Nat.lt_succ_of_lt (Nat.lt_succ_of_lt h))⟩
  have mid0 : DMid G s₁.heap h' (s₁.heap.objs.size + 1) ks 0 := ⟨_, #[], 0, [], hD, ⟨rfl, rfl, rfl⟩, rfl, rfl, by simp, fun _ z => nomatch z⟩
  have fin : ∀ sx : Shared, sx = { s₁ with heap := h', toks := s₁.toks + 0 } → codeAny G.M c.A (.compLoop (.DictComp (.Name x p1) (.Constant (.bool true) n1 p2) [⟨.Name x px, iter, [], 0⟩] scope pos) 0 (.ref s₁.heap.objs.size) (.ref (s₁.heap.objs.size + 1)) (compEnvC scope [] (s₁.heap.objs.size + 1 + 1) env))
      (compPost G.M c.A (fun _ _ => False) none (fun a s' => ∃ μ' σ', FRep G c.base c.L μ' σ' s'.heap ∧ Still G s' ∧ VQ Q a μ' σ') (.ref (s₁.heap.objs.size + 1)) (s₁.heap.objs.size + 1 + 1)) sx := by
    rintro sx rfl
    refine codeAny_compLoop_testsD (fun k s' => ∃ i H tk m, s' = { s₁ with heap := H, toks := tk } ∧ k = ts.length - i ∧ i ≤ ts.length ∧ H.IsListIter s₁.heap.objs.size l i ∧ DMid G s₁.heap H (s₁.heap.objs.size + 1) ks i ∧ H.Ns (s₁.heap.objs.size + 1 + 1) m ∧ ∀ y o, s₁.heap.get? y = some o → H.get? y = some o) ?_ ts.length
      ⟨0, h', _, _, rfl, rfl, Nat.zero_le _, ⟨_, hit, rfl, rfl⟩, mid0, hns, k1⟩
    rintro k s' ⟨i, H, tk, m, rfl, rfl, hi, hit', mid, hn', ko⟩
    have hL' : H.IsList l us.toArray := ⟨_, ko _ _ e, rfl, n, rfl⟩
    rcases Nat.lt_or_ge i ts.length with q | q
    · have qk : i < ks.length := by rw [← ht.1]; exact q
      obtain ⟨ev, tk1⟩ := tup i q qk
      refine wpAny_pyNext_list_item hit' hL' (x := .ref ts[i]) (by simpa using ev) fun h2 hit2 hs2 => ?_
      have n2 : h2.Ns (s₁.heap.objs.size + 1 + 1) m := hn'.sameBut hs2 (neA (by omega))
      refine wpAny_assign_Name (wpAny_storeName_local (lookup_relabel_local hx) n2 (fun h3 hn3 hs3 => ?_) (by simp [compEnvC, relabel, hkind]))
      have hs3 : Heap.SameBut (s₁.heap.objs.size + 1 + 1) h2 h3 := hs3
      have hn3 : h3.Ns (s₁.heap.objs.size + 1 + 1) (fun z => if z = x then some (.ref ts[i]) else m z) := hn3
      simp only [List.forIn_nil]
      refine wpAny_pure ?_
      simp only [if_true]
      refine wpAny_Name (wpAny_loadName_local (by simp [compEnvC, relabel, hkind]) (lookup_relabel_local hx) hn3 (v := .ref ts[i]) (by simp) ?_) hd
      refine wpAny_Constant_bool ?_
      have k3 : ∀ y o, s₁.heap.get? y = some o → h3.get? y = some o := fun y o q => hs3.extBut y o (old y o q).2.2 (hs2.extBut y o (old y o q).1 (ko y o q))
      obtain ⟨o, es, ep, xs, e1, e2, e3, e4, e5, e6⟩ := mid.at (H' := h3) fun o q => hs3.extBut _ o (neA (by omega)) (hs2.extBut _ o (neA (by omega)) q)
      have hdo : h3.DictOfH (TK G) (s₁.heap.objs.size + 1) xs := ⟨o, es, ep, e1, e2, e3, e4, fun x hx => tk_more (e6 x hx) k3, by
        rw [e5]; exact (nodup_tkey hn).sublist ((List.take_sublist _ _).map _)⟩
      have hnew : atKey xs (tkey ks[i]) = none := by
        unfold atKey
        rw [List.find?_eq_none.mpr, Option.map_none]
        intro y hy ey
        have : y.1 ∈ (ks.take i).map tkey := by rw [← e5]; exact List.mem_map_of_mem (f := (·.1)) hy
        rw [of_decide_eq_true ey] at this
        obtain ⟨z, hz, ez⟩ := List.mem_map.mp this
        have := tkey_inj ez
        subst this
        obtain ⟨j, hj, ej⟩ := List.getElem_of_mem hz
        rw [List.getElem_take] at ej
        have hji : j < i := by have := hj; rw [List.length_take] at this; omega
        have := (List.getElem?_inj (i := j) (j := i) (by omega) hn).mp (by rw [List.getElem?_eq_getElem (by omega), List.getElem?_eq_getElem qk, ej])
        omega
      refine wpAny_dictSet_heap (knd := TK G) (k := tkey ks[i]) c.u1 (tk_more tk1 k3) hdo (fun h6 hd6 hs6 => ?_) (by
        have : xs.length = i := by have := congrArg List.length e5; simp at this; omega
        rw [this, sizeLine_eq]; omega)
      rw [storedH_new hnew] at hd6
      obtain ⟨o', es', ep', f1, f2, f3, f4, f5, f6⟩ := hd6
      refine ⟨ts.length - (i + 1), by omega, i + 1, h6, _, _, rfl, rfl, q, ?_, ⟨o', es', ep', _, f1, f2, f3, f4, ?_, fun y hy => ?_⟩, hn3.sameBut hs6 (neA (by omega)), fun y o q => hs6.extBut y o (old y o q).2.1 (k3 y o q)⟩
      · obtain ⟨oi, g1, g2, g3⟩ := hit2
        exact ⟨oi, hs6.extBut _ _ (neA (by omega)) (hs3.extBut _ _ (neA (by omega)) g1), g2, g3⟩
      · rw [List.map_append, e5, List.take_succ_eq_append_getElem qk, List.map_append]; rfl
      · rcases List.mem_append.mp hy with hy | hy
        · exact e6 y hy
        · rw [List.mem_singleton.mp hy]; exact tk1
    · have hi' : i = ks.length := by rw [← ht.1]; omega
      refine wpAny_pyNext_list_end c.ok.hd hit' hL' (by simp [hlen]; omega) fun h2 hs2 => ?_
      have n2 : h2.Ns (s₁.heap.objs.size + 1 + 1) m := by
        obtain ⟨o, es, ep, g1, g2⟩ := hn'
        exact ⟨o, es, ep, hs2 _ _ (neA (by omega)) g1, g2⟩
      refine ⟨m, n2, fun h3 hs3 => ?_⟩
      have k3 : ∀ y o, s₁.heap.get? y = some o → h3.get? y = some o := fun y o q => hs3.extBut y o (old y o q).2.2 (hs2 y o (old y o q).1 (ko y o q))
      obtain ⟨o, es, ep, xs, e1, e2, e3, e4, e5, e6⟩ := mid.at (H' := h3) fun o q => hs3.extBut _ o (neA (by omega)) (hs2 _ o (neA (by omega)) q)
      have hsz : es.size = ks.length := by
        rw [size_of_entries e4]
        have := congrArg List.length e5
        rw [List.length_map, List.length_map, hi', List.take_length] at this
        exact this
      have nD : s₁.heap.get? (s₁.heap.objs.size + 1) = none := by
        cases q : s₁.heap.get? (s₁.heap.objs.size + 1) with
        | none => rfl
        | some o => exact absurd (Heap.lt_size q) (by show ¬ (s₁.heap.objs.size + 1 < s₁.heap.objs.size); omega)
      obtain ⟨g1, g2⟩ := F₁.newO (h' := h3) (o := .tdict ks.length) nD rfl (fun _ => by show 3 < s₁.heap.objs.size + 1; omega) k3 fun δ => ⟨o, es, ep, e1, e2, e3, hsz⟩
      exact ⟨_, _, g2, S₁, _, rfl, hQ _ g1⟩
  exact codeAny_compStart_dict (fin _ rfl) (wpAny_pyIter_listiter (l := l) (i := 0) ⟨_, hit, rfl, rfl⟩ (fin _ rfl))

/-- len of a dict whose keys are not looked at -/
theorem meets_len_t {prog : Program} {w : World} (d : Addr) (hd : (d == sysModules) = false) :
    MeetsIn prog w (Builtin.«dict.__len__» ⟨[.ref d], []⟩) (fun _ R s => ∃ o es ep n, s.heap.get? d = some o ∧ o.data = .dict es ep ∧ es.size = n ∧ R (.ok (.ret (.int n s.toks))) { s with toks := s.toks + 1 }) :=
  .of_wp fun A R s ⟨o, es, ep, n, ho, hdat, hs, h⟩ => by
    show wpAny _ _ (dictSize d >>= _) _ _ s
    unfold dictSize
    refine wpAny_bind (wpAny_bind (wpAny_dictEntries ho hdat (wpAny_pure ?_)))
    show wpAny _ _ (Builtin.Dict.pendingCount d >>= _) _ _ s
    refine wpAny_bind (wpAny_pendingCount_other hd (wpAny_ret_mkInt ?_))
    rw [Nat.add_zero, hs]; exact h
theorem wpAny_len_tdict {A : Around} {E : Value → Shared → Prop} {s : Shared} {d : Addr} {o : Obj} {es : Array DictEntry} {ep : Nat} {n : Nat} {Q : Value → Shared → Prop} (hd : (d == sysModules) = false) (ho : s.heap.get? d = some o) (hc : o.ExactDict) (hdat : o.data = .dict es ep) (hs : es.size = n) (hfit : (n : Int) < 2 ^ 63)
    (h : Q (.int n (s.toks + 1)) { s with toks := s.toks + 1 + 1 }) : wpAny G.M A (call (.builtin "len") [.ref d]) Q E s := by
  have hT : s.TypeIs (.ref d) "dict" := ⟨o, ho, hc.1⟩
  refine Calls.call_function_entry kind_len plain_len entry_len (args_len1 _) ?_
  unfold Builtin.«len»
  refine wpAny_bind (m := oneArg "len" _) (wpAny_pure ?_)
  refine wpAny_bind (m := callSpecial? (.ref d) (Str.ofString "__len__")) (wpAny_callSpecial?_slot (name := Str.ofString "__len__") hT F.slot_dict_len
    (call_meetsIn F.slot_dict_len hT F.entry_dict_len (F.args_dict_len_1 _) (meets_len_t d hd) ⟨o, es, ep, n, ho, hdat, hs, ?_⟩))
  show wpAny _ _ _ _ _ { s with toks := s.toks + 1 }
  refine wpAny_bind (wpAny_holding (wpAny_pure ?_))
  refine wpAny_bind (wpAny_letGo ?_)
  show wpAny _ _ (if ((n : Nat) : Int) < 0 then _ else _) _ _ _
  rw [if_neg (by omega)]
  show wpAny _ _ (if ((n : Nat) : Int) ≥ 2 ^ 63 then _ else _) _ _ _
  rw [if_neg (by omega)]
  exact wpAny_bind (wpAny_mkInt (wpAny_pure ⟨_, rfl, h⟩))
theorem C_lent {d : Addr} {n : Nat} (hd : σ d = some (.tdict n)) (h : Q (.int n) μ σ) (hz : n ≤ 1000000) : Calls c (.bi "len") [.ref d] μ σ Q := fun vf vs hv hx s F S => by
  cases av_bi hv
  obtain ⟨a, rfl, ha⟩ := avs1 hx
  cases av_ref ha
  obtain ⟨o, es, ep, h1, h2, h3, h4⟩ := F.conc hd rfl id
  exact wpAny_len_tdict (F.lo hd rfl) h1 h2 h3 h4 (by omega) ⟨μ, σ, F, S, _, rfl, h⟩
end Mine
end

section
open PySem PySem.W PySem.Calls PyProof.Rows
namespace Mine
/-- the text's own defs, out of its term -/
noncomputable def nthS : List Stmt → Nat → Option Stmt
  | [], _ => none
  | s :: _, 0 => some s
  | _ :: r, i + 1 => nthS r i
noncomputable def asDef (q : Str) : Option Stmt → Option (Str × List Stmt × Scope)
  | some (.FunctionDef _ _ body _ _ _ scope _ _ _) => some (q, body, scope)
  | _ => none
noncomputable def topAt (i : Nat) (q : Str) : Option (Str × List Stmt × Scope) := asDef q (nthS PySem.Challenge.pw_nu0339_01.main.body i)
noncomputable def inAt (i j : Nat) (q : Str) : Option (Str × List Stmt × Scope) := match nthS PySem.Challenge.pw_nu0339_01.main.body i with
  | some (.ClassDef _ _ _ body _ _ _ _ _ _ _) => asDef q (nthS body j)
  | _ => none
/-- at this address stands this def, of these parameters -/
noncomputable def EntOk (K : Frag) (f : Addr) (d : Option (Str × List Stmt × Scope)) (m : Nat) (ps : List Str) (ds : List AV) : Prop :=
  ∃ (name qual : Str) (params : Arguments) (body : List Stmt) (scope : Scope) (dV kV doc pm cdv ct oc : Value) (an od : Option Addr) (osl : Array (Option Value)),
    d = some (qual, body, scope) ∧ K.lookup f = some ⟨oc, od, .func (fnOf name qual params body scope dV kV doc pm an cdv ct), osl⟩ ∧ codeIn K cdv qual = true ∧
    (∀ vs : List Value, vs.length = m → ∀ s : Shared, K.In s.heap → ∃ us, avs us ds ∧ BindsTo s (fnOf name qual params body scope dV kV doc pm an cdv ct) ⟨vs, []⟩ (ps.zip (vs ++ us))) ∧
    ps.all (fun y => scope.names.lookup y == some .local) = true ∧ (∀ x ∈ scope.names, x.2 ≠ .cell) ∧ scope.isCoroutine = false ∧ scope.isGenerator = false ∧ scope.kind = .function
noncomputable def EntC (K : Frag) (f : Addr) (d : Option (Str × List Stmt × Scope)) (p : Str) : Prop :=
  ∃ (name qual : Str) (params : Arguments) (body : List Stmt) (scope : Scope) (dV kV doc pm cdv ct oc : Value) (an od : Option Addr) (osl : Array (Option Value)),
    d = some (qual, body, scope) ∧ K.lookup f = some ⟨oc, od, .func (fnOf name qual params body scope dV kV doc pm an cdv ct), osl⟩ ∧ codeIn K cdv qual = true ∧
    (∀ v : Value, ∀ s : Shared, BindsTo s (fnOf name qual params body scope dV kV doc pm an cdv ct) ⟨[v], []⟩ [(p, v)]) ∧
    scope.names.lookup p = some .cell ∧ (∀ n, cellsFrom n scope.names [] = [(p, n)]) ∧ scope.isCoroutine = false ∧ scope.isGenerator = false ∧ scope.kind = .function
structure MF (K : Frag) (C : Addr) (name : Str) (f : Addr) : Prop where
  fi : findIn K (.ref C) name = some (some (.ref f))
  fn : isFn K (.ref f) = true
  kp : keepIn K (.ref f) = true
  fk : fnIn K f = true
structure Mk (K : Frag) (C f : Addr) : Prop where
  cf : ClsFacts K C
  mkI : makesIn K C = true
  ini : findIn K (.ref C) "__init__" = some (some (.ref f))
  fn : isFn K (.ref f) = true
  kp : keepIn K (.ref C) = true
structure KF (K : Frag) : Prop where
  f42 : EntOk K 42 (inAt 2 1 "CodeBuffer.put") 5 ["self", "name", "a", "b", "c"] []
  cf_buf : ClsFacts K 87
  n_len : nsIn K mainGlobals "len" = some none
  n_range : nsIn K mainGlobals "range" = some none
  n_min : nsIn K mainGlobals "min" = some none
  n_max : nsIn K mainGlobals "max" = some none
  n_list : nsIn K mainGlobals "list" = some none
  n_sorted : nsIn K mainGlobals "sorted" = some none
  f172 : EntOk K 172 (inAt 11 1 "RegisterPool.free") 1 ["self"] []
  f179 : EntOk K 179 (inAt 11 2 "RegisterPool.claim") 3 ["self", "item", "reg"] []
  f201 : EntOk K 201 (inAt 11 5 "RegisterPool.give") 2 ["self", "reg"] []
  f194 : EntOk K 194 (inAt 11 4 "RegisterPool.victim") 2 ["self", "keep"] []
  f255 : EntOk K 255 (inAt 13 4 "Coder.temp") 1 ["self"] []
  f262 : EntOk K 262 (inAt 13 5 "Coder.free_temp") 2 ["self", "offset"] []
  f241 : EntOk K 241 (inAt 13 2 "Coder.frame_size") 1 ["self"] []
  f248 : EntOk K 248 (inAt 13 3 "Coder.reach_out") 2 ["self", "words"] []
  f277 : EntOk K 277 (inAt 13 7 "Coder.spill") 2 ["self", "item"] []
  mb_put : MF K 87 "put" 42
  mp_free : MF K 209 "free" 172
  mp_claim : MF K 209 "claim" 179
  mp_take : MF K 209 "take" 187
  mp_victim : MF K 209 "victim" 194
  mp_give : MF K 209 "give" 201
  mp_held : MF K 209 "held" 206
  mc_enter : MF K 351 "enter" 234
  mc_frame_size : MF K 351 "frame_size" 241
  mc_reach_out : MF K 351 "reach_out" 248
  mc_temp : MF K 351 "temp" 255
  mc_free_temp : MF K 351 "free_temp" 262
  mc_take : MF K 351 "take" 270
  mc_spill : MF K 351 "spill" 277
  mc_spill_all : MF K 351 "spill_all" 284
  mc_unspill : MF K 351 "unspill" 292
  mc_release : MF K 351 "release" 299
  mc_note_map : MF K 351 "note_map" 313
  mt_new : MF K 408 "new" 398
  f187 : EntOk K 187 (inAt 11 3 "RegisterPool.take") 3 ["self", "item", "keep"] []
  f270 : EntOk K 270 (inAt 13 6 "Coder.take") 3 ["self", "item", "keep"] []
  f292 : EntOk K 292 (inAt 13 9 "Coder.unspill") 2 ["self", "item", "keep"] [.none]
  f119 : EntOk K 119 (topAt 6 "holds_register") 1 ["item"] []
  f299 : EntOk K 299 (inAt 13 10 "Coder.release") 2 ["self", "item"] []
  n_holds : nsIn K mainGlobals "holds_register" = some (some (.ref 119)) ∧ keepIn K (.ref 119) = true
  f313 : EntOk K 313 (inAt 13 12 "Coder.note_map") 2 ["self", "row"] []
  f206 : EntC K 206 (inAt 11 6 "RegisterPool.held") "self"
  f284 : EntOk K 284 (inAt 13 8 "Coder.spill_all") 1 ["self"] []
  f35 : EntOk K 35 (inAt 2 0 "CodeBuffer.__init__") 1 ["self"] []
  f165 : EntOk K 165 (inAt 11 0 "RegisterPool.__init__") 2 ["self", "count"] []
  f105 : EntOk K 105 (inAt 5 0 "Item.__init__") 3 ["self", "mode", "t"] []
  f369 : EntOk K 369 (inAt 15 0 "Type.__init__") 4 ["self", "number", "form", "size"] []
  no_108_mode : findIn K (.ref 108) "mode" = some none
  no_108_t : findIn K (.ref 108) "t" = some none
  no_108_value : findIn K (.ref 108) "value" = some none
  no_108_reg : findIn K (.ref 108) "reg" = some none
  no_108_offset : findIn K (.ref 108) "offset" = some none
  no_108_fix : findIn K (.ref 108) "fix" = some none
  no_108_root : findIn K (.ref 108) "root" = some none
  no_108_tag : findIn K (.ref 108) "tag" = some none
  no_108_length : findIn K (.ref 108) "length" = some none
  no_108_cond : findIn K (.ref 108) "cond" = some none
  no_108_truths : findIn K (.ref 108) "truths" = some none
  no_108_falses : findIn K (.ref 108) "falses" = some none
  no_108_obj : findIn K (.ref 108) "obj" = some none
  no_108_place : findIn K (.ref 108) "place" = some none
  no_108_slot : findIn K (.ref 108) "slot" = some none
  no_108_was : findIn K (.ref 108) "was" = some none
  no_87_rows : findIn K (.ref 87) "rows" = some none
  no_209_count : findIn K (.ref 209) "count" = some none
  no_209_owner : findIn K (.ref 209) "owner" = some none
  no_209_order : findIn K (.ref 209) "order" = some none
  no_209_spiller : findIn K (.ref 209) "spiller" = some none
  no_351_types : findIn K (.ref 351) "types" = some none
  no_351_module : findIn K (.ref 351) "module" = some none
  no_351_buf : findIn K (.ref 351) "buf" = some none
  no_351_pool : findIn K (.ref 351) "pool" = some none
  no_351_data : findIn K (.ref 351) "data" = some none
  no_351_keys : findIn K (.ref 351) "keys" = some none
  no_351_imports : findIn K (.ref 351) "imports" = some none
  no_351_fixups : findIn K (.ref 351) "fixups" = some none
  no_351_maps : findIn K (.ref 351) "maps" = some none
  no_351_entries : findIn K (.ref 351) "entries" = some none
  no_351_starts : findIn K (.ref 351) "starts" = some none
  no_351_calls : findIn K (.ref 351) "calls" = some none
  no_351_level : findIn K (.ref 351) "level" = some none
  no_351_proc : findIn K (.ref 351) "proc" = some none
  no_351_roots : findIn K (.ref 351) "roots" = some none
  no_351_low : findIn K (.ref 351) "low" = some none
  no_351_lowest : findIn K (.ref 351) "lowest" = some none
  no_351_free_temps : findIn K (.ref 351) "free_temps" = some none
  no_351_spilled : findIn K (.ref 351) "spilled" = some none
  no_351_out_words : findIn K (.ref 351) "out_words" = some none
  no_372_number : findIn K (.ref 372) "number" = some none
  no_372_form : findIn K (.ref 372) "form" = some none
  no_372_size : findIn K (.ref 372) "size" = some none
  no_372_base : findIn K (.ref 372) "base" = some none
  no_372_length : findIn K (.ref 372) "length" = some none
  no_372_fields : findIn K (.ref 372) "fields" = some none
  no_372_level : findIn K (.ref 372) "level" = some none
  no_372_params : findIn K (.ref 372) "params" = some none
  no_372_module : findIn K (.ref 372) "module" = some none
  no_372_label : findIn K (.ref 372) "label" = some none
  no_372_hidden : findIn K (.ref 372) "hidden" = some none
  no_372_exno : findIn K (.ref 372) "exno" = some none
  no_408_counter : findIn K (.ref 408) "counter" = some none
  no_408_known : findIn K (.ref 408) "known" = some none
  no_408_boolean : findIn K (.ref 408) "boolean" = some none
  no_408_char : findIn K (.ref 408) "char" = some none
  no_408_byte : findIn K (.ref 408) "byte" = some none
  no_408_integer : findIn K (.ref 408) "integer" = some none
  no_408_mask : findIn K (.ref 408) "mask" = some none
  no_408_nil : findIn K (.ref 408) "nil" = some none
  no_408_none : findIn K (.ref 408) "none" = some none
  k_buf : Mk K 87 35
  k_item : Mk K 108 105
  k_pool : Mk K 209 165
  k_coder : Mk K 351 227
  k_type : Mk K 372 369
  k_types : Mk K 408 390
  f398 : EntOk K 398 (inAt 16 1 "Types.new") 3 ["self", "form", "size", "module", "label"] [.str "", .str ""]
  n_Type : nsIn K mainGlobals "Type" = some (some (.ref 372))
  n_Types : nsIn K mainGlobals "Types" = some (some (.ref 408))
  n_CodeBuffer : nsIn K mainGlobals "CodeBuffer" = some (some (.ref 87))
  n_RegisterPool : nsIn K mainGlobals "RegisterPool" = some (some (.ref 209))
  n_Item : nsIn K mainGlobals "Item" = some (some (.ref 108))
  n_Coder : nsIn K mainGlobals "Coder" = some (some (.ref 351))
  f234 : EntOk K 234 (inAt 13 1 "Coder.enter") 5 ["self", "proc", "level", "locals_bytes", "roots"] []
  f390 : EntOk K 390 (inAt 16 0 "Types.__init__") 1 ["self"] []
  f227 : EntOk K 227 (inAt 13 0 "Coder.__init__") 4 ["self", "types", "module", "registers"] []
  bd_spill : specialIn K (.ref 277) "__get__" = some (some (.builtin "function.__get__")) ∧ takesIn K (.ref 277) = some false
  f419 : EntOk K 419 (topAt 18 "_law_pull") 2 ["well", "most"] []
  f426 : EntOk K 426 (topAt 19 "_law_follow") 2 ["coder", "machine"] []
  f433 : EntOk K 433 (topAt 20 "_law_place") 1 ["item"] []
  f450 : EntOk K 450 (topAt 23 "_law_map_right") 4 ["coder", "live", "roots", "row"] []
  n_place : nsIn K mainGlobals "_law_place" = some (some (.ref 433)) ∧ keepIn K (.ref 433) = true
  n_follow : nsIn K mainGlobals "_law_follow" = some (some (.ref 426)) ∧ keepIn K (.ref 426) = true
  n_pull : nsIn K mainGlobals "_law_pull" = some (some (.ref 419)) ∧ keepIn K (.ref 419) = true
  n_allRight : nsIn K mainGlobals "_law_all_right" = some (some (.ref 438)) ∧ keepIn K (.ref 438) = true
  n_taken : nsIn K mainGlobals "_law_taken" = some (some (.ref 443)) ∧ keepIn K (.ref 443) = true
  n_mapRight : nsIn K mainGlobals "_law_map_right" = some (some (.ref 450)) ∧ keepIn K (.ref 450) = true
  f443 : EntOk K 443 (topAt 22 "_law_taken") 5 ["coder", "live", "number", "root", "keep"] []
  f438 : EntOk K 438 (topAt 21 "_law_all_right") 6 ["coder", "machine", "live", "words", "count", "top"] []
  n_FP : nsIn K mainGlobals "FP" = some (some (.int 11 287))
noncomputable abbrev KG (G : Gx) : Prop := KF G.K

theorem bnds_zip : ∀ {ps : List Str} {vs : List Value} {xs : List AV}, avs vs xs → bnds (ps.zip vs) (ps.zip xs)
  | [], _, _, _ => rfl
  | _ :: _, [], [], _ => rfl
  | _ :: _, [], _ :: _, h => by have := congrArg List.length h; simp at this
  | _ :: _, _ :: _, [], h => by have := congrArg List.length h; simp at this
  | p :: ps, v :: vs, x :: xs, h => by
    have h' : av v :: vs.map av = some x :: xs.map some := h
    have e := bnds_zip (ps := ps) (vs := vs) (xs := xs) (List.cons.inj h').2
    unfold bnds at *
    simp only [List.zip_cons_cons, List.map_cons, e, (List.cons.inj h').1]
theorem avs_append {vs us : List Value} {xs ds : List AV} (h : avs vs xs) (k : avs us ds) : avs (vs ++ us) (xs ++ ds) := by
  unfold avs at *
  rw [List.map_append, List.map_append, h, k]
theorem mem_zip_fst {α : Type} : ∀ {ps : List Str} {xs : List α} {y : Str × α}, y ∈ ps.zip xs → y.1 ∈ ps
  | [], _, _, h => (nomatch h)
  | _ :: _, [], _, h => (nomatch h)
  | p :: ps, x :: xs, y, h => by
    rcases List.mem_cons.mp h with rfl | h
    · exact .head _
    · exact .tail _ (mem_zip_fst h)
theorem enter {G : Gx} {σ : Hp} {n : Nat} {f : Addr} {xs : List AV} {Q : AV → Hp → Prop} {d : Option (Str × List Stmt × Scope)} {m : Nat} {ps : List Str} {ds : List AV} (e : EntOk G.K f d m ps ds) (bx : Loc) {qual : Str} {body : List Stmt} {scope : Scope}
    (he : d = some (qual, body, scope)) (hbx : bx = ps.zip (xs ++ ds)) (hm : xs.length = m)
    (h : ∀ cdv, ∀ c : Cx G, c.n = n → SV c (execs body (envOf qual scope c.L f cdv)) bx.reverse σ fun fl _ σ => match fl with | .ret x => Q x σ | _ => Q .none σ) : Fn G (n + 1) f xs σ Q := by
  obtain ⟨name, qual', params, body', scope', dV, kV, doc, pm, cdv, ct, oc, an, od, osl, e1, ho, hcd, hb, hl, hc, c1, c2, c3⟩ := e
  cases he.symm.trans e1
  refine Fn.enter ho hcd (bx := bx) (fun vs hx s X => ?_) ?_ (h cdv) hc c1 c2 c3
  · obtain ⟨us, hu, hbi⟩ := hb vs ((avs_len hx).trans hm) s X
    exact ⟨_, hbi, by rw [hbx]; exact bnds_zip (avs_append hx hu)⟩
  · rw [hbx]
    refine List.all_eq_true.mpr fun y hy => ?_
    exact List.all_eq_true.mp hl y.1 (mem_zip_fst hy)
theorem enterC {G : Gx} {σ : Hp} {n : Nat} {f : Addr} {x : AV} {Q : AV → Hp → Prop} {d : Option (Str × List Stmt × Scope)} {p : Str} (e : EntC G.K f d p) {qual : Str} {body : List Stmt} {scope : Scope} (he : d = some (qual, body, scope))
    (h : ∀ cdv, ∀ c : Cx G, c.n = n → ∀ v o, av v = some x → c.base.get? (c.L + 1) = some o → o.data = .cell (some v) → SV c (execs body (envOfC qual scope c.L f cdv)) [] σ fun fl _ σ => match fl with | .ret x => Q x σ | _ => Q .none σ) : Fn G (n + 1) f [x] σ Q := by
  obtain ⟨name, qual', params, body', scope', dV, kV, doc, pm, cdv, ct, oc, an, od, osl, e1, ho, hcd, hb, hl, hce, c1, c2, c3⟩ := e
  cases he.symm.trans e1
  exact Fn.enterC ho hcd (fun v _ s => hb v s) hl hce (h cdv) c1 c2 c3
end Mine
end

section
open PySem PySem.W PySem.Calls PyProof.Rows
namespace Mine
theorem bnds_cons {y : Str} {v : Value} {x : AV} {bs : List (Str × Value)} {xs : Loc} (h : av v = some x) (k : bnds bs xs) : bnds ((y, v) :: bs) ((y, x) :: xs) := by
  unfold bnds at *
  simp only [List.map_cons, k, h]
variable {G : Gx} (hK : KG G)
include hK
theorem cf_buf : ClsFacts G.K 87 := hK.cf_buf

noncomputable def rowT (name : Str) (a b c : AV) : AObj := .tup [.str name, a, b, c]
theorem F_put {n : Nat} {σ : Hp} {buf rows : Addr} {name : Str} {a b c : AV} {xs : List AV} {Q : AV → Hp → Prop} (h1 : σ buf = some (.inst 87 [("rows", .ref rows)])) (h2 : σ rows = some (.list xs)) (hz : xs.length ≤ 100000)
    (h : ∀ t, σ t = none → Q (.int xs.length) ((σ.set t (rowT name a b c)).set rows (.list (xs ++ [.ref t])))) : Fn G (n + 1) 42 [.ref buf, .str name, a, b, c] σ Q := by
  refine' enter hK.f42 [("self", .ref buf), ("name", .str name), ("a", a), ("b", b), ("c", c)] ?he ?hbx ?hm ?_
  case he => rfl
  case hbx => rfl
  case hm => rfl
  intro cdv
  intro c hcn
  refine S_cons <| S_Expr <| E_Meth1 <| E_Attr <| E_loc rfl <| A_data h1 rfl <| M_list h2 PySem.slot_list_append rfl <| EVs_cons <| E_Tuple <| EVs_cons <| E_loc rfl <| EVs_cons <| E_loc rfl <| EVs_cons <| E_loc rfl <| EVs_cons <| E_loc rfl <| EVs_nil ⟨by simp, fun t ht => EVs_nil ⟨trivial, C_append (xs := xs) ?_ (by omega) ⟨trivial, ?_⟩⟩⟩
  · exact (Hp.set_ne (by rintro rfl; rw [h2] at ht; cases ht)).trans h2
  refine S_cons <| S_Return <| E_BinOp <| E_Call1 <| E_built ?_ rfl rfl <| EVs_cons <| E_Attr <| E_loc rfl <| A_data (C := 87) (at' := [("rows", .ref rows)]) ?_ rfl <| EVs_nil ⟨trivial, C_len (Hp.set_self _ _ _) (E_int (O_sub ?_)) (by simp; omega)⟩
  · exact hK.n_len
  · rw [Hp.set_ne, Hp.set_ne, h1]
    · rintro rfl; rw [h1] at ht; cases ht
    · rintro rfl; rw [h1] at h2; cases h2
  · have e : (((xs ++ [AV.ref t]).length : Nat) : Int) - 1 = xs.length := by simp
    rw [e]; exact h t ht
end Mine
end

section
open PySem PySem.W PySem.Calls PyProof.Rows
namespace Mine

/-! the pure state of a coder -/
structure It where
  mode : Str
  reg : Int
  root : Bool
  slot : Int
  was : Str
  t : AV
  tr : AV
  fa : AV
structure Row where
  name : Str
  a : Int
  b : Int
  c : Int
/-- what stays of a coder -/
structure Ad where
  at_ : Nat → Addr
  types : Addr
  keys : AV
  imports : AV
  fixups : AV
  entries : AV
  starts : AV
  calls : AV
  count : Int
structure St where
  own : List (Int × Addr)
  order : List Int
  low : Int
  lowest : Int
  out : Int
  temps : List Int
  spilled : List (Int × Addr)
  roots : List Int
  rows : List Row
  maps : List (Int × AV)
  items : Addr → Option It

noncomputable def coderAt (A : Ad) (S : St) : Loc := [("types", .ref A.types), ("module", .str "M"), ("buf", .ref (A.at_ 1)), ("pool", .ref (A.at_ 3)), ("data", .none), ("keys", A.keys), ("imports", A.imports), ("fixups", A.fixups), ("maps", .ref (A.at_ 10)),
  ("entries", A.entries), ("starts", A.starts), ("calls", A.calls), ("level", .int 1), ("proc", .none), ("roots", .ref (A.at_ 9)), ("low", .int S.low), ("lowest", .int S.lowest), ("free_temps", .ref (A.at_ 7)), ("spilled", .ref (A.at_ 8)), ("out_words", .int S.out)]
noncomputable def itemAt (i : It) : Loc := [("mode", .str i.mode), ("t", i.t), ("value", .none), ("reg", .int i.reg), ("offset", .int 0), ("fix", .none), ("root", .bool i.root), ("tag", .none), ("length", .none), ("cond", .str "AL"), ("truths", i.tr), ("falses", i.fa), ("obj", .none), ("place", .int (-1)), ("slot", .int i.slot), ("was", .str i.was)]
noncomputable def poolAt (A : Ad) : Loc := [("count", .int A.count), ("owner", .ref (A.at_ 4)), ("order", .ref (A.at_ 5)), ("spiller", .ref (A.at_ 6))]
noncomputable def refs (xs : List (Int × Addr)) : List (Int × AV) := xs.map fun p => (p.1, .ref p.2)
noncomputable def objOf (A : Ad) (rt : List Addr) (S : St) : Nat → AObj
  | 0 => .inst 351 (coderAt A S)
  | 1 => .inst 87 [("rows", .ref (A.at_ 2))]
  | 2 => .list (rt.map .ref)
  | 3 => .inst 209 (poolAt A)
  | 4 => .idict (refs S.own)
  | 5 => .list (S.order.map .int)
  | 6 => .meth 277 (A.at_ 0)
  | 7 => .list (S.temps.map .int)
  | 8 => .idict (refs S.spilled)
  | 9 => .list (S.roots.map .int)
  | _ => .idict S.maps
noncomputable def rowO (r : Row) : AObj := rowT r.name (.int r.a) (.int r.b) (.int r.c)
noncomputable def itemO (i : It) : AObj := .inst 108 (itemAt i)

noncomputable def canon (A : Ad) (rt : List Addr) (S : St) (ρ : Hp) : Hp := fun b =>
  match (List.range 11).find? (fun i => A.at_ i == b) with
  | some i => some (objOf A rt S i)
  | none => match S.items b with
    | some i => some (itemO i)
    | none => match (rt.zip S.rows).lookup b with
      | some r => some (rowO r)
      | none => ρ b

structure Wf (A : Ad) (rt : List Addr) (S : St) : Prop where
  inj : ∀ i j, i < 11 → j < 11 → A.at_ i = A.at_ j → i = j
  it : ∀ i, i < 11 → S.items (A.at_ i) = none
  ra : ∀ b ∈ rt, S.items b = none ∧ ∀ i, i < 11 → A.at_ i ≠ b
  rn : rt.Nodup
  rl : rt.length = S.rows.length

theorem find_at {A : Ad} {i : Nat} (inj : ∀ i j, i < 11 → j < 11 → A.at_ i = A.at_ j → i = j) (hi : i < 11) : (List.range 11).find? (fun j => A.at_ j == A.at_ i) = some i := by
  rw [List.find?_range_eq_some]
  refine ⟨by simp, by simpa using hi, fun j hj => ?_⟩
  have : A.at_ j ≠ A.at_ i := fun e => by have := inj j i (by omega) hi e; omega
  simpa using this
theorem find_no {A : Ad} {b : Addr} (h : ∀ i, i < 11 → A.at_ i ≠ b) : (List.range 11).find? (fun j => A.at_ j == b) = none := by
  rw [List.find?_eq_none]
  intro i hi
  simpa using h i (by simpa using hi)
theorem canon_at {A : Ad} {rt : List Addr} {S : St} {ρ : Hp} (w : Wf A rt S) (i : Nat) (hi : i < 11 := by decide) : canon A rt S ρ (A.at_ i) = some (objOf A rt S i) := by
  unfold canon
  rw [find_at w.inj hi]
theorem Wf.nit {A : Ad} {rt : List Addr} {S : St} (w : Wf A rt S) {a : Addr} {i : It} (h : S.items a = some i) : ∀ j, j < 11 → A.at_ j ≠ a := fun j hj e => by
  have := w.it j hj; rw [e, h] at this; cases this
theorem canon_it {A : Ad} {rt : List Addr} {S : St} {ρ : Hp} (w : Wf A rt S) {a : Addr} {i : It} (h : S.items a = some i) : canon A rt S ρ a = some (itemO i) := by
  unfold canon
  rw [find_no (w.nit h), h]
theorem canon_row {A : Ad} {rt : List Addr} {S : St} {ρ : Hp} (w : Wf A rt S) {a : Addr} {k : Nat} {r : Row} (h : rt[k]? = some a) (hr : S.rows[k]? = some r) : canon A rt S ρ a = some (rowO r) := by
  have hm : a ∈ rt := List.mem_of_getElem? h
  obtain ⟨h1, h2⟩ := w.ra a hm
  unfold canon
  rw [find_no h2, h1]
  have : (rt.zip S.rows).lookup a = some r := by
    have rn := w.rn
    clear w h1 h2 hm
    generalize S.rows = rows at *
    induction rt generalizing k rows with
    | nil => simp at h
    | cons x xs ih =>
      cases rows with
      | nil => simp at hr
      | cons y ys =>
        cases k with
        | zero => simp at h hr; subst h; subst hr; simp
        | succ k =>
          simp at h hr
          have : a ≠ x := fun e => (List.nodup_cons.mp rn).1 (e ▸ List.mem_of_getElem? h)
          have : (a == x) = false := by simpa using this
          simp only [List.zip_cons_cons, List.lookup_cons, this]
          first | exact ih h (List.nodup_cons.mp rn).2 ys hr | exact ih ys h hr (List.nodup_cons.mp rn).2 | exact ih h (List.nodup_cons.mp rn).2 hr | exact ih (List.nodup_cons.mp rn).2 h ys hr
  rw [this]
/-- what is free in the whole is free in each part -/
theorem canon_none {A : Ad} {rt : List Addr} {S : St} {ρ : Hp} {a : Addr} (h : canon A rt S ρ a = none) : (∀ i, i < 11 → A.at_ i ≠ a) ∧ S.items a = none ∧ (rt.zip S.rows).lookup a = none ∧ ρ a = none := by
  unfold canon at h
  split at h
  · cases h
  · rename_i e
    refine ⟨fun i hi z => ?_, ?_⟩
    · rw [List.find?_eq_none] at e
      exact e i (by simpa using hi) (by simpa using z)
    · split at h
      · cases h
      · rename_i e2
        split at h
        · cases h
        · rename_i e3; exact ⟨e2, e3, h⟩
/-- one of the coder's own objects is set -/
theorem canon_set {A : Ad} {rt : List Addr} {S S' : St} {ρ : Hp} (w : Wf A rt S) (i : Nat) {o : AObj} (hi : i < 11) (ho : objOf A rt S' i = o) (hs : ∀ j, j < 11 → j ≠ i → objOf A rt S' j = objOf A rt S j) (h1 : S'.items = S.items) (h2 : S'.rows = S.rows) :
    (canon A rt S ρ).set (A.at_ i) o = canon A rt S' ρ := by
  funext b
  by_cases hb : b = A.at_ i
  · subst hb
    rw [Hp.set_self]
    unfold canon
    rw [find_at w.inj hi]
    simp only [ho]
  · rw [Hp.set_ne hb]
    unfold canon
    cases q : (List.range 11).find? (fun j => A.at_ j == b) with
    | none => simp only [h1, h2]
    | some j =>
      have hj := List.find?_some q
      have hm := List.mem_of_find?_eq_some q
      simp only [beq_iff_eq] at hj
      simp only
      rw [hs j (by simpa using hm) (fun e => hb (by rw [← hj, e]))]
noncomputable def St.put1 (S : St) (a : Addr) (i : It) : St := { S with items := fun b => if b = a then some i else S.items b }
theorem objOf_put1 (A : Ad) (rt : List Addr) (S : St) (a : Addr) (i : It) (j : Nat) : objOf A rt (S.put1 a i) j = objOf A rt S j := by
  unfold objOf
  split <;> rfl
theorem canon_setIt {A : Ad} {rt : List Addr} {S : St} {ρ : Hp} {a : Addr} (i : It) (w : ∀ j, j < 11 → A.at_ j ≠ a) : (canon A rt S ρ).set a (itemO i) = canon A rt (S.put1 a i) ρ := by
  funext b
  by_cases hb : b = a
  · subst hb
    rw [Hp.set_self]
    unfold canon
    rw [find_no w]
    simp [St.put1]
  · rw [Hp.set_ne hb]
    unfold canon
    cases q : (List.range 11).find? (fun j => A.at_ j == b) with
    | none => simp only [St.put1, if_neg hb]
    | some j => simp only [objOf_put1]
theorem canon_other {A : Ad} {rt : List Addr} {S : St} {ρ : Hp} {a : Addr} {o : AObj} (h1 : ∀ i, i < 11 → A.at_ i ≠ a) (h2 : S.items a = none) (h3 : (rt.zip S.rows).lookup a = none) : (canon A rt S ρ).set a o = canon A rt S (ρ.set a o) := by
  funext b
  by_cases hb : b = a
  · subst hb
    rw [Hp.set_self]
    unfold canon
    rw [find_no h1, h2, h3]
    simp [Hp.set]
  · rw [Hp.set_ne hb]
    unfold canon
    split
    · rfl
    · split
      · rfl
      · split
        · rfl
        · rw [Hp.set_ne hb]
noncomputable def St.putR (S : St) (r : Row) : St := { S with rows := S.rows ++ [r] }
theorem canon_put {A : Ad} {rt : List Addr} {S : St} {ρ : Hp} {t : Addr} (r : Row) (w : Wf A rt S) (h : canon A rt S ρ t = none) :
    ((canon A rt S ρ).set t (rowO r)).set (A.at_ 2) (.list ((rt.map AV.ref) ++ [.ref t])) = canon A (rt ++ [t]) (S.putR r) ρ := by
  obtain ⟨h1, h2, h3, h4⟩ := canon_none h
  have hz : (rt ++ [t]).zip (S.putR r).rows = rt.zip S.rows ++ [(t, r)] := by
    show (rt ++ [t]).zip (S.rows ++ [r]) = _
    rw [List.zip_append w.rl]; rfl
  funext b
  by_cases hb : b = A.at_ 2
  · subst hb
    rw [Hp.set_self]
    unfold canon
    rw [find_at w.inj (by decide)]
    simp [objOf]
  · rw [Hp.set_ne hb]
    by_cases hb' : b = t
    · subst hb'
      rw [Hp.set_self]
      unfold canon
      rw [find_no h1, show (S.putR r).items = S.items from rfl, h2, hz, List.lookup_append, h3]
      simp
    · rw [Hp.set_ne hb']
      unfold canon
      cases q : (List.range 11).find? (fun j => A.at_ j == b) with
      | none =>
        simp only [show (S.putR r).items = S.items from rfl, hz, List.lookup_append]
        have : (b == t) = false := by simpa using hb'
        simp [List.lookup_cons, this]
      | some j =>
        have hj := List.find?_some q
        have hm := List.mem_of_find?_eq_some q
        simp only [beq_iff_eq] at hj
        have : j ≠ 2 := fun e => hb (by rw [← hj, e])
        have hjj : j < 11 := by simpa using hm
        have : j = 0 ∨ j = 1 ∨ j = 3 ∨ j = 4 ∨ j = 5 ∨ j = 6 ∨ j = 7 ∨ j = 8 ∨ j = 9 ∨ j = 10 := by omega
        simp only
        rcases this with rfl | rfl | rfl | rfl | rfl | rfl | rfl | rfl | rfl | rfl <;> rfl
theorem Wf.put {A : Ad} {rt : List Addr} {S : St} {ρ : Hp} {t : Addr} (r : Row) (w : Wf A rt S) (h : canon A rt S ρ t = none) : Wf A (rt ++ [t]) (S.putR r) := by
  obtain ⟨h1, h2, h3, h4⟩ := canon_none h
  refine ⟨w.inj, w.it, fun b hb => ?_, ?_, by simp [St.putR, w.rl]⟩
  · rcases List.mem_append.mp hb with hb | hb
    · exact w.ra b hb
    · cases List.mem_singleton.mp hb; exact ⟨h2, h1⟩
  · rw [List.nodup_append]
    refine ⟨w.rn, by simp, fun a ha b hb => ?_⟩
    cases List.mem_singleton.mp hb
    rintro rfl
    obtain ⟨k, hk⟩ := List.getElem?_of_mem ha
    have hlt : k < rt.length := by
      rcases Nat.lt_or_ge k rt.length with q | q
      · exact q
      · rw [List.getElem?_eq_none q] at hk; cases hk
    have := canon_row (ρ := ρ) w hk (List.getElem?_eq_getElem (by rw [← w.rl]; exact hlt))
    rw [this] at h; cases h
theorem Wf.of {A : Ad} {rt : List Addr} {S S' : St} (w : Wf A rt S) (h1 : S'.items = S.items := by rfl) (h2 : S'.rows = S.rows := by rfl) : Wf A rt S' :=
  ⟨w.inj, by rw [h1]; exact w.it, by rw [h1]; exact w.ra, w.rn, by rw [h2]; exact w.rl⟩
theorem Wf.put1 {A : Ad} {rt : List Addr} {S : St} (w : Wf A rt S) {a : Addr} {i0 i : It} (h : S.items a = some i0) : Wf A rt (S.put1 a i) := by
  refine ⟨w.inj, fun j hj => ?_, fun b hb => ⟨?_, (w.ra b hb).2⟩, w.rn, w.rl⟩
  · show (if _ then _ else _) = none
    rw [if_neg (w.nit h j hj)]; exact w.it j hj
  · show (if _ then _ else _) = none
    rw [if_neg]
    · exact (w.ra b hb).1
    · rintro rfl; rw [(w.ra _ hb).1] at h; cases h

/-! attributes of the coder and of its items -/
section
variable {G : Gx} {c : Cx G} {μ : Loc} {A : Ad} {rt : List Addr} {S : St} {ρ : Hp} {R : Loc → Hp → Prop} {Q : AV → Loc → Hp → Prop}
theorem R_coder {x : AV} (w : Wf A rt S) (name : Str) (hx : (coderAt A S).lookup name = some x) (h : Q x μ (canon A rt S ρ)) (hh : x.handed = true := by rfl) : AttrOf c (.ref (A.at_ 0)) name μ (canon A rt S ρ) Q := A_data (canon_at w 0) hx h hh
theorem R_item {x : AV} {a : Addr} {i : It} (w : Wf A rt S) (ha : S.items a = some i) {name : Str} (hx : (itemAt i).lookup name = some x) (h : Q x μ (canon A rt S ρ)) (hh : x.handed = true := by rfl) : AttrOf c (.ref a) name μ (canon A rt S ρ) Q := A_data (canon_it w ha) hx h hh
theorem oth {A : Ad} {rt : List Addr} {S S' : St} (i : Nat) (h : ∀ j, j = 0 ∨ j = 1 ∨ j = 2 ∨ j = 3 ∨ j = 4 ∨ j = 5 ∨ j = 6 ∨ j = 7 ∨ j = 8 ∨ j = 9 ∨ j = 10 → j ≠ i → objOf A rt S' j = objOf A rt S j) : ∀ j, j < 11 → j ≠ i → objOf A rt S' j = objOf A rt S j := fun j hj hn => h j (by omega) hn
theorem W_low {x : Int} (w : Wf A rt S) (h : R μ (canon A rt { S with low := x } ρ)) : SetOf c (.ref (A.at_ 0)) "low" (.int x) μ (canon A rt S ρ) R := A_set (canon_at w 0) (.inl rfl) (by
  rw [show (canon A rt S ρ).set (A.at_ 0) (.inst 351 (upd "low" (.int x) (coderAt A S))) = canon A rt { S with low := x } ρ from canon_set w 0 (by decide) rfl (oth 0 (by rintro j (rfl | rfl | rfl | rfl | rfl | rfl | rfl | rfl | rfl | rfl | rfl) hj <;> first | rfl | exact absurd rfl hj)) rfl rfl]; exact h)
theorem W_lowest {x : Int} (w : Wf A rt S) (h : R μ (canon A rt { S with lowest := x } ρ)) : SetOf c (.ref (A.at_ 0)) "lowest" (.int x) μ (canon A rt S ρ) R := A_set (canon_at w 0) (.inl rfl) (by
  rw [show (canon A rt S ρ).set (A.at_ 0) (.inst 351 (upd "lowest" (.int x) (coderAt A S))) = canon A rt { S with lowest := x } ρ from canon_set w 0 (by decide) rfl (oth 0 (by rintro j (rfl | rfl | rfl | rfl | rfl | rfl | rfl | rfl | rfl | rfl | rfl) hj <;> first | rfl | exact absurd rfl hj)) rfl rfl]; exact h)
theorem W_out {x : Int} (w : Wf A rt S) (h : R μ (canon A rt { S with out := x } ρ)) : SetOf c (.ref (A.at_ 0)) "out_words" (.int x) μ (canon A rt S ρ) R := A_set (canon_at w 0) (.inl rfl) (by
  rw [show (canon A rt S ρ).set (A.at_ 0) (.inst 351 (upd "out_words" (.int x) (coderAt A S))) = canon A rt { S with out := x } ρ from canon_set w 0 (by decide) rfl (oth 0 (by rintro j (rfl | rfl | rfl | rfl | rfl | rfl | rfl | rfl | rfl | rfl | rfl) hj <;> first | rfl | exact absurd rfl hj)) rfl rfl]; exact h)
theorem W_mode {a : Addr} {i : It} {x : Str} (w : Wf A rt S) (ha : S.items a = some i) (h : R μ (canon A rt (S.put1 a { i with mode := x }) ρ)) : SetOf c (.ref a) "mode" (.str x) μ (canon A rt S ρ) R := A_set (canon_it w ha) (.inl rfl) (by
  have := canon_setIt (rt := rt) (S := S) (ρ := ρ) { i with mode := x } (w.nit ha); exact this ▸ h)
theorem W_reg {a : Addr} {i : It} {x : Int} (w : Wf A rt S) (ha : S.items a = some i) (h : R μ (canon A rt (S.put1 a { i with reg := x }) ρ)) : SetOf c (.ref a) "reg" (.int x) μ (canon A rt S ρ) R := A_set (canon_it w ha) (.inl rfl) (by
  have := canon_setIt (rt := rt) (S := S) (ρ := ρ) { i with reg := x } (w.nit ha); exact this ▸ h)
theorem W_slot {a : Addr} {i : It} {x : Int} (w : Wf A rt S) (ha : S.items a = some i) (h : R μ (canon A rt (S.put1 a { i with slot := x }) ρ)) : SetOf c (.ref a) "slot" (.int x) μ (canon A rt S ρ) R := A_set (canon_it w ha) (.inl rfl) (by
  have := canon_setIt (rt := rt) (S := S) (ρ := ρ) { i with slot := x } (w.nit ha); exact this ▸ h)
theorem W_was {a : Addr} {i : It} {x : Str} (w : Wf A rt S) (ha : S.items a = some i) (h : R μ (canon A rt (S.put1 a { i with was := x }) ρ)) : SetOf c (.ref a) "was" (.str x) μ (canon A rt S ρ) R := A_set (canon_it w ha) (.inl rfl) (by
  have := canon_setIt (rt := rt) (S := S) (ρ := ρ) { i with was := x } (w.nit ha); exact this ▸ h)
theorem W_root {a : Addr} {i : It} {x : Bool} (w : Wf A rt S) (ha : S.items a = some i) (h : R μ (canon A rt (S.put1 a { i with root := x }) ρ)) : SetOf c (.ref a) "root" (.bool x) μ (canon A rt S ρ) R := A_set (canon_it w ha) (.inl rfl) (by
  have := canon_setIt (rt := rt) (S := S) (ρ := ρ) { i with root := x } (w.nit ha); exact this ▸ h)
end
theorem put1_self {S : St} {a : Addr} {i : It} : (S.put1 a i).items a = some i := by simp [St.put1]
theorem put1_put1 {S : St} {a : Addr} {i j : It} : (S.put1 a i).put1 a j = S.put1 a j := by
  unfold St.put1
  congr 1
  funext b
  by_cases h : b = a <;> simp [h]

/-- an address that is none of the coder's -/
structure Off (A : Ad) (rt : List Addr) (S : St) (a : Addr) : Prop where
  at_ : ∀ i, i < 11 → A.at_ i ≠ a
  it : S.items a = none
  row : (rt.zip S.rows).lookup a = none
theorem Off.of_none {A : Ad} {rt : List Addr} {S : St} {ρ : Hp} {a : Addr} (h : canon A rt S ρ a = none) : Off A rt S a ∧ ρ a = none := let ⟨h1, h2, h3, h4⟩ := canon_none h; ⟨⟨h1, h2, h3⟩, h4⟩
theorem Off.set {A : Ad} {rt : List Addr} {S : St} {ρ : Hp} {a : Addr} (h : Off A rt S a) (o : AObj) : (canon A rt S ρ).set a o = canon A rt S (ρ.set a o) := canon_other h.at_ h.it h.row
theorem Off.get {A : Ad} {rt : List Addr} {S : St} {ρ : Hp} {a : Addr} (h : Off A rt S a) : canon A rt S ρ a = ρ a := by
  unfold canon
  rw [find_no h.at_, h.it, h.row]
theorem Off.of {A : Ad} {rt : List Addr} {S S' : St} {a : Addr} (h : Off A rt S a) (h1 : S'.items = S.items := by rfl) (h2 : S'.rows = S.rows := by rfl) : Off A rt S' a := ⟨h.at_, by rw [h1]; exact h.it, by rw [h2]; exact h.row⟩
theorem Off.put1 {A : Ad} {rt : List Addr} {S : St} {a b : Addr} {i0 i : It} (h : Off A rt S b) (ha : S.items a = some i0) : Off A rt (S.put1 a i) b := ⟨h.at_, by
  show (if _ then _ else _) = none
  rw [if_neg (fun e => by rw [← e, h.it] at ha; cases ha)]
  exact h.it, h.row⟩
theorem Off.put {A : Ad} {rt : List Addr} {S : St} {r : Row} {b t : Addr} (w : Wf A rt S) (h : Off A rt S b) (ht : b ≠ t) : Off A (rt ++ [t]) (S.putR r) b := ⟨h.at_, h.it, by
  have hz : (rt ++ [t]).zip (S.putR r).rows = rt.zip S.rows ++ [(t, r)] := by
    show (rt ++ [t]).zip (S.rows ++ [r]) = _
    rw [List.zip_append w.rl]; rfl
  rw [hz, List.lookup_append, h.row]
  have : (b == t) = false := by simpa using ht
  simp [List.lookup_cons, this]⟩
theorem Hp.set_set (σ : Hp) (a : Addr) (o o' : AObj) : (σ.set a o).set a o' = σ.set a o' := by
  funext b
  by_cases h : b = a <;> simp [Hp.set, h]
noncomputable abbrev Sup (σ0 σ : Hp) : Prop := ∀ a o, σ0 a = some o → σ a = some o
theorem Sup.set {σ : Hp} {a : Addr} {o : AObj} (h : σ a = none) : Sup σ (σ.set a o) := fun b x e => by
  rw [Hp.set_ne]
  · exact e
  · rintro rfl; rw [h] at e; cases e
theorem canon_sup {A : Ad} {rt : List Addr} {S : St} {ρ ρ' : Hp} (h : Sup ρ ρ') : Sup (canon A rt S ρ) (canon A rt S ρ') := fun a o e => by
  unfold canon at *
  cases q : (List.range 11).find? (fun i => A.at_ i == a) with
  | some i => rw [q] at e; exact e
  | none =>
    rw [q] at e
    simp only at e ⊢
    cases q2 : S.items a with
    | some i => rw [q2] at e; exact e
    | none =>
      rw [q2] at e
      simp only at e ⊢
      cases q3 : (rt.zip S.rows).lookup a with
      | some i => rw [q3] at e; exact e
      | none => rw [q3] at e; exact h _ _ e
theorem upd_self (x : Str) (v : AV) (μ : Loc) : (upd x v μ).lookup x = some v := by rw [upd_lookup, if_pos rfl]
theorem upd_ne {x y : Str} {v u : AV} {μ : Loc} (h : μ.lookup y = some u) (hn : y ≠ x) : (upd x v μ).lookup y = some u := by rw [upd_lookup, if_neg hn]; exact h
theorem keyAt_refs {xs : List (Int × Addr)} {k : Int} : keyAt (refs xs) k = ((xs.find? fun p => p.1 = k).map fun p => AV.ref p.2) := by
  unfold keyAt refs
  induction xs with
  | nil => rfl
  | cons p r ih =>
    simp only [List.map_cons, List.find?_cons]
    by_cases h : p.1 = k <;> simp [h]
    simpa using ih
theorem dropAt_refs {xs : List (Int × Addr)} {k : Int} : dropAt (refs xs) k = refs (xs.filter fun p => decide (p.1 ≠ k)) := by
  unfold dropAt refs
  rw [List.filter_map]; rfl
theorem putAt_refs {xs : List (Int × Addr)} {k : Int} {a : Addr} (h : ∀ p ∈ xs, p.1 ≠ k) : putAt (refs xs) k (.ref a) = refs (xs ++ [(k, a)]) := by
  unfold putAt refs
  rw [if_neg]
  · simp
  · simp only [List.any_map, List.any_eq_true, not_exists]
    rintro p ⟨hp, e⟩
    exact h p hp (by simpa using e)

theorem set_own {A : Ad} {rt : List Addr} {S : St} {ρ : Hp} (w : Wf A rt S) (x : List (Int × Addr)) : (canon A rt S ρ).set (A.at_ 4) (.idict (refs x)) = canon A rt { S with own := x } ρ :=
  canon_set w 4 (by decide) rfl (oth 4 (by rintro j (rfl | rfl | rfl | rfl | rfl | rfl | rfl | rfl | rfl | rfl | rfl) hj <;> first | rfl | exact absurd rfl hj)) rfl rfl
theorem set_order {A : Ad} {rt : List Addr} {S : St} {ρ : Hp} (w : Wf A rt S) (x : List Int) : (canon A rt S ρ).set (A.at_ 5) (.list (x.map .int)) = canon A rt { S with order := x } ρ :=
  canon_set w 5 (by decide) rfl (oth 5 (by rintro j (rfl | rfl | rfl | rfl | rfl | rfl | rfl | rfl | rfl | rfl | rfl) hj <;> first | rfl | exact absurd rfl hj)) rfl rfl
theorem set_temps {A : Ad} {rt : List Addr} {S : St} {ρ : Hp} (w : Wf A rt S) (x : List Int) : (canon A rt S ρ).set (A.at_ 7) (.list (x.map .int)) = canon A rt { S with temps := x } ρ :=
  canon_set w 7 (by decide) rfl (oth 7 (by rintro j (rfl | rfl | rfl | rfl | rfl | rfl | rfl | rfl | rfl | rfl | rfl) hj <;> first | rfl | exact absurd rfl hj)) rfl rfl
theorem set_spilled {A : Ad} {rt : List Addr} {S : St} {ρ : Hp} (w : Wf A rt S) (x : List (Int × Addr)) : (canon A rt S ρ).set (A.at_ 8) (.idict (refs x)) = canon A rt { S with spilled := x } ρ :=
  canon_set w 8 (by decide) rfl (oth 8 (by rintro j (rfl | rfl | rfl | rfl | rfl | rfl | rfl | rfl | rfl | rfl | rfl) hj <;> first | rfl | exact absurd rfl hj)) rfl rfl
theorem set_roots {A : Ad} {rt : List Addr} {S : St} {ρ : Hp} (w : Wf A rt S) (x : List Int) : (canon A rt S ρ).set (A.at_ 9) (.list (x.map .int)) = canon A rt { S with roots := x } ρ :=
  canon_set w 9 (by decide) rfl (oth 9 (by rintro j (rfl | rfl | rfl | rfl | rfl | rfl | rfl | rfl | rfl | rfl | rfl) hj <;> first | rfl | exact absurd rfl hj)) rfl rfl
theorem set_maps {A : Ad} {rt : List Addr} {S : St} {ρ : Hp} (w : Wf A rt S) (x : List (Int × AV)) : (canon A rt S ρ).set (A.at_ 10) (.idict x) = canon A rt { S with maps := x } ρ :=
  canon_set w 10 (by decide) rfl (oth 10 (by rintro j (rfl | rfl | rfl | rfl | rfl | rfl | rfl | rfl | rfl | rfl | rfl) hj <;> first | rfl | exact absurd rfl hj)) rfl rfl
noncomputable abbrev HasL (μ : Loc) (x : Str) (v : AV) : Prop := μ.lookup x = some v
/-! built-in names -/
section
variable {G : Gx} (hK : KG G)
include hK
theorem n_len : nsIn G.K mainGlobals "len" = some none := hK.n_len
theorem n_range : nsIn G.K mainGlobals "range" = some none := hK.n_range
theorem n_min : nsIn G.K mainGlobals "min" = some none := hK.n_min
theorem n_max : nsIn G.K mainGlobals "max" = some none := hK.n_max
theorem n_list : nsIn G.K mainGlobals "list" = some none := hK.n_list
theorem n_sorted : nsIn G.K mainGlobals "sorted" = some none := hK.n_sorted
end
end Mine
end

section
open PySem PySem.W PySem.Calls PyProof.Rows
namespace Mine

variable {G : Gx} (hK : KG G) {A : Ad} {rt : List Addr} {S : St} {ρ : Hp} {n : Nat} {Q : AV → Hp → Prop}
include hK

theorem F_free (w : Wf A rt S) (hc0 : 0 ≤ A.count) (hc1 : A.count < 1000)
    (h : ∀ r, (0 ≤ r ∧ r < A.count ∧ keyAt (refs S.own) r = none) ∨ (r = -1 ∧ ∀ i, 0 ≤ i → i < A.count → (keyAt (refs S.own) i).isSome = true) → Q (.int r) (canon A rt S ρ)) :
    Fn G (n + 1) 172 [.ref (A.at_ 3)] (canon A rt S ρ) Q := by
  refine' enter hK.f172 [("self", .ref (A.at_ 3))] ?he ?hbx ?hm ?_
  case he => rfl
  case hbx => rfl
  case hm => rfl
  intro cdv
  intro c hcn
  refine S_cons <| S_ForRange <| E_Call1 <| E_built (n_range hK) rfl rfl <| EVs_cons <| E_Attr <| E_loc rfl <| A_data (canon_at w 3) rfl <| EVs_nil ⟨trivial, C_range fun a ha => ?_⟩
  refine ⟨a, A.count, fun i μ σ => Sup (canon A rt S ρ) σ ∧ HasL μ "self" (.ref (A.at_ 3)) ∧ ∀ j, 0 ≤ j → j < i → (keyAt (refs S.own) j).isSome = true, rfl, Hp.set_self _ _ _, hc0, by omega, ⟨Sup.set ha, rfl, fun j h0 h1 => by omega⟩, fun b hb i μ σ h0 hi hI => ⟨⟨_, _, rfl⟩, fun v hv => A_Name hv ?_⟩, fun μ σ hI => ?_⟩
  · refine W.forget ?_ hI.1
    refine S_cons <| S_If <| T_Compare <| E_loc (upd_self _ _ _) <| E_Attr <| E_loc (upd_ne hI.2.1 (by decide)) <| A_data (canon_at w 3) rfl <| O_notin (canon_at w 4) <| T_bool ?_
    cases q : keyAt (refs S.own) i with
    | none => exact S_cons <| S_Return <| E_loc (upd_self _ _ _) <| h i (.inl ⟨h0, hi, q⟩)
    | some x =>
      refine S_nil <| S_nil ⟨fun _ _ e => e, upd_ne hI.2.1 (by decide), fun j h1 h2 => ?_⟩
      rcases Int.lt_or_le j i with z | z
      · exact hI.2.2 j h1 z
      · have : j = i := by omega
        rw [this, q]; rfl
  · refine W.forget ?_ hI.1
    exact S_cons <| S_Return <| E_UnaryOp <| E_int <| O_neg <| h (-1) (.inr ⟨rfl, hI.2.2⟩)

/-- claiming a register -/
noncomputable def claimS (a : Addr) (i : It) (r : Int) (S : St) : St := ({ S with own := S.own ++ [(r, a)], order := S.order ++ [r] } : St).put1 a { i with reg := r }
theorem F_claim {a : Addr} {i : It} {r : Int} (w : Wf A rt S) (ha : S.items a = some i) (hr : ∀ p ∈ S.own, p.1 ≠ r) (hz : S.own.length ≤ 100000 ∧ S.order.length ≤ 100000)
    (h : Q (.int r) (canon A rt (claimS a i r S) ρ)) : Fn G (n + 1) 179 [.ref (A.at_ 3), .ref a, .int r] (canon A rt S ρ) Q := by
  refine' enter hK.f179 [("self", .ref (A.at_ 3)), ("item", .ref a), ("reg", .int r)] ?he ?hbx ?hm ?_
  case he => rfl
  case hbx => rfl
  case hm => rfl
  intro cdv
  intro c hcn
  have hk : keyAt (refs S.own) r = none := by
    rw [keyAt_refs, List.find?_eq_none.mpr (fun p hp => by simpa using hr p hp)]; rfl
  refine S_cons <| S_If <| T_Compare <| E_loc rfl <| E_Attr <| E_loc rfl <| A_data (canon_at w 3) rfl <| O_in (canon_at w 4) <| T_bool ?_
  rw [hk]
  refine S_nil <| S_cons <| S_AssignSub <| E_loc rfl <| E_Attr <| E_loc rfl <| A_data (canon_at w 3) rfl <| E_loc rfl <| J_idict (canon_at w 4) (by simp [refs]; omega) ?_
  rw [putAt_refs hr, set_own w]
  have w1 : Wf A rt { S with own := S.own ++ [(r, a)] } := w.of
  refine S_cons <| S_Expr <| E_Meth1 <| E_Attr <| E_loc rfl <| A_data (canon_at w1 3) rfl <| M_list (canon_at w1 5) PySem.slot_list_append rfl <| EVs_cons <| E_loc rfl <| EVs_nil ⟨trivial, C_append (canon_at w1 5) (by simp; omega) ⟨trivial, ?_⟩⟩
  rw [show S.order.map AV.int ++ [AV.int r] = (S.order ++ [r]).map AV.int by simp, set_order w1]
  have w2 : Wf A rt { S with own := S.own ++ [(r, a)], order := S.order ++ [r] } := w.of
  exact S_cons <| S_AssignAttr <| E_loc rfl <| E_loc rfl <| W_reg w2 ha <| S_cons <| S_Return <| E_loc rfl <| h

/-- giving a register back -/
noncomputable def giveS (r : Int) (S : St) : St := { S with own := S.own.filter fun p => decide (p.1 ≠ r), order := S.order.erase r }
theorem F_give {r : Int} (w : Wf A rt S) (hr : ∃ p ∈ S.own, p.1 = r) (ho : r ∈ S.order) (hz : S.own.length ≤ 100000 ∧ S.order.length ≤ 100000)
    (h : Q .none (canon A rt (giveS r S) ρ)) : Fn G (n + 1) 201 [.ref (A.at_ 3), .int r] (canon A rt S ρ) Q := by
  refine' enter hK.f201 [("self", .ref (A.at_ 3)), ("reg", .int r)] ?he ?hbx ?hm ?_
  case he => rfl
  case hbx => rfl
  case hm => rfl
  intro cdv
  intro c hcn
  have hk : (keyAt (refs S.own) r).isSome = true := by
    obtain ⟨p, hp, e⟩ := hr
    rw [keyAt_refs, Option.isSome_map, List.find?_isSome]
    exact ⟨p, hp, by simpa using e⟩
  refine S_cons <| S_If <| T_Compare <| E_loc rfl <| E_Attr <| E_loc rfl <| A_data (canon_at w 3) rfl <| O_in (canon_at w 4) <| T_bool ?_
  rw [hk]
  refine S_cons <| S_DelSub <| E_Attr <| E_loc rfl <| A_data (canon_at w 3) rfl <| E_loc rfl <| D_idict (canon_at w 4) hk (by simp [refs]; omega) ?_
  rw [dropAt_refs, set_own w]
  have w1 : Wf A rt { S with own := S.own.filter fun p => decide (p.1 ≠ r) } := w.of
  refine S_cons <| S_Expr <| E_Meth1 <| E_Attr <| E_loc rfl <| A_data (canon_at w1 3) rfl <| M_list (canon_at w1 5) PySem.F.slot_list_remove rfl <| EVs_cons <| E_loc rfl <| EVs_nil ⟨trivial, C_remove (canon_at w1 5) ho (by show S.order.length ≤ _; omega) ⟨trivial, ?_⟩⟩
  rw [set_order w1]
  exact S_nil <| S_nil h
end Mine
end

section
open PySem PySem.W PySem.Calls PyProof.Rows
namespace Mine

variable {G : Gx} (hK : KG G) {A : Ad} {rt : List Addr} {S : St} {ρ : Hp} {n : Nat} {Q : AV → Hp → Prop}

/-- what is handed as keep -/
noncomputable def KeepIs (A : Ad) (rt : List Addr) (S : St) (ρ : Hp) (kv : AV) (ks : List Addr) : Prop := (kv = .none ∧ ks = []) ∨ ∃ l, kv = .ref l ∧ Off A rt S l ∧ ρ l = some (.list (ks.map .ref))
theorem keyAt_put {xs : List (Int × AV)} {k j : Int} {v : AV} : keyAt (putAt xs k v) j = if j = k then some v else keyAt xs j := by
  unfold keyAt putAt
  split
  · rename_i h
    induction xs with
    | nil => simp at h
    | cons p r ih =>
      simp only [List.map_cons, List.find?_cons]
      by_cases h1 : p.1 = k
      · by_cases h2 : j = k
        · simp [h1, h2]
        · have h3 : ¬ k = j := fun e => h2 e.symm
          simp only [h1, if_true, h3, decide_false, h2, if_false]
          by_cases h4 : r.any (fun p => decide (p.1 = k)) = true
          · have := ih h4; simp only [h2, if_false] at this; exact this
          · simp only [Bool.not_eq_true, List.any_eq_false, decide_eq_true_eq] at h4
            congr 2
            rw [List.map_congr_left (g := id)]
            · simp
            · intro q hq; simp [h4 q hq]
      · simp only [h1, if_false]
        simp only [List.any_cons, h1, decide_false, Bool.false_or] at h
        have := ih h
        by_cases h4 : p.1 = j
        · have : ¬ j = k := fun e => h1 (h4.trans e)
          simp [h4, this]
        · simp only [h4, decide_false]; exact this
  · rename_i h
    simp only [Bool.not_eq_true, List.any_eq_false, decide_eq_true_eq] at h
    rw [List.find?_append]
    by_cases h2 : j = k
    · subst h2
      rw [List.find?_eq_none.mpr (fun p hp => by simpa using h p hp)]
      simp
    · have h3 : ¬ k = j := fun e => h2 e.symm
      simp [List.find?_cons, h3, h2]

include hK
theorem F_victim {kv : AV} {ks : List Addr} (w : Wf A rt S) (hk : KeepIs A rt S ρ kv ks) (hi : ∀ k ∈ ks, (S.items k).isSome = true) (hzk : ks.length ≤ 100000)
    (hex : ∃ r ∈ S.order, ∀ k ∈ ks, ∀ i, S.items k = some i → i.reg ≠ r)
    (h : ∀ r, r ∈ S.order → (∀ k ∈ ks, ∀ i, S.items k = some i → i.reg ≠ r) → Q (.int r) (canon A rt S ρ)) : Fn G (n + 1) 194 [.ref (A.at_ 3), kv] (canon A rt S ρ) Q := by
  refine' enter hK.f194 [("self", .ref (A.at_ 3)), ("keep", kv)] ?he ?hbx ?hm ?_
  case he => rfl
  case hbx => rfl
  case hm => rfl
  intro cdv
  intro c hcn
  refine S_cons <| S_AssignName <| E_Dict0i fun d hd => ?_
  obtain ⟨od, hρ⟩ := Off.of_none hd
  rw [od.set]
  have back : ∀ o, Sup (canon A rt S ρ) (canon A rt S (ρ.set d o)) := fun o => canon_sup (Sup.set hρ)
  let J : List Addr → Loc → Hp → Prop := fun done μ σ => ∃ kd, σ = canon A rt S (ρ.set d (.idict kd)) ∧ HasL μ "self" (.ref (A.at_ 3)) ∧ HasL μ "kept" (.ref d) ∧ kd.length ≤ done.length ∧ ∀ r, (keyAt kd r).isSome = true ↔ ∃ k ∈ done, ∃ i, S.items k = some i ∧ i.reg = r
  refine S_cons <| SV.mono (Q := fun fl μ σ => fl = .next ∧ J ks μ σ) ?_ fun fl μ σ ⟨e, q⟩ => ?_
  · refine S_If <| T_Compare <| E_loc rfl <| E_none <| O_isnot_none <| T_bool ?_
    rcases hk with ⟨rfl, rfl⟩ | ⟨l, rfl, ol, hl⟩
    · exact S_nil ⟨rfl, [], rfl, rfl, rfl, Nat.le_refl _, fun r => by simp [keyAt]⟩
    · have hld : l ≠ d := fun e => by rw [e, hρ] at hl; cases hl
      refine S_cons <| S_ForList <| E_loc rfl ⟨l, ks.map .ref, fun r μ σ => ∃ rs done, r = rs.map AV.ref ∧ ks = done ++ rs ∧ J done μ σ, rfl, ⟨ks, [], rfl, rfl, [], rfl, rfl, rfl, Nat.le_refl _, fun r => by simp [keyAt]⟩, ?_, ?_, ?_⟩
      · rintro r μ σ ⟨rs, done, -, -, kd, rfl, -⟩
        rw [ol.get, Hp.set_ne hld]; exact hl
      · rintro b hb x r μ σ ⟨rs, done, e1, e2, kd, rfl, f1, f2, f3, f4⟩
        cases rs with
        | nil => cases e1
        | cons a rs =>
          cases e1
          obtain ⟨i, hia⟩ := Option.isSome_iff_exists.mp (hi a (by rw [e2]; simp))
          have hkl : kd.length ≤ 1000000 := by
            have : done.length ≤ ks.length := by rw [e2]; simp
            omega
          refine ⟨.inl ⟨_, _, rfl⟩, fun v hv => A_Name hv ?_⟩
          refine S_cons <| S_AssignSub <| E_bool <| E_loc (upd_ne f2 (by decide)) <| E_Attr <| E_loc (upd_self _ _ _) <| R_item w hia rfl <| J_idict (xs := kd) (by rw [od.get, Hp.set_self]) hkl ?_
          rw [od.set, Hp.set_set]
          refine S_nil ⟨rs, done ++ [a], rfl, by rw [e2]; simp, putAt kd i.reg (.bool true), rfl, upd_ne f1 (by decide), upd_ne f2 (by decide), ?_, fun r => ?_⟩
          · unfold putAt; split <;> simp <;> omega
          · rw [keyAt_put]
            constructor
            · intro z
              split at z
              · rename_i e; exact ⟨a, by simp, i, hia, e.symm⟩
              · obtain ⟨k, hk, q⟩ := (f4 r).mp z; exact ⟨k, by simp [hk], q⟩
            · rintro ⟨k, hk, j, hj, rfl⟩
              split
              · rfl
              · rename_i ne
                rcases List.mem_append.mp hk with hk | hk
                · exact (f4 _).mpr ⟨k, hk, j, hj, rfl⟩
                · cases List.mem_singleton.mp hk; rw [hia] at hj; cases hj; exact absurd rfl ne
      · rintro μ σ ⟨rs, done, e1, e2, q⟩
        cases rs with
        | nil => rw [List.append_nil] at e2; subst e2; exact S_nil ⟨rfl, q⟩
        | cons _ _ => cases e1
  · subst e
    obtain ⟨kd, rfl, f1, f2, -, f4⟩ := q
    refine S_cons <| S_ForList <| E_Attr <| E_loc f1 <| A_data (canon_at w 3) rfl ⟨A.at_ 5, S.order.map .int, fun r μ σ => ∃ rs, r = rs.map AV.int ∧ (∀ x ∈ rs, x ∈ S.order) ∧ (∃ x ∈ rs, ∀ k ∈ ks, ∀ i, S.items k = some i → i.reg ≠ x) ∧ HasL μ "kept" (.ref d) ∧ σ = canon A rt S (ρ.set d (.idict kd)), rfl, ⟨S.order, rfl, fun _ z => z, hex, f2, rfl⟩, ?_, ?_, ?_⟩
    · rintro r μ σ ⟨rs, -, -, -, -, rfl⟩; exact canon_at w 5
    · rintro b hb x r μ σ ⟨rs, e1, e2, e3, e4, rfl⟩
      cases rs with
      | nil => cases e1
      | cons a rs =>
        cases e1
        refine ⟨.inl ⟨_, _, rfl⟩, fun v hv => A_Name hv ?_⟩
        refine S_cons <| S_If <| T_Compare <| E_loc (upd_self _ _ _) <| E_loc (upd_ne e4 (by decide)) <| O_notin (xs := kd) (by rw [od.get, Hp.set_self]) <| T_bool ?_
        cases q : keyAt kd a with
        | none =>
          refine W.forget (σ' := canon A rt S ρ) ?_ (back _)
          refine S_cons <| S_Return <| E_loc (upd_self _ _ _) <| h a (e2 a (.head _)) fun k hk i hi e => ?_
          have := (f4 a).mpr ⟨k, hk, i, hi, e⟩
          rw [q] at this; cases this
        | some y =>
          refine S_nil <| S_nil ⟨rs, rfl, fun x hx => e2 x (.tail _ hx), ?_, upd_ne e4 (by decide), rfl⟩
          obtain ⟨x, hx, hx2⟩ := e3
          rcases List.mem_cons.mp hx with rfl | hx
          · obtain ⟨k, hk, i, hi, e⟩ := (f4 x).mp (by rw [q]; rfl)
            exact absurd e (hx2 k hk i hi)
          · exact ⟨x, hx, hx2⟩
    · rintro μ σ ⟨rs, e1, -, ⟨x, hx, -⟩, -⟩
      cases rs with
      | nil => cases hx
      | cons _ _ => cases e1
end Mine
end

section
open PySem PySem.W PySem.Calls PyProof.Rows
namespace Mine

variable {G : Gx} (hK : KG G) {A : Ad} {rt : List Addr} {S : St} {ρ : Hp} {n : Nat} {Q : AV → Hp → Prop}

theorem map_eraseI {α β : Type} (f : α → β) (xs : List α) (k : Nat) : (xs.map f).eraseIdx k = (xs.eraseIdx k).map f := by
  simp only [List.eraseIdx_eq_take_drop_succ, List.map_append, List.map_take, List.map_drop]
/-- sizes -/
structure Sz (S : St) : Prop where
  own : S.own.length ≤ 50000
  order : S.order.length ≤ 50000
  temps : S.temps.length ≤ 50000
  spilled : S.spilled.length ≤ 50000
  rows : S.rows.length ≤ 50000
/-- a slot taken -/
noncomputable def tempS (S : St) : Int × St := match S.temps.getLast? with
  | some t => (t, { S with temps := S.temps.dropLast })
  | none => (S.low - 4, { S with low := S.low - 4, lowest := min S.lowest (S.low - 4) })
include hK
theorem F_temp (w : Wf A rt S) (hz : Sz S) (h : Q (.int (tempS S).1) (canon A rt (tempS S).2 ρ)) : Fn G (n + 1) 255 [.ref (A.at_ 0)] (canon A rt S ρ) Q := by
  refine' enter hK.f255 [("self", .ref (A.at_ 0))] ?he ?hbx ?hm ?_
  case he => rfl
  case hbx => rfl
  case hm => rfl
  intro cdv
  intro c hcn
  have hz3 := hz.temps
  refine S_cons <| S_If <| T_Compare <| E_Call1 <| E_built (n_len hK) rfl rfl <| EVs_cons <| E_Attr <| E_loc rfl <| R_coder w "free_temps" rfl <| EVs_nil ⟨trivial, C_len (canon_at w 7) (E_int <| O_gt <| T_bool ?_) (by simp; omega)⟩
  cases q : S.temps.getLast? with
  | none =>
    have e : S.temps = [] := List.getLast?_eq_none_iff.mp q
    have hs : tempS S = (S.low - 4, { S with low := S.low - 4, lowest := min S.lowest (S.low - 4) }) := by unfold tempS; rw [q]
    rw [hs] at h
    rw [e]
    refine S_nil <| S_cons <| S_AugAttr <| E_loc rfl <| R_coder w "low" rfl <| E_int <| O_isub <| W_low w ?_
    have w1 : Wf A rt { S with low := S.low - 4 } := w.of
    refine S_cons <| S_AssignAttr <| E_Call1 <| E_built (n_min hK) rfl rfl <| EVs_cons <| E_Attr <| E_loc rfl <| R_coder w1 "lowest" rfl <| EVs_cons <| E_Attr <| E_loc rfl <| R_coder w1 "low" rfl <| EVs_nil ⟨trivial, C_min <| E_loc rfl <| W_lowest w1 ?_⟩
    have w2 : Wf A rt { S with low := S.low - 4, lowest := min S.lowest (S.low - 4) } := w.of
    exact S_cons <| S_Return <| E_Attr <| E_loc rfl <| R_coder w2 "low" rfl h
  | some t =>
    have hs : tempS S = (t, { S with temps := S.temps.dropLast }) := by unfold tempS; rw [q]
    rw [hs] at h
    have hne : S.temps ≠ [] := fun e => by rw [e] at q; cases q
    have hpos : 0 < S.temps.length := List.length_pos_iff.mpr hne
    have hb : decide ((0 : Int) < ((S.temps.map AV.int).length : Nat)) = true := by simp; omega
    rw [hb]
    refine S_cons <| S_Return <| E_Meth0 <| E_Attr <| E_loc rfl <| R_coder w "free_temps" rfl <| M_list (canon_at w 7) PySem.F.slot_list_pop rfl ⟨trivial, C_pop (x := .int t) (canon_at w 7) ?_ (by simp; omega) ?_⟩
    · rw [List.length_map, List.getElem?_map, ← List.getLast?_eq_getElem?, q]; rfl
    · have e : (S.temps.map AV.int).eraseIdx ((S.temps.map AV.int).length - 1) = S.temps.dropLast.map AV.int := by
        rw [List.length_map, map_eraseI, List.eraseIdx_eq_take_drop_succ, List.drop_of_length_le (by omega), List.append_nil, List.dropLast_eq_take]
      rw [e, set_temps w]
      exact h

theorem F_freeTemp {x : Int} (w : Wf A rt S) (hz : S.temps.length ≤ 100000) (h : Q .none (canon A rt { S with temps := S.temps ++ [x] } ρ)) : Fn G (n + 1) 262 [.ref (A.at_ 0), .int x] (canon A rt S ρ) Q := by
  refine' enter hK.f262 [("self", .ref (A.at_ 0)), ("offset", .int x)] ?he ?hbx ?hm ?_
  case he => rfl
  case hbx => rfl
  case hm => rfl
  intro cdv
  intro c hcn
  refine S_cons <| S_Expr <| E_Meth1 <| E_Attr <| E_loc rfl <| R_coder w "free_temps" rfl <| M_list (canon_at w 7) PySem.slot_list_append rfl <| EVs_cons <| E_loc rfl <| EVs_nil ⟨trivial, C_append (canon_at w 7) (by simp; omega) ⟨trivial, ?_⟩⟩
  rw [show S.temps.map AV.int ++ [AV.int x] = (S.temps ++ [x]).map AV.int by simp, set_temps w]
  exact S_nil h

theorem F_frame (w : Wf A rt S) (h : Q (.int (4 * S.out - S.lowest)) (canon A rt S ρ)) (hm : IntMulOk 4 S.out) : Fn G (n + 1) 241 [.ref (A.at_ 0)] (canon A rt S ρ) Q := by
  refine' enter hK.f241 [("self", .ref (A.at_ 0))] ?he ?hbx ?hm ?_
  case he => rfl
  case hbx => rfl
  case hm => rfl
  intro cdv
  intro c hcn
  exact S_cons <| S_Return <| E_BinOp <| E_BinOp <| E_int <| E_Attr <| E_loc rfl <| R_coder w "out_words" rfl <| O_mul hm <| E_Attr <| E_loc rfl <| R_coder w "lowest" rfl <| O_sub h

theorem F_reach {x : Int} (w : Wf A rt S) (h : Q .none (canon A rt { S with out := max S.out x } ρ)) : Fn G (n + 1) 248 [.ref (A.at_ 0), .int x] (canon A rt S ρ) Q := by
  refine' enter hK.f248 [("self", .ref (A.at_ 0)), ("words", .int x)] ?he ?hbx ?hm ?_
  case he => rfl
  case hbx => rfl
  case hm => rfl
  intro cdv
  intro c hcn
  exact S_cons <| S_AssignAttr <| E_Call1 <| E_built (n_max hK) rfl rfl <| EVs_cons <| E_Attr <| E_loc rfl <| R_coder w "out_words" rfl <| EVs_cons <| E_loc rfl <| EVs_nil ⟨trivial, C_max <| E_loc rfl <| W_out w <| S_nil h⟩
end Mine
end

section
open PySem PySem.W PySem.Calls PyProof.Rows
namespace Mine

section
variable {G : Gx} (hK : KG G)
include hK
theorem mb_put : MF G.K 87 "put" 42 := hK.mb_put
theorem mp_free : MF G.K 209 "free" 172 := hK.mp_free
theorem mp_claim : MF G.K 209 "claim" 179 := hK.mp_claim
theorem mp_take : MF G.K 209 "take" 187 := hK.mp_take
theorem mp_victim : MF G.K 209 "victim" 194 := hK.mp_victim
theorem mp_give : MF G.K 209 "give" 201 := hK.mp_give
theorem mp_held : MF G.K 209 "held" 206 := hK.mp_held
theorem mc_enter : MF G.K 351 "enter" 234 := hK.mc_enter
theorem mc_frame_size : MF G.K 351 "frame_size" 241 := hK.mc_frame_size
theorem mc_reach_out : MF G.K 351 "reach_out" 248 := hK.mc_reach_out
theorem mc_temp : MF G.K 351 "temp" 255 := hK.mc_temp
theorem mc_free_temp : MF G.K 351 "free_temp" 262 := hK.mc_free_temp
theorem mc_take : MF G.K 351 "take" 270 := hK.mc_take
theorem mc_spill : MF G.K 351 "spill" 277 := hK.mc_spill
theorem mc_spill_all : MF G.K 351 "spill_all" 284 := hK.mc_spill_all
theorem mc_unspill : MF G.K 351 "unspill" 292 := hK.mc_unspill
theorem mc_release : MF G.K 351 "release" 299 := hK.mc_release
theorem mc_note_map : MF G.K 351 "note_map" 313 := hK.mc_note_map
theorem mt_new : MF G.K 408 "new" 398 := hK.mt_new
theorem n_FP : ∃ v, nsIn G.K mainGlobals "FP" = some (some v) ∧ av v = some (.int 11) := by
  exact ⟨_, hK.n_FP, rfl⟩
end
variable {G : Gx} (hK : KG G) {A : Ad} {rt rt' : List Addr} {S S' : St} {ρ : Hp} {n : Nat} {Q : AV → Hp → Prop}

/-- what is none of the coder's stays so -/
noncomputable abbrev Keep (A : Ad) (rt : List Addr) (S : St) (rt' : List Addr) (S' : St) (ρ : Hp) : Prop := ∀ b, (ρ b).isSome = true → Off A rt S b → Off A rt' S' b
/-- spilling an item -/
noncomputable def spillS (a : Addr) (i : It) (S : St) : St :=
  { (giveS i.reg ((tempS S).2.putR ⟨"STR", i.reg, 11, (tempS S).1⟩)).put1 a { i with mode := "spill", was := i.mode, slot := (tempS S).1, reg := -1 } with spilled := S.spilled ++ [((tempS S).1, a)] }
theorem tempS_eq (S : St) : ∃ t l l', (tempS S).2 = { S with temps := t, low := l, lowest := l' } := by
  unfold tempS
  split
  · exact ⟨_, _, _, rfl⟩
  · exact ⟨_, _, _, rfl⟩
include hK
theorem F_spill {a : Addr} {i : It} (w : Wf A rt S) (hz : Sz S) (ha : S.items a = some i) (hr : ∃ p ∈ S.own, p.1 = i.reg) (ho : i.reg ∈ S.order) (hs : ∀ p ∈ S.spilled, p.1 ≠ (tempS S).1)
    (h : ∀ rt', Wf A rt' (spillS a i S) → Keep A rt S rt' (spillS a i S) ρ → Q .none (canon A rt' (spillS a i S) ρ)) : Fn G (n + 2) 277 [.ref (A.at_ 0), .ref a] (canon A rt S ρ) Q := by
  refine' enter hK.f277 [("self", .ref (A.at_ 0)), ("item", .ref a)] ?he ?hbx ?hm ?_
  case he => rfl
  case hbx => rfl
  case hm => rfl
  intro cdv
  intro c hcn
  have hn : n + 1 ≤ c.n := Nat.le_of_eq hcn.symm
  obtain ⟨vF, hF, hF'⟩ := n_FP hK
  refine S_cons <| S_AssignName <| E_Meth0 <| E_loc rfl <| M_cls (canon_at w 0) (mc_temp hK).fi (mc_temp hK).fn ⟨.inl (mc_temp hK).kp, C_fn hn <| F_temp hK w hz ?_⟩
  unfold spillS at h
  obtain ⟨tt, l, l', eT⟩ := tempS_eq S
  rw [eT] at h ⊢
  generalize (tempS S).1 = slot at h hs ⊢
  generalize eS : ({ S with temps := tt, low := l, lowest := l' } : St) = S1 at h ⊢
  have w1 : Wf A rt S1 := eS ▸ w.of
  have ha1 : S1.items a = some i := eS ▸ ha
  have hz1 : S1.own.length ≤ 50000 ∧ S1.order.length ≤ 50000 ∧ S1.rows.length ≤ 50000 ∧ S1.spilled.length ≤ 50000 := by subst eS; exact ⟨hz.own, hz.order, hz.rows, hz.spilled⟩
  have hsp : S1.spilled = S.spilled := eS ▸ rfl
  have hr1 : ∃ p ∈ S1.own, p.1 = i.reg := eS ▸ hr
  have ho1 : i.reg ∈ S1.order := eS ▸ ho
  have o1 : ∀ b, Off A rt S b → Off A rt S1 b := fun b o => eS ▸ o.of
  clear eS eT
  refine S_cons <| S_Expr <| E_Meth1 <| E_Attr <| E_loc rfl <| R_coder w1 "buf" rfl <| M_cls (canon_at w1 1) (mb_put hK).fi (mb_put hK).fn <| EVs_cons <| E_str <| EVs_cons <| E_Attr <| E_loc rfl <| R_item w1 ha1 rfl <| EVs_cons <| E_glob hF hF' <| EVs_cons <| E_loc rfl <| EVs_nil ⟨.inl (mb_put hK).kp, C_fn hn <| F_put hK (canon_at w1 1) (canon_at w1 2) (by rw [List.length_map, w1.rl]; omega) fun t ht => ⟨trivial, ?_⟩⟩
  rw [show rowT (Str.ofString "STR") (AV.int i.reg) (AV.int 11) (AV.int slot) = rowO ⟨"STR", i.reg, 11, slot⟩ from rfl, canon_put _ w1 ht]
  have w2 := w1.put ⟨"STR", i.reg, 11, slot⟩ ht
  have o2 : ∀ b, (ρ b).isSome = true → Off A rt S1 b → Off A (rt ++ [t]) (S1.putR ⟨"STR", i.reg, 11, slot⟩) b := fun b hb o => o.put w1 fun e => by rw [e, (Off.of_none ht).2] at hb; cases hb
  refine S_cons <| S_Expr <| E_Meth1 <| E_Attr <| E_loc rfl <| R_coder w2 "pool" rfl <| M_cls (canon_at w2 3) (mp_give hK).fi (mp_give hK).fn <| EVs_cons <| E_Attr <| E_loc rfl <| R_item w2 ha1 rfl <| EVs_nil ⟨.inl (mp_give hK).kp, C_fn hn <| F_give hK w2 hr1 ho1 ⟨by show S1.own.length ≤ _; omega, by show S1.order.length ≤ _; omega⟩ ⟨trivial, ?_⟩⟩
  have w3 : Wf A (rt ++ [t]) (giveS i.reg (S1.putR ⟨"STR", i.reg, 11, slot⟩)) := w2.of
  have o3 : ∀ b, Off A (rt ++ [t]) (S1.putR ⟨"STR", i.reg, 11, slot⟩) b → Off A (rt ++ [t]) (giveS i.reg (S1.putR ⟨"STR", i.reg, 11, slot⟩)) b := fun b o => o.of
  have ha3 : (giveS i.reg (S1.putR ⟨"STR", i.reg, 11, slot⟩)).items a = some i := ha1
  have hsp3 : (giveS i.reg (S1.putR ⟨"STR", i.reg, 11, slot⟩)).spilled = S.spilled := hsp
  generalize giveS i.reg (S1.putR ⟨"STR", i.reg, 11, slot⟩) = S3 at *
  refine S_cons <| S_AssignAttr <| E_Attr <| E_loc rfl <| R_item w3 ha3 rfl <| E_loc rfl <| W_was w3 ha3 ?_
  refine S_cons <| S_AssignAttr <| E_str <| E_loc rfl <| W_mode (w3.put1 ha3) put1_self ?_
  refine S_cons <| S_AssignAttr <| E_loc rfl <| E_loc rfl <| W_slot ((w3.put1 ha3).put1 put1_self) put1_self ?_
  refine S_cons <| S_AssignAttr <| E_UnaryOp <| E_int <| O_neg <| E_loc rfl <| W_reg (((w3.put1 ha3).put1 put1_self).put1 put1_self) put1_self ?_
  rw [put1_put1, put1_put1, put1_put1]
  have w4 := w3.put1 (i := { i with mode := "spill", was := i.mode, slot := slot, reg := -1 }) ha3
  refine S_cons <| S_AssignSub <| E_loc rfl <| E_Attr <| E_loc rfl <| R_coder w4 "spilled" rfl <| E_loc rfl <| J_idict (canon_at w4 8) (by show (refs S3.spilled).length ≤ _; simp [refs, hsp3]; have := hz.spilled; omega) ?_
  rw [show (S3.put1 a { i with mode := "spill", was := i.mode, slot := slot, reg := -1 }).spilled = S.spilled from hsp3, putAt_refs hs, set_spilled w4]
  refine S_nil (h (rt ++ [t]) w4.of fun b hb o => ?_)
  exact ((o3 b (o2 b hb (o1 b o))).put1 ha3).of
end Mine
end

section
open PySem PySem.W PySem.Calls PyProof.Rows
namespace Mine

variable {G : Gx} (hK : KG G) {A : Ad} {rt rt' : List Addr} {S S' : St} {ρ : Hp} {n : Nat} {Q : AV → Hp → Prop}
theorem keyAt_no {xs : List (Int × Addr)} {k : Int} (h : keyAt (refs xs) k = none) : ∀ p ∈ xs, p.1 ≠ k := fun p hp e => by
  rw [keyAt_refs, Option.map_eq_none_iff, List.find?_eq_none] at h
  exact h p hp (by simpa using e)
theorem keyAt_yes {xs : List (Int × Addr)} {k : Int} (h : (keyAt (refs xs) k).isSome = true) : ∃ v, keyAt (refs xs) k = some (.ref v) ∧ (k, v) ∈ xs := by
  rw [keyAt_refs] at h ⊢
  rw [Option.isSome_map] at h
  obtain ⟨p, hp⟩ := Option.isSome_iff_exists.mp h
  refine ⟨p.2, by rw [hp]; rfl, ?_⟩
  have := List.find?_some hp
  have e : p.1 = k := by simpa using this
  rw [← e]; exact List.mem_of_find?_eq_some hp
theorem keyAt_mem {xs : List (Int × Addr)} {k : Int} (h : ∃ p ∈ xs, p.1 = k) : (keyAt (refs xs) k).isSome = true := by
  obtain ⟨p, hp, e⟩ := h
  rw [keyAt_refs, Option.isSome_map, List.find?_isSome]
  exact ⟨p, hp, by simpa using e⟩
/-- the coder's own order -/
structure Co (S : St) : Prop where
  ord : S.order = S.own.map (·.1)
  regs : ∀ p ∈ S.own, ∃ i, S.items p.2 = some i ∧ i.reg = p.1
  slot : ∀ p ∈ S.spilled, p.1 ≠ (tempS S).1
/-- what a taking of a register may end in -/
noncomputable def TakeR (A : Ad) (S : St) (a : Addr) (i : It) (ks : List Addr) (r : Int) (S' : St) : Prop :=
  (0 ≤ r ∧ r < A.count ∧ (∀ p ∈ S.own, p.1 ≠ r) ∧ S' = claimS a i r S) ∨
  ((∀ j, 0 ≤ j → j < A.count → (keyAt (refs S.own) j).isSome = true) ∧ r ∈ S.order ∧ (∀ k ∈ ks, ∀ i, S.items k = some i → i.reg ≠ r) ∧ ∃ v iv, (r, v) ∈ S.own ∧ S.items v = some iv ∧ iv.reg = r ∧ S' = claimS a i r (spillS v iv S))
theorem Wf.claim {a : Addr} {i i0 : It} {r : Int} (w : Wf A rt S) (ha : S.items a = some i0) : Wf A rt (claimS a i r S) := by
  have w2 : Wf A rt { S with own := S.own ++ [(r, a)], order := S.order ++ [r] } := w.of
  exact w2.put1 (i0 := i0) ha
theorem Off.claim {a b : Addr} {i i0 : It} {r : Int} (o : Off A rt S b) (ha : S.items a = some i0) : Off A rt (claimS a i r S) b := by
  have w2 : Off A rt { S with own := S.own ++ [(r, a)], order := S.order ++ [r] } b := o.of
  exact w2.put1 (i0 := i0) ha
theorem spill_other {a v : Addr} {iv : It} (h : a ≠ v) : (spillS v iv S).items a = S.items a := by
  obtain ⟨t, l, l', e⟩ := tempS_eq S
  unfold spillS giveS St.putR St.put1
  rw [e]
  simp [h]
theorem spill_own {v : Addr} {iv : It} : (spillS v iv S).own = S.own.filter fun p => decide (p.1 ≠ iv.reg) := by
  obtain ⟨t, l, l', e⟩ := tempS_eq S
  unfold spillS giveS St.putR St.put1
  rw [e]
theorem spill_order {v : Addr} {iv : It} : (spillS v iv S).order = S.order.erase iv.reg := by
  obtain ⟨t, l, l', e⟩ := tempS_eq S
  unfold spillS giveS St.putR St.put1
  rw [e]
include hK
theorem F_ptake {a : Addr} {i : It} {kv : AV} {ks : List Addr} (w : Wf A rt S) (hz : Sz S) (co : Co S) (hc0 : 0 ≤ A.count) (hc1 : A.count < 1000) (ha : S.items a = some i) (hna : ∀ p ∈ S.own, p.2 ≠ a) (hk : KeepIs A rt S ρ kv ks) (hi : ∀ k ∈ ks, (S.items k).isSome = true) (hzk : ks.length ≤ 100000)
    (hex : (∀ j, 0 ≤ j → j < A.count → (keyAt (refs S.own) j).isSome = true) → ∃ r ∈ S.order, ∀ k ∈ ks, ∀ i, S.items k = some i → i.reg ≠ r)
    (h : ∀ r S' rt', TakeR A S a i ks r S' → Wf A rt' S' → Keep A rt S rt' S' ρ → Q (.int r) (canon A rt' S' ρ)) : Fn G (n + 3) 187 [.ref (A.at_ 3), .ref a, kv] (canon A rt S ρ) Q := by
  refine' enter hK.f187 [("self", .ref (A.at_ 3)), ("item", .ref a), ("keep", kv)] ?he ?hbx ?hm ?_
  case he => rfl
  case hbx => rfl
  case hm => rfl
  intro cdv
  intro c hcn
  have hn : n + 2 ≤ c.n := Nat.le_of_eq hcn.symm
  refine S_cons <| S_AssignName <| E_Meth0 <| E_loc rfl <| M_cls (canon_at w 3) (mp_free hK).fi (mp_free hK).fn ⟨.inl (mp_free hK).kp, C_fn hn <| F_free hK w hc0 hc1 fun r hr => ?_⟩
  refine S_cons <| S_If <| T_Compare <| E_loc rfl <| E_int <| O_lt <| T_bool ?_
  rcases hr with ⟨h0, h1, h2⟩ | ⟨rfl, hall⟩
  · rw [show decide (r < 0) = false by simp; omega]
    have hne := keyAt_no h2
    refine S_nil <| S_cons <| S_Return <| E_Meth1 <| E_loc rfl <| M_cls (canon_at w 3) (mp_claim hK).fi (mp_claim hK).fn <| EVs_cons <| E_loc rfl <| EVs_cons <| E_loc rfl <| EVs_nil ⟨.inl (mp_claim hK).kp, C_fn hn <| F_claim hK w ha hne ⟨by have := hz.own; omega, by have := hz.order; omega⟩ ?_⟩
    exact h r _ rt (.inl ⟨h0, h1, hne, rfl⟩) (w.claim ha) fun b hb o => o.claim ha
  · refine S_cons <| S_AssignName <| E_Meth1 <| E_loc rfl <| M_cls (canon_at w 3) (mp_victim hK).fi (mp_victim hK).fn <| EVs_cons <| E_loc rfl <| EVs_nil ⟨.inl (mp_victim hK).kp, C_fn hn <| F_victim hK w hk hi hzk (hex hall) fun r hr hrk => ?_⟩
    have hmem : ∃ p ∈ S.own, p.1 = r := by rw [co.ord] at hr; simpa using List.mem_map.mp hr
    obtain ⟨v, hv, hvm⟩ := keyAt_yes (keyAt_mem hmem)
    obtain ⟨iv, hiv, hivr⟩ := co.regs _ hvm
    have hiv : S.items v = some iv := hiv
    have hivr : iv.reg = r := hivr
    have hav : a ≠ v := fun e => hna _ hvm e.symm
    refine S_cons <| S_Expr <| E_Meth1 <| E_loc rfl <| M_own (canon_at w 3) rfl <| EVs_cons <| E_Sub <| E_Attr <| E_loc rfl <| A_data (canon_at w 3) rfl <| E_loc rfl <| I_idict (canon_at w 4) hv <| EVs_nil ⟨.inr ⟨277, A.at_ 0, canon_at w 6, (mc_spill hK).fk⟩, C_meth (canon_at w 6) hn <| F_spill hK w hz hiv (by rw [hivr]; exact hmem) (by rw [hivr]; exact hr) co.slot fun rt' w' kp => ⟨trivial, S_nil ?_⟩⟩
    have ha' : (spillS v iv S).items a = some i := by rw [spill_other hav]; exact ha
    have hne : ∀ p ∈ (spillS v iv S).own, p.1 ≠ r := fun p hp => by
      rw [spill_own, hivr] at hp
      simpa using (List.mem_filter.mp hp).2
    refine S_cons <| S_Return <| E_Meth1 <| E_loc rfl <| M_cls (canon_at w' 3) (mp_claim hK).fi (mp_claim hK).fn <| EVs_cons <| E_loc rfl <| EVs_cons <| E_loc rfl <| EVs_nil ⟨.inl (mp_claim hK).kp, C_fn hn <| F_claim hK w' ha' hne ⟨?_, ?_⟩ ?_⟩
    · rw [spill_own]; exact Nat.le_trans (List.length_filter_le ..) (by have := hz.own; omega)
    · rw [spill_order]; exact Nat.le_trans (List.length_erase_le) (by have := hz.order; omega)
    · exact h r _ rt' (.inr ⟨hall, hr, hrk, v, iv, hvm, hiv, hivr, rfl⟩) (w'.claim ha') fun b hb o => (kp b hb o).claim ha'

theorem F_take {a : Addr} {i : It} {kv : AV} {ks : List Addr} (w : Wf A rt S) (hz : Sz S) (co : Co S) (hc0 : 0 ≤ A.count) (hc1 : A.count < 1000) (ha : S.items a = some i) (hna : ∀ p ∈ S.own, p.2 ≠ a) (hk : KeepIs A rt S ρ kv ks) (hi : ∀ k ∈ ks, (S.items k).isSome = true) (hzk : ks.length ≤ 100000)
    (hex : (∀ j, 0 ≤ j → j < A.count → (keyAt (refs S.own) j).isSome = true) → ∃ r ∈ S.order, ∀ k ∈ ks, ∀ i, S.items k = some i → i.reg ≠ r)
    (h : ∀ r S' rt', TakeR A S a i ks r S' → Wf A rt' S' → Keep A rt S rt' S' ρ → Q (.int r) (canon A rt' S' ρ)) : Fn G (n + 4) 270 [.ref (A.at_ 0), .ref a, kv] (canon A rt S ρ) Q := by
  refine' enter hK.f270 [("self", .ref (A.at_ 0)), ("item", .ref a), ("keep", kv)] ?he ?hbx ?hm ?_
  case he => rfl
  case hbx => rfl
  case hm => rfl
  intro cdv
  intro c hcn
  have hn : n + 3 ≤ c.n := Nat.le_of_eq hcn.symm
  exact S_cons <| S_Return <| E_Meth1 <| E_Attr <| E_loc rfl <| R_coder w "pool" rfl <| M_cls (canon_at w 3) (mp_take hK).fi (mp_take hK).fn <| EVs_cons <| E_loc rfl <| EVs_cons <| E_loc rfl <| EVs_nil ⟨.inl (mp_take hK).kp, C_fn hn <| F_ptake hK w hz co hc0 hc1 ha hna hk hi hzk hex h⟩
end Mine
end

section
open PySem PySem.W PySem.Calls PyProof.Rows
namespace Mine

variable {G : Gx} (hK : KG G) {A : Ad} {rt rt' : List Addr} {S S' : St} {ρ : Hp} {n : Nat} {Q : AV → Hp → Prop}

noncomputable def unspillS (a : Addr) (i : It) (r : Int) (S : St) : St :=
  ({ S.putR ⟨"LDR", r, 11, i.slot⟩ with spilled := S.spilled.filter fun p => decide (p.1 ≠ i.slot), temps := S.temps ++ [i.slot] } : St).put1 a { i with reg := r, mode := i.was }
structure SzT (S S' : St) : Prop where
  temps : S'.temps.length ≤ S.temps.length
  spilled : S'.spilled.length ≤ S.spilled.length + 1
  rows : S'.rows.length ≤ S.rows.length + 1
theorem tempS_len (S : St) : (tempS S).2.temps.length ≤ S.temps.length := by
  unfold tempS
  split
  · simp
  · exact Nat.le_refl _
theorem spill_temps {v : Addr} {iv : It} : (spillS v iv S).temps = (tempS S).2.temps := rfl
theorem spill_rows {v : Addr} {iv : It} : (spillS v iv S).rows = S.rows ++ [⟨"STR", iv.reg, 11, (tempS S).1⟩] := by
  obtain ⟨t, l, l', e⟩ := tempS_eq S
  unfold spillS giveS St.putR St.put1
  rw [e]
theorem TakeR.sz {a : Addr} {i : It} {ks : List Addr} {r : Int} (h : TakeR A S a i ks r S') : SzT S S' := by
  rcases h with ⟨-, -, -, rfl⟩ | ⟨-, -, -, v, iv, -, -, -, rfl⟩
  · exact ⟨Nat.le_refl _, Nat.le_succ _, Nat.le_succ _⟩
  · refine ⟨?_, ?_, ?_⟩
    · show (spillS v iv S).temps.length ≤ _; rw [spill_temps]; exact tempS_len S
    · show (S.spilled ++ [_]).length ≤ _; simp
    · show (spillS v iv S).rows.length ≤ _; rw [spill_rows]; simp
theorem TakeR.sp {a : Addr} {i : It} {ks : List Addr} {r : Int} (h : TakeR A S a i ks r S') : ∀ p ∈ S.spilled, p ∈ S'.spilled := by
  rcases h with ⟨-, -, -, rfl⟩ | ⟨-, -, -, v, iv, -, -, -, rfl⟩
  · exact fun p hp => hp
  · intro p hp
    show p ∈ S.spilled ++ [_]
    simp [hp]
theorem TakeR.it {a : Addr} {i : It} {ks : List Addr} {r : Int} (h : TakeR A S a i ks r S') : S'.items a = some { i with reg := r } := by
  rcases h with ⟨-, -, -, rfl⟩ | ⟨-, -, -, v, iv, -, -, -, rfl⟩ <;> exact put1_self

include hK
theorem F_unspill {a : Addr} {i : It} (w : Wf A rt S) (hz : Sz S) (co : Co S) (hc0 : 0 ≤ A.count) (hc1 : A.count < 1000) (ha : S.items a = some i) (hna : ∀ p ∈ S.own, p.2 ≠ a) (hsl : ∃ p ∈ S.spilled, p.1 = i.slot)
    (hex : (∀ j, 0 ≤ j → j < A.count → (keyAt (refs S.own) j).isSome = true) → ∃ r, r ∈ S.order)
    (h : ∀ r S1 rt', TakeR A S a i [] r S1 → Wf A rt' (unspillS a i r S1) → Keep A rt S rt' (unspillS a i r S1) ρ → Q .none (canon A rt' (unspillS a i r S1) ρ)) : Fn G (n + 5) 292 [.ref (A.at_ 0), .ref a] (canon A rt S ρ) Q := by
  refine' enter hK.f292 [("self", .ref (A.at_ 0)), ("item", .ref a), ("keep", .none)] ?he ?hbx ?hm ?_
  case he => rfl
  case hbx => rfl
  case hm => rfl
  intro cdv
  intro c hcn
  have hn : n + 4 ≤ c.n := Nat.le_of_eq hcn.symm
  obtain ⟨vF, hF, hF'⟩ := n_FP hK
  refine S_cons <| S_AssignName <| E_Meth1 <| E_loc rfl <| M_cls (canon_at w 0) (mc_take hK).fi (mc_take hK).fn <| EVs_cons <| E_loc rfl <| EVs_cons <| E_loc rfl <| EVs_nil ⟨.inl (mc_take hK).kp, C_fn hn <| F_take hK (ks := []) w hz co hc0 hc1 ha hna (.inl ⟨rfl, rfl⟩) (fun _ z => nomatch z) (by simp) (fun q => let ⟨r, hr⟩ := hex q; ⟨r, hr, fun _ z => nomatch z⟩) fun r S1 rt1 tk w1 kp1 => ?_⟩
  have ha1 := tk.it
  have sz := tk.sz
  have hsl1 : ∃ p ∈ S1.spilled, p.1 = i.slot := let ⟨p, hp, e⟩ := hsl; ⟨p, tk.sp p hp, e⟩
  have z1 := sz.temps
  have z2 := sz.spilled
  have z3 := sz.rows
  have z4 := hz.temps
  have z5 := hz.spilled
  have z6 := hz.rows
  refine S_cons <| S_Expr <| E_Meth1 <| E_Attr <| E_loc rfl <| R_coder w1 "buf" rfl <| M_cls (canon_at w1 1) (mb_put hK).fi (mb_put hK).fn <| EVs_cons <| E_str <| EVs_cons <| E_loc rfl <| EVs_cons <| E_glob hF hF' <| EVs_cons <| E_Attr <| E_loc rfl <| R_item w1 ha1 rfl <| EVs_nil ⟨.inl (mb_put hK).kp, C_fn (n := n + 4) hn <| F_put hK (canon_at w1 1) (canon_at w1 2) (by rw [List.length_map, w1.rl]; omega) fun t ht => ⟨trivial, ?_⟩⟩
  rw [show rowT (Str.ofString "LDR") (AV.int r) (AV.int 11) (AV.int i.slot) = rowO ⟨"LDR", r, 11, i.slot⟩ from rfl, canon_put _ w1 ht]
  have w2 := w1.put ⟨"LDR", r, 11, i.slot⟩ ht
  have o2 : ∀ b, (ρ b).isSome = true → Off A rt1 S1 b → Off A (rt1 ++ [t]) (S1.putR ⟨"LDR", r, 11, i.slot⟩) b := fun b hb o => o.put w1 fun e => by rw [e, (Off.of_none ht).2] at hb; cases hb
  refine S_cons <| S_DelSub <| E_Attr <| E_loc rfl <| R_coder w2 "spilled" rfl <| E_Attr <| E_loc rfl <| R_item w2 ha1 rfl <| D_idict (canon_at w2 8) (keyAt_mem hsl1) (by show (refs S1.spilled).length ≤ _; simp [refs]; omega) ?_
  rw [dropAt_refs, set_spilled w2]
  have w3 : Wf A (rt1 ++ [t]) { S1.putR ⟨"LDR", r, 11, i.slot⟩ with spilled := S1.spilled.filter fun p => decide (p.1 ≠ i.slot) } := w2.of
  refine S_cons <| S_Expr <| E_Meth1 <| E_loc rfl <| M_cls (canon_at w3 0) (mc_free_temp hK).fi (mc_free_temp hK).fn <| EVs_cons <| E_Attr <| E_loc rfl <| R_item w3 ha1 rfl <| EVs_nil ⟨.inl (mc_free_temp hK).kp, C_fn (n := n + 4) hn <| F_freeTemp hK w3 (by show S1.temps.length ≤ _; omega) ⟨trivial, ?_⟩⟩
  have w4 : Wf A (rt1 ++ [t]) { S1.putR ⟨"LDR", r, 11, i.slot⟩ with spilled := S1.spilled.filter fun p => decide (p.1 ≠ i.slot), temps := S1.temps ++ [i.slot] } := w2.of
  refine S_cons <| S_AssignAttr <| E_Attr <| E_loc rfl <| R_item w4 ha1 rfl <| E_loc rfl <| W_mode w4 ha1 <| S_nil ?_
  refine h r S1 (rt1 ++ [t]) tk (w4.put1 ha1) fun b hb o => ?_
  have o4 : Off A (rt1 ++ [t]) { S1.putR ⟨"LDR", r, 11, i.slot⟩ with spilled := S1.spilled.filter fun p => decide (p.1 ≠ i.slot), temps := S1.temps ++ [i.slot] } b := (o2 b hb (kp1 b hb o)).of
  exact o4.put1 ha1

theorem F_holds {a : Addr} {i : It} (w : Wf A rt S) (ha : S.items a = some i) (hm : i.mode = "reg") (h : Q (.bool true) (canon A rt S ρ)) : Fn G (n + 1) 119 [.ref a] (canon A rt S ρ) Q := by
  refine' enter hK.f119 [("item", .ref a)] ?he ?hbx ?hm ?_
  case he => rfl
  case hbx => rfl
  case hm => rfl
  intro cdv
  intro c hcn
  refine S_cons <| S_Return <| E_Or2 <| E_Compare <| E_Attr <| E_loc rfl <| R_item w ha rfl <| E_str <| O_eq_str <| T_bool ?_
  rw [hm]
  exact h
theorem n_holds : nsIn G.K mainGlobals "holds_register" = some (some (.ref 119)) ∧ keepIn G.K (.ref 119) = true := hK.n_holds

noncomputable def releaseS (a : Addr) (i : It) (S : St) : St :=
  if i.mode = "spill" then ({ S with spilled := S.spilled.filter fun p => decide (p.1 ≠ i.slot), temps := S.temps ++ [i.slot] } : St).put1 a { i with mode := "none" } else (giveS i.reg S).put1 a { i with mode := "none" }
theorem F_release {a : Addr} {i : It} (w : Wf A rt S) (hz : Sz S) (ha : S.items a = some i) (hm : (i.mode = "spill" ∧ ∃ p ∈ S.spilled, p.1 = i.slot) ∨ (i.mode = "reg" ∧ (∃ p ∈ S.own, p.1 = i.reg) ∧ i.reg ∈ S.order))
    (h : Wf A rt (releaseS a i S) → (∀ b, Off A rt S b → Off A rt (releaseS a i S) b) → Q .none (canon A rt (releaseS a i S) ρ)) : Fn G (n + 2) 299 [.ref (A.at_ 0), .ref a] (canon A rt S ρ) Q := by
  refine' enter hK.f299 [("self", .ref (A.at_ 0)), ("item", .ref a)] ?he ?hbx ?hm ?_
  case he => rfl
  case hbx => rfl
  case hm => rfl
  intro cdv
  intro c hcn
  have hn : n + 1 ≤ c.n := Nat.le_of_eq hcn.symm
  have z4 := hz.temps
  have z5 := hz.spilled
  refine S_cons <| S_If <| T_Compare <| E_Attr <| E_loc rfl <| R_item w ha rfl <| E_str <| O_eq_str <| T_bool ?_
  rcases hm with ⟨hm, hs⟩ | ⟨hm, hr, ho⟩
  · have e : releaseS a i S = ({ S with spilled := S.spilled.filter fun p => decide (p.1 ≠ i.slot), temps := S.temps ++ [i.slot] } : St).put1 a { i with mode := "none" } := by unfold releaseS; rw [if_pos hm]
    rw [e] at h
    rw [hm]
    refine S_cons <| S_DelSub <| E_Attr <| E_loc rfl <| R_coder w "spilled" rfl <| E_Attr <| E_loc rfl <| R_item w ha rfl <| D_idict (canon_at w 8) (keyAt_mem hs) (by simp [refs]; omega) ?_
    rw [dropAt_refs, set_spilled w]
    have w3 : Wf A rt { S with spilled := S.spilled.filter fun p => decide (p.1 ≠ i.slot) } := w.of
    refine S_cons <| S_Expr <| E_Meth1 <| E_loc rfl <| M_cls (canon_at w3 0) (mc_free_temp hK).fi (mc_free_temp hK).fn <| EVs_cons <| E_Attr <| E_loc rfl <| R_item w3 ha rfl <| EVs_nil ⟨.inl (mc_free_temp hK).kp, C_fn hn <| F_freeTemp hK w3 (by show S.temps.length ≤ _; omega) ⟨trivial, ?_⟩⟩
    have w4 : Wf A rt { S with spilled := S.spilled.filter fun p => decide (p.1 ≠ i.slot), temps := S.temps ++ [i.slot] } := w.of
    refine S_nil <| S_cons <| S_AssignAttr <| E_str <| E_loc rfl <| W_mode w4 ha <| S_nil <| h (w4.put1 ha) fun b o => ?_
    have o4 : Off A rt { S with spilled := S.spilled.filter fun p => decide (p.1 ≠ i.slot), temps := S.temps ++ [i.slot] } b := o.of
    exact o4.put1 ha
  · have e : releaseS a i S = (giveS i.reg S).put1 a { i with mode := "none" } := by unfold releaseS; rw [if_neg (by rw [hm]; decide)]
    rw [e] at h
    rw [hm]
    refine S_cons <| S_If <| T_val <| E_Call1 <| E_glob (n_holds hK).1 rfl <| EVs_cons <| E_loc rfl <| EVs_nil ⟨.inl (n_holds hK).2, C_fn hn <| F_holds hK w ha hm <| T_bool ?_⟩
    refine S_cons <| S_Expr <| E_Meth1 <| E_Attr <| E_loc rfl <| R_coder w "pool" rfl <| M_cls (canon_at w 3) (mp_give hK).fi (mp_give hK).fn <| EVs_cons <| E_Attr <| E_loc rfl <| R_item w ha rfl <| EVs_nil ⟨.inl (mp_give hK).kp, C_fn hn <| F_give hK w hr ho ⟨by have := hz.own; omega, by have := hz.order; omega⟩ ⟨trivial, ?_⟩⟩
    have w4 : Wf A rt (giveS i.reg S) := w.of
    refine S_nil <| S_nil <| S_cons <| S_AssignAttr <| E_str <| E_loc rfl <| W_mode w4 ha <| S_nil <| h (w4.put1 ha) fun b o => ?_
    have o4 : Off A rt (giveS i.reg S) b := o.of
    exact o4.put1 ha
end Mine
end

section
open PySem PySem.W PySem.Calls PyProof.Rows
namespace Mine

variable {G : Gx} (hK : KG G) {A : Ad} {rt rt' : List Addr} {S S' : St} {ρ : Hp} {n : Nat} {Q : AV → Hp → Prop}

theorem nodup_key {α β : Type} {k : α} {a b : β} : ∀ {xs : List (α × β)}, (xs.map (·.1)).Nodup → (k, a) ∈ xs → (k, b) ∈ xs → a = b
  | [], _, h, _ => nomatch h
  | p :: r, hN, h1, h2 => by
    rw [List.map_cons, List.nodup_cons] at hN
    rcases List.mem_cons.mp h1 with rfl | m1 <;> rcases List.mem_cons.mp h2 with e | m2
    · exact (Prod.mk.inj e).2.symm
    · exact absurd (List.mem_map_of_mem (f := (·.1)) m2) hN.1
    · subst e; exact absurd (List.mem_map_of_mem (f := (·.1)) m1) hN.1
    · exact nodup_key hN.2 m1 m2
/-- the roots among the spilled -/
noncomputable def rootSlots (S : St) (xs : List (Int × Addr)) : List Int := (xs.filter fun p => match S.items p.2 with | some i => i.root | none => false).map (·.1)
theorem Hp.del_set {σ : Hp} {a : Addr} {o : AObj} (h : σ a = some o) : (σ.del a).set a o = σ := by
  funext b
  by_cases e : b = a
  · subst e; rw [Hp.set_self, h]
  · rw [Hp.set_ne e, Hp.del_ne e]
theorem Hp.set_del {σ : Hp} {a b : Addr} {o : AObj} (h : a ≠ b) : (σ.del b).set a o = (σ.set a o).del b := by
  funext x
  unfold Hp.set Hp.del
  by_cases e : x = a
  · subst e; simp [h]
  · simp [e]
include hK
theorem F_noteMap {row : Int} (w : Wf A rt S) (hz : Sz S) (hm : S.maps.length ≤ 50000) (hi : ∀ p ∈ S.spilled, (S.items p.2).isSome = true) (hN : (S.spilled.map (·.1)).Nodup) (hl : S.roots.length + S.spilled.length < 64)
    (h : ∀ m, canon A rt S ρ m = none → Q .none (canon A rt { S with maps := putAt S.maps row (.ref m) } (ρ.set m (.list ((S.roots ++ rootSlots S S.spilled).mergeSort.map .int))))) : Fn G (n + 2) 313 [.ref (A.at_ 0), .int row] (canon A rt S ρ) Q := by
  refine' enter hK.f313 [("self", .ref (A.at_ 0)), ("row", .int row)] ?he ?hbx ?hm ?_
  case he => rfl
  case hbx => rfl
  case hm => rfl
  intro cdv
  intro c hcn
  have hn : n + 1 ≤ c.n := Nat.le_of_eq hcn.symm
  refine S_cons <| S_AssignName <| E_Call1 <| E_built (n_list hK) rfl rfl <| EVs_cons <| E_Attr <| E_loc rfl <| R_coder w "roots" rfl <| EVs_nil ⟨trivial, C_list (canon_at w 9) (by simp; omega) fun o ho => ?_⟩
  obtain ⟨oo, hρ⟩ := Off.of_none ho
  rw [oo.set]
  have o8 : o ≠ A.at_ 8 := fun e => oo.at_ 8 (by decide) e.symm
  have rl : ∀ xs, (rootSlots S xs).length ≤ xs.length := fun xs => by unfold rootSlots; rw [List.length_map]; exact List.length_filter_le ..
  refine S_cons <| S_ForDict <| E_Attr <| E_loc rfl <| R_coder w "spilled" rfl ⟨A.at_ 8, refs S.spilled, fun r μ σ => ∃ rs done, r = refs rs ∧ S.spilled = done ++ rs ∧ HasL μ "self" (.ref (A.at_ 0)) ∧ HasL μ "offsets" (.ref o) ∧ HasL μ "row" (.int row) ∧ σ = (canon A rt S (ρ.set o (.list ((S.roots ++ rootSlots S done).map .int)))).del (A.at_ 8), rfl, canon_at w 8, ⟨S.spilled, [], rfl, rfl, rfl, rfl, rfl, by simp [rootSlots]⟩, ?_, ?_⟩
  · rintro b hb kv x r μ σ hd hv ⟨rs, done, e1, e2, f1, f2, f3, rfl⟩
    cases rs with
    | nil => cases e1
    | cons p rs =>
      cases e1
      obtain ⟨s, a⟩ := p
      obtain ⟨i, hia⟩ := Option.isSome_iff_exists.mp (hi (s, a) (by rw [e2]; simp))
      replace hia : S.items a = some i := hia
      have hk : keyAt (refs S.spilled) s = some (.ref a) := by
        obtain ⟨v, hv, hm⟩ := keyAt_yes (keyAt_mem (xs := S.spilled) (k := s) ⟨(s, a), by rw [e2]; simp, rfl⟩)
        rw [hv]
        have h1 : (s, a) ∈ S.spilled := by rw [e2]; simp
        have := nodup_key hN hm h1
        rw [this]
      have d8 : ∀ x, x ≠ A.at_ 8 → ∀ X : Hp, (X.del (A.at_ 8)) x = X x := fun x hx X => Hp.del_ne hx
      have a8 : a ≠ A.at_ 8 := fun e => w.nit hia 8 (by decide) e.symm
      have a0 : A.at_ 0 ≠ A.at_ 8 := fun e => by have := w.inj 0 8 (by decide) (by decide) e; omega
      have hlen : (S.roots ++ rootSlots S done).length ≤ 1000000 := by
        have := rl done
        have : done.length ≤ S.spilled.length := by rw [e2]; simp
        rw [List.length_append]; omega
      have hroot : rootSlots S (done ++ [(s, a)]) = rootSlots S done ++ if i.root then [s] else [] := by
        unfold rootSlots
        rw [List.filter_append, List.map_append]
        congr 1
        cases q : i.root <;> simp [List.filter_cons, hia, q]
      refine ⟨⟨_, _, rfl⟩, fun v hv' => A_Name hv' ?_⟩
      refine S_cons <| S_If <| T_val <| E_Attr <| E_Sub <| E_Attr <| E_loc (upd_ne f1 (by decide)) <| A_data (at' := coderAt A S) (C := 351) (by rw [d8 _ a0]; exact canon_at w 0) rfl <| E_loc (upd_self _ _ _) <| I_idictB (c := c.rebase b hb) hd hv hk <| A_data (at' := itemAt i) (C := 108) (by rw [d8 _ a8]; exact canon_it w hia) rfl <| T_bool ?_
      cases q : i.root with
      | false =>
        refine S_nil <| S_nil ⟨rs, done ++ [(s, a)], rfl, by rw [e2]; simp, upd_ne f1 (by decide), upd_ne f2 (by decide), upd_ne f3 (by decide), ?_⟩
        rw [hroot, q]; simp
      | true =>
        refine S_cons <| S_Expr <| E_Meth1 <| E_loc (upd_ne f2 (by decide)) <| M_list (xs := (S.roots ++ rootSlots S done).map .int) (by rw [d8 _ o8, oo.get, Hp.set_self]) PySem.slot_list_append rfl <| EVs_cons <| E_loc (upd_self _ _ _) <| EVs_nil ⟨trivial, C_append (xs := (S.roots ++ rootSlots S done).map .int) (by rw [d8 _ o8, oo.get, Hp.set_self]) (by rw [List.length_map]; exact hlen) ⟨trivial, ?_⟩⟩
        rw [Hp.set_del o8, oo.set, Hp.set_set]
        refine S_nil <| S_nil ⟨rs, done ++ [(s, a)], rfl, by rw [e2]; simp, upd_ne f1 (by decide), upd_ne f2 (by decide), upd_ne f3 (by decide), ?_⟩
        rw [hroot, q]
        simp
  · rintro μ σ ⟨rs, done, e1, e2, f1, f2, f3, rfl⟩
    cases rs with
    | cons _ _ => cases e1
    | nil =>
      rw [List.append_nil] at e2
      subst e2
      rw [Hp.del_set (o := .idict (refs S.spilled)) (canon_at w 8)]
      refine S_cons <| S_AssignSub <| E_Call1 <| E_built (n_sorted hK) rfl rfl <| EVs_cons <| E_loc f2 <| EVs_nil ⟨trivial, C_sorted (ys := S.roots ++ rootSlots S S.spilled) (by rw [oo.get, Hp.set_self]) (by have := rl S.spilled; rw [List.length_append]; omega) fun m hm' => ?_⟩
      obtain ⟨om, hρm⟩ := Off.of_none hm'
      rw [om.set]
      have hmo : m ≠ o := fun e => by rw [e, Hp.set_self] at hρm; cases hρm
      refine E_Attr <| E_loc f1 <| R_coder w "maps" rfl <| E_loc f3 <| J_idict (canon_at w 10) (by omega) ?_
      rw [set_maps w]
      refine W.forget (σ' := canon A rt { S with maps := putAt S.maps row (.ref m) } (ρ.set m (.list ((S.roots ++ rootSlots S S.spilled).mergeSort.map .int)))) ?_ (canon_sup ?_)
      · refine S_nil (h m ?_)
        rw [om.get]
        rw [Hp.set_ne hmo] at hρm; exact hρm
      · intro b x e
        by_cases z : b = m
        · subst z; rw [Hp.set_self] at e ⊢; exact e
        · rw [Hp.set_ne z] at e ⊢
          rw [Hp.set_ne]
          · exact e
          · rintro rfl; rw [hρ] at e; cases e
end Mine
end

section
open PySem PySem.W PySem.Calls PyProof.Rows
namespace Mine

variable {G : Gx} (hK : KG G) {A : Ad} {rt rt' : List Addr} {S S' : St} {ρ : Hp} {n : Nat} {Q : AV → Hp → Prop}

include hK
theorem F_held (w : Wf A rt S) (ord : S.order = S.own.map (·.1)) (hN : (S.own.map (·.1)).Nodup) (hz : S.own.length ≤ 50000)
    (h : ∀ l, canon A rt S ρ l = none → Q (.ref l) ((canon A rt S ρ).set l (.list (S.own.map fun p => .ref p.2)))) : Fn G (n + 1) 206 [.ref (A.at_ 3)] (canon A rt S ρ) Q := by
  refine' enterC hK.f206 ?he ?_
  case he => rfl
  intro cdv
  intro c hcn v o hv hc hd
  refine S_cons <| S_Return <| E_ListCompC (cl := [("self", c.L + 1)]) rfl (E_Attr <| E_cell rfl hc hd hv <| A_data (canon_at w 3) rfl <| .inl ⟨A.at_ 5, S.order.map .int, fun r acc σ => ∃ done rs, S.own = done ++ rs ∧ r = (rs.map (·.1)).map AV.int ∧ acc = done.map (fun p => AV.ref p.2) ∧ σ = canon A rt S ρ, rfl, ⟨[], S.own, rfl, by rw [ord], rfl, rfl⟩, ?_, ?_, ?_, ?_⟩) (by decide) (by decide)
  · rintro r acc σ ⟨done, rs, -, -, -, rfl⟩; exact canon_at w 5
  · rw [ord]; simp; omega
  · rintro c' hcn' st x r acc μ σ hlen ⟨done, rs, e1, e2, e3, rfl⟩
    cases rs with
    | nil => cases e2
    | cons p rs =>
      cases e2
      obtain ⟨s, a⟩ := p
      have hk : keyAt (refs S.own) s = some (.ref a) := by
        obtain ⟨v, hv, hm⟩ := keyAt_yes (keyAt_mem (xs := S.own) (k := s) ⟨(s, a), by rw [e1]; simp, rfl⟩)
        rw [hv]
        have h1 : (s, a) ∈ S.own := by rw [e1]; simp
        rw [nodup_key hN hm h1]
      refine ⟨.inl ⟨_, _, rfl⟩, fun v hv' => A_Name hv' ?_⟩
      show EV _ _ _ _ _
      exact E_Sub <| E_Attr <| E_cell rfl (st _ _ hc) hd hv <| A_data (canon_at w 3) rfl <| E_loc (upd_self _ _ _) <| I_idict (canon_at w 4) hk ⟨done ++ [(s, a)], rs, by rw [e1]; simp, rfl, by rw [e3]; simp, rfl⟩
  · rintro acc σ ⟨done, rs, e1, e2, e3, rfl⟩ l hl
    cases rs with
    | cons _ _ => cases e2
    | nil => rw [List.append_nil] at e1; rw [e3, ← e1]; exact h l hl

/-- all of a list spilled -/
noncomputable def spillL : List Addr → St → St
  | [], S => S
  | a :: r, S => match S.items a with
    | some i => spillL r (spillS a i S)
    | none => S
noncomputable def CanSpill : List Addr → St → Prop
  | [], _ => True
  | a :: r, S => ∃ i, S.items a = some i ∧ Sz S ∧ (∃ p ∈ S.own, p.1 = i.reg) ∧ i.reg ∈ S.order ∧ (∀ p ∈ S.spilled, p.1 ≠ (tempS S).1) ∧ CanSpill r (spillS a i S)
theorem F_spillAll (w : Wf A rt S) (ord : S.order = S.own.map (·.1)) (hN : (S.own.map (·.1)).Nodup) (hz : S.own.length ≤ 50000) (hcan : CanSpill (S.own.map (·.2)) S)
    (h : ∀ rt', Wf A rt' (spillL (S.own.map (·.2)) S) → Keep A rt S rt' (spillL (S.own.map (·.2)) S) ρ → Q .none (canon A rt' (spillL (S.own.map (·.2)) S) ρ)) : Fn G (n + 3) 284 [.ref (A.at_ 0)] (canon A rt S ρ) Q := by
  refine' enter hK.f284 [("self", .ref (A.at_ 0))] ?he ?hbx ?hm ?_
  case he => rfl
  case hbx => rfl
  case hm => rfl
  intro cdv
  intro c hcn
  have hn : n + 2 ≤ c.n := Nat.le_of_eq hcn.symm
  refine S_cons <| S_ForList <| E_Meth0 <| E_Attr <| E_loc rfl <| R_coder w "pool" rfl <| M_cls (canon_at w 3) (mp_held hK).fi (mp_held hK).fn ⟨.inl (mp_held hK).kp, C_fn hn <| F_held hK w ord hN hz fun l hl => ?_⟩
  obtain ⟨ol, hρ⟩ := Off.of_none hl
  rw [ol.set]
  have hxs : S.own.map (fun p => AV.ref p.2) = (S.own.map (·.2)).map AV.ref := by simp
  rw [hxs]
  generalize hX : (S.own.map (·.2)) = X at *
  have sup : Sup ρ (ρ.set l (.list (X.map .ref))) := Sup.set hρ
  refine ⟨l, X.map .ref, fun r μ σ => ∃ rs rt' S', r = rs.map AV.ref ∧ σ = canon A rt' S' (ρ.set l (.list (X.map .ref))) ∧ Wf A rt' S' ∧ Off A rt' S' l ∧ CanSpill rs S' ∧ spillL rs S' = spillL X S ∧ HasL μ "self" (.ref (A.at_ 0)) ∧ Keep A rt S rt' S' ρ, rfl, ⟨X, rt, S, rfl, rfl, w, ol, hcan, rfl, rfl, fun b _ o => o⟩, ?_, ?_, ?_⟩
  · rintro r μ σ ⟨rs, rt', S', -, rfl, w', ol', -⟩
    rw [ol'.get, Hp.set_self]
  · rintro b hb x r μ σ ⟨rs, rt', S', e1, rfl, w', ol', hcan', e2, f1, kp⟩
    cases rs with
    | nil => cases e1
    | cons a rs =>
      cases e1
      obtain ⟨i, hi, hz', hr, ho, hs, hcan2⟩ := hcan'
      refine ⟨.inl ⟨_, _, rfl⟩, fun v hv => A_Name hv ?_⟩
      refine S_cons <| S_Expr <| E_Meth1 <| E_loc (upd_ne f1 (by decide)) <| M_cls (canon_at w' 0) (mc_spill hK).fi (mc_spill hK).fn <| EVs_cons <| E_loc (upd_self _ _ _) <| EVs_nil ⟨.inl (mc_spill hK).kp, C_fn hn <| F_spill hK w' hz' hi hr ho hs fun rt2 w2 kp2 => ⟨trivial, ?_⟩⟩
      refine S_nil ⟨rs, rt2, spillS a i S', rfl, rfl, w2, kp2 l (by rw [Hp.set_self]; rfl) ol', hcan2, ?_, upd_ne f1 (by decide), fun b hb o => kp2 b ?_ (kp b hb o)⟩
      · rw [← e2]; simp only [spillL, hi]
      · obtain ⟨y, hy⟩ := Option.isSome_iff_exists.mp hb
        rw [sup _ _ hy]; rfl
  · rintro μ σ ⟨rs, rt', S', e1, rfl, w', ol', -, e2, f1, kp⟩
    cases rs with
    | cons _ _ => cases e1
    | nil =>
      have e2 : S' = spillL X S := e2
      subst e2
      refine W.forget (σ' := canon A rt' (spillL X S) ρ) (S_nil (h rt' w' kp)) (canon_sup sup)
end Mine
end

section
open PySem PySem.W PySem.Calls PyProof.Rows
namespace Mine

theorem Hp.set_comm {σ : Hp} {a b : Addr} {o o' : AObj} (h : a ≠ b) : (σ.set a o).set b o' = (σ.set b o').set a o := by
  funext x
  unfold Hp.set
  by_cases e : x = b
  · subst e; simp [Ne.symm h]
  · simp [e]
theorem Hp.set_none {σ : Hp} {a l : Addr} {o : AObj} (h : (σ.set a o) l = none) : l ≠ a ∧ σ l = none := by
  have : l ≠ a := fun e => by rw [e, Hp.set_self] at h; cases h
  exact ⟨this, by rw [Hp.set_ne this] at h; exact h⟩
section
variable {G : Gx} (hK : KG G)
include hK
theorem k_buf : Mk G.K 87 35 := hK.k_buf
theorem k_item : Mk G.K 108 105 := hK.k_item
theorem k_pool : Mk G.K 209 165 := hK.k_pool
theorem k_coder : Mk G.K 351 227 := hK.k_coder
theorem k_type : Mk G.K 372 369 := hK.k_type
theorem k_types : Mk G.K 408 390 := hK.k_types
theorem no_108_mode : findIn G.K (.ref 108) "mode" = some none := hK.no_108_mode
theorem no_108_t : findIn G.K (.ref 108) "t" = some none := hK.no_108_t
theorem no_108_value : findIn G.K (.ref 108) "value" = some none := hK.no_108_value
theorem no_108_reg : findIn G.K (.ref 108) "reg" = some none := hK.no_108_reg
theorem no_108_offset : findIn G.K (.ref 108) "offset" = some none := hK.no_108_offset
theorem no_108_fix : findIn G.K (.ref 108) "fix" = some none := hK.no_108_fix
theorem no_108_root : findIn G.K (.ref 108) "root" = some none := hK.no_108_root
theorem no_108_tag : findIn G.K (.ref 108) "tag" = some none := hK.no_108_tag
theorem no_108_length : findIn G.K (.ref 108) "length" = some none := hK.no_108_length
theorem no_108_cond : findIn G.K (.ref 108) "cond" = some none := hK.no_108_cond
theorem no_108_truths : findIn G.K (.ref 108) "truths" = some none := hK.no_108_truths
theorem no_108_falses : findIn G.K (.ref 108) "falses" = some none := hK.no_108_falses
theorem no_108_obj : findIn G.K (.ref 108) "obj" = some none := hK.no_108_obj
theorem no_108_place : findIn G.K (.ref 108) "place" = some none := hK.no_108_place
theorem no_108_slot : findIn G.K (.ref 108) "slot" = some none := hK.no_108_slot
theorem no_108_was : findIn G.K (.ref 108) "was" = some none := hK.no_108_was
theorem no_87_rows : findIn G.K (.ref 87) "rows" = some none := hK.no_87_rows
theorem no_209_count : findIn G.K (.ref 209) "count" = some none := hK.no_209_count
theorem no_209_owner : findIn G.K (.ref 209) "owner" = some none := hK.no_209_owner
theorem no_209_order : findIn G.K (.ref 209) "order" = some none := hK.no_209_order
theorem no_209_spiller : findIn G.K (.ref 209) "spiller" = some none := hK.no_209_spiller
theorem no_351_types : findIn G.K (.ref 351) "types" = some none := hK.no_351_types
theorem no_351_module : findIn G.K (.ref 351) "module" = some none := hK.no_351_module
theorem no_351_buf : findIn G.K (.ref 351) "buf" = some none := hK.no_351_buf
theorem no_351_pool : findIn G.K (.ref 351) "pool" = some none := hK.no_351_pool
theorem no_351_data : findIn G.K (.ref 351) "data" = some none := hK.no_351_data
theorem no_351_keys : findIn G.K (.ref 351) "keys" = some none := hK.no_351_keys
theorem no_351_imports : findIn G.K (.ref 351) "imports" = some none := hK.no_351_imports
theorem no_351_fixups : findIn G.K (.ref 351) "fixups" = some none := hK.no_351_fixups
theorem no_351_maps : findIn G.K (.ref 351) "maps" = some none := hK.no_351_maps
theorem no_351_entries : findIn G.K (.ref 351) "entries" = some none := hK.no_351_entries
theorem no_351_starts : findIn G.K (.ref 351) "starts" = some none := hK.no_351_starts
theorem no_351_calls : findIn G.K (.ref 351) "calls" = some none := hK.no_351_calls
theorem no_351_level : findIn G.K (.ref 351) "level" = some none := hK.no_351_level
theorem no_351_proc : findIn G.K (.ref 351) "proc" = some none := hK.no_351_proc
theorem no_351_roots : findIn G.K (.ref 351) "roots" = some none := hK.no_351_roots
theorem no_351_low : findIn G.K (.ref 351) "low" = some none := hK.no_351_low
theorem no_351_lowest : findIn G.K (.ref 351) "lowest" = some none := hK.no_351_lowest
theorem no_351_free_temps : findIn G.K (.ref 351) "free_temps" = some none := hK.no_351_free_temps
theorem no_351_spilled : findIn G.K (.ref 351) "spilled" = some none := hK.no_351_spilled
theorem no_351_out_words : findIn G.K (.ref 351) "out_words" = some none := hK.no_351_out_words
theorem no_372_number : findIn G.K (.ref 372) "number" = some none := hK.no_372_number
theorem no_372_form : findIn G.K (.ref 372) "form" = some none := hK.no_372_form
theorem no_372_size : findIn G.K (.ref 372) "size" = some none := hK.no_372_size
theorem no_372_base : findIn G.K (.ref 372) "base" = some none := hK.no_372_base
theorem no_372_length : findIn G.K (.ref 372) "length" = some none := hK.no_372_length
theorem no_372_fields : findIn G.K (.ref 372) "fields" = some none := hK.no_372_fields
theorem no_372_level : findIn G.K (.ref 372) "level" = some none := hK.no_372_level
theorem no_372_params : findIn G.K (.ref 372) "params" = some none := hK.no_372_params
theorem no_372_module : findIn G.K (.ref 372) "module" = some none := hK.no_372_module
theorem no_372_label : findIn G.K (.ref 372) "label" = some none := hK.no_372_label
theorem no_372_hidden : findIn G.K (.ref 372) "hidden" = some none := hK.no_372_hidden
theorem no_372_exno : findIn G.K (.ref 372) "exno" = some none := hK.no_372_exno
theorem no_408_counter : findIn G.K (.ref 408) "counter" = some none := hK.no_408_counter
theorem no_408_known : findIn G.K (.ref 408) "known" = some none := hK.no_408_known
theorem no_408_boolean : findIn G.K (.ref 408) "boolean" = some none := hK.no_408_boolean
theorem no_408_char : findIn G.K (.ref 408) "char" = some none := hK.no_408_char
theorem no_408_byte : findIn G.K (.ref 408) "byte" = some none := hK.no_408_byte
theorem no_408_integer : findIn G.K (.ref 408) "integer" = some none := hK.no_408_integer
theorem no_408_mask : findIn G.K (.ref 408) "mask" = some none := hK.no_408_mask
theorem no_408_nil : findIn G.K (.ref 408) "nil" = some none := hK.no_408_nil
theorem no_408_none : findIn G.K (.ref 408) "none" = some none := hK.no_408_none
end
section
variable {G : Gx} {c : Cx G} {μ : Loc} {σ : Hp} {R : Loc → Hp → Prop}
theorem upd_app {x : Str} {v : AV} : ∀ {μ : Loc}, μ.lookup x = none → upd x v μ = μ ++ [(x, v)]
  | [], _ => rfl
  | (y, u) :: r, h => by
    rw [List.lookup_cons] at h
    unfold upd
    split at h
    · cases h
    · rename_i e
      rw [if_neg (by rw [e]; decide), upd_app h]
      rfl
/-- an attribute of a new object -/
theorem A_new {x C : Addr} {at' : Loc} {name : Str} {v : AV} (hf : findIn G.K (.ref C) name = some none) (h : R μ (σ.set x (.inst C (at' ++ [(name, v)])))) (hn : at'.lookup name = none := by rfl) (hz : at'.length ≤ 900 := by simp) :
    SetOf c (.ref x) name v μ (σ.set x (.inst C at')) R := A_set (Hp.set_self _ _ _) (.inr hf) (by rw [Hp.set_set, upd_app hn]; exact h) (by rw [upd_app hn, List.length_append]; simp; omega)
end
variable {G : Gx} (hK : KG G) {n : Nat} {σ : Hp} {Q : AV → Hp → Prop}
include hK
theorem F_bufInit {x : Addr} (h : ∀ l, l ≠ x → σ l = none → Q .none ((σ.set l (.list [])).set x (.inst 87 [("rows", .ref l)]))) : Fn G (n + 1) 35 [.ref x] (σ.set x (.inst 87 [])) Q := by
  refine' enter hK.f35 [("self", .ref x)] ?he ?hbx ?hm ?_
  case he => rfl
  case hbx => rfl
  case hm => rfl
  intro cdv
  intro c hcn
  refine S_cons <| S_AssignAttr <| E_List <| EVs_nil ⟨by simp, fun l hl => E_loc rfl ?_⟩
  obtain ⟨h1, h2⟩ := Hp.set_none hl
  rw [Hp.set_comm (Ne.symm h1)]
  exact A_new (no_87_rows hK) <| S_nil <| h l h1 h2
theorem F_poolInit {x : Addr} {k : Int} (h : ∀ d l, d ≠ x → σ d = none → l ≠ x → l ≠ d → σ l = none → Q .none (((σ.set d (.idict [])).set l (.list [])).set x (.inst 209 [("count", .int k), ("owner", .ref d), ("order", .ref l), ("spiller", .none)]))) : Fn G (n + 1) 165 [.ref x, .int k] (σ.set x (.inst 209 [])) Q := by
  refine' enter hK.f165 [("self", .ref x), ("count", .int k)] ?he ?hbx ?hm ?_
  case he => rfl
  case hbx => rfl
  case hm => rfl
  intro cdv
  intro c hcn
  refine S_cons <| S_AssignAttr <| E_loc rfl <| E_loc rfl <| A_new (no_209_count hK) <| S_cons <| S_AssignAttr <| E_Dict0i fun d hd => E_loc rfl ?_
  obtain ⟨h1, h2⟩ := Hp.set_none hd
  rw [Hp.set_comm (Ne.symm h1)]
  refine A_new (no_209_owner hK) <| S_cons <| S_AssignAttr <| E_List <| EVs_nil ⟨by simp, fun l hl => E_loc rfl ?_⟩
  obtain ⟨h3, h4⟩ := Hp.set_none hl
  obtain ⟨h5, h6⟩ := Hp.set_none h4
  rw [Hp.set_comm (Ne.symm h3)]
  exact A_new (no_209_order hK) <| S_cons <| S_AssignAttr <| E_none <| E_loc rfl <| A_new (no_209_spiller hK) <| S_nil <| h d l h1 h2 h3 h5 h6
set_option maxHeartbeats 4000000 in
theorem F_itemInit {x : Addr} {m : Str} {t : AV} (h : ∀ tr fa, Q .none (σ.set x (itemO ⟨m, -1, false, 0, "", t, tr, fa⟩))) : Fn G (n + 1) 105 [.ref x, .str m, t] (σ.set x (.inst 108 [])) Q := by
  refine' enter hK.f105 [("self", .ref x), ("mode", .str m), ("t", t)] ?he ?hbx ?hm ?_
  case he => rfl
  case hbx => rfl
  case hm => rfl
  intro cdv
  intro c hcn
  (try dsimp only [List.cons_append, List.nil_append])
  refine S_cons <| S_AssignAttr <| E_loc rfl <| E_loc rfl <| A_new (no_108_mode hK) ?_
  (try dsimp only [List.cons_append, List.nil_append])
  refine S_cons <| S_AssignAttr <| E_loc rfl <| E_loc rfl <| A_new (no_108_t hK) ?_
  (try dsimp only [List.cons_append, List.nil_append])
  refine S_cons <| S_AssignAttr <| E_none <| E_loc rfl <| A_new (no_108_value hK) ?_
  (try dsimp only [List.cons_append, List.nil_append])
  refine S_cons <| S_AssignAttr <| E_UnaryOp <| E_int <| O_neg <| E_loc rfl <| A_new (no_108_reg hK) ?_
  (try dsimp only [List.cons_append, List.nil_append])
  refine S_cons <| S_AssignAttr <| E_int <| E_loc rfl <| A_new (no_108_offset hK) ?_
  (try dsimp only [List.cons_append, List.nil_append])
  refine S_cons <| S_AssignAttr <| E_none <| E_loc rfl <| A_new (no_108_fix hK) ?_
  (try dsimp only [List.cons_append, List.nil_append])
  refine S_cons <| S_AssignAttr <| E_bool <| E_loc rfl <| A_new (no_108_root hK) ?_
  (try dsimp only [List.cons_append, List.nil_append])
  refine S_cons <| S_AssignAttr <| E_none <| E_loc rfl <| A_new (no_108_tag hK) ?_
  (try dsimp only [List.cons_append, List.nil_append])
  refine S_cons <| S_AssignAttr <| E_none <| E_loc rfl <| A_new (no_108_length hK) ?_
  (try dsimp only [List.cons_append, List.nil_append])
  refine S_cons <| S_AssignAttr <| E_str <| E_loc rfl <| A_new (no_108_cond hK) ?_
  (try dsimp only [List.cons_append, List.nil_append])
  refine S_cons <| S_AssignAttr <| E_List <| EVs_nil ⟨by simp, fun l hl => W.forget (E_loc rfl <| A_new (no_108_truths hK) ?_) (Sup.set hl)⟩
  (try dsimp only [List.cons_append, List.nil_append])
  refine S_cons <| S_AssignAttr <| E_List <| EVs_nil ⟨by simp, fun l' hl' => W.forget (E_loc rfl <| A_new (no_108_falses hK) ?_) (Sup.set hl')⟩
  (try dsimp only [List.cons_append, List.nil_append])
  refine S_cons <| S_AssignAttr <| E_none <| E_loc rfl <| A_new (no_108_obj hK) ?_
  (try dsimp only [List.cons_append, List.nil_append])
  refine S_cons <| S_AssignAttr <| E_UnaryOp <| E_int <| O_neg <| E_loc rfl <| A_new (no_108_place hK) ?_
  (try dsimp only [List.cons_append, List.nil_append])
  refine S_cons <| S_AssignAttr <| E_int <| E_loc rfl <| A_new (no_108_slot hK) ?_
  (try dsimp only [List.cons_append, List.nil_append])
  refine S_cons <| S_AssignAttr <| E_str <| E_loc rfl <| A_new (no_108_was hK) ?_
  exact S_nil (h (.ref l) (.ref l'))
set_option maxHeartbeats 4000000 in
theorem F_typeInit {x : Addr} {a b d : AV} (h : ∀ at', at'.length = 12 → HasL at' "module" (.str "") → HasL at' "label" (.str "") → Q .none (σ.set x (.inst 372 at'))) : Fn G (n + 1) 369 [.ref x, a, b, d] (σ.set x (.inst 372 [])) Q := by
  refine' enter hK.f369 [("self", .ref x), ("number", a), ("form", b), ("size", d)] ?he ?hbx ?hm ?_
  case he => rfl
  case hbx => rfl
  case hm => rfl
  intro cdv
  intro c hcn
  (try dsimp only [List.cons_append, List.nil_append])
  refine S_cons <| S_AssignAttr <| E_loc rfl <| E_loc rfl <| A_new (no_372_number hK) ?_
  (try dsimp only [List.cons_append, List.nil_append])
  refine S_cons <| S_AssignAttr <| E_loc rfl <| E_loc rfl <| A_new (no_372_form hK) ?_
  (try dsimp only [List.cons_append, List.nil_append])
  refine S_cons <| S_AssignAttr <| E_loc rfl <| E_loc rfl <| A_new (no_372_size hK) ?_
  (try dsimp only [List.cons_append, List.nil_append])
  refine S_cons <| S_AssignAttr <| E_none <| E_loc rfl <| A_new (no_372_base hK) ?_
  (try dsimp only [List.cons_append, List.nil_append])
  refine S_cons <| S_AssignAttr <| E_int <| E_loc rfl <| A_new (no_372_length hK) ?_
  (try dsimp only [List.cons_append, List.nil_append])
  refine S_cons <| S_AssignAttr <| E_List <| EVs_nil ⟨by simp, fun l hl => W.forget (E_loc rfl <| A_new (no_372_fields hK) ?_) (Sup.set hl)⟩
  (try dsimp only [List.cons_append, List.nil_append])
  refine S_cons <| S_AssignAttr <| E_int <| E_loc rfl <| A_new (no_372_level hK) ?_
  (try dsimp only [List.cons_append, List.nil_append])
  refine S_cons <| S_AssignAttr <| E_List <| EVs_nil ⟨by simp, fun l' hl' => W.forget (E_loc rfl <| A_new (no_372_params hK) ?_) (Sup.set hl')⟩
  (try dsimp only [List.cons_append, List.nil_append])
  refine S_cons <| S_AssignAttr <| E_str <| E_loc rfl <| A_new (no_372_module hK) ?_
  (try dsimp only [List.cons_append, List.nil_append])
  refine S_cons <| S_AssignAttr <| E_str <| E_loc rfl <| A_new (no_372_label hK) ?_
  (try dsimp only [List.cons_append, List.nil_append])
  refine S_cons <| S_AssignAttr <| E_List <| EVs_nil ⟨by simp, fun l2 hl2 => W.forget (E_loc rfl <| A_new (no_372_hidden hK) ?_) (Sup.set hl2)⟩
  (try dsimp only [List.cons_append, List.nil_append])
  refine S_cons <| S_AssignAttr <| E_int <| E_loc rfl <| A_new (no_372_exno hK) ?_
  exact S_nil (h _ rfl rfl rfl)
end Mine
end

section
open PySem PySem.W PySem.Calls PyProof.Rows
namespace Mine

variable {G : Gx} (hK : KG G) {n : Nat} {σ : Hp} {Q : AV → Hp → Prop}
include hK
theorem n_Type : nsIn G.K mainGlobals "Type" = some (some (.ref 372)) := hK.n_Type
theorem n_Types : nsIn G.K mainGlobals "Types" = some (some (.ref 408)) := hK.n_Types
theorem n_CodeBuffer : nsIn G.K mainGlobals "CodeBuffer" = some (some (.ref 87)) := hK.n_CodeBuffer
theorem n_RegisterPool : nsIn G.K mainGlobals "RegisterPool" = some (some (.ref 209)) := hK.n_RegisterPool
theorem n_Item : nsIn G.K mainGlobals "Item" = some (some (.ref 108)) := hK.n_Item
theorem n_Coder : nsIn G.K mainGlobals "Coder" = some (some (.ref 351)) := hK.n_Coder

theorem F_new {x : Addr} {k : Int} {at' : Loc} {f sz : AV} (hx : σ x = some (.inst 408 at')) (hk : HasL at' "counter" (.int k)) (hl : at'.length ≤ 900)
    (h : ∀ m, Q (.ref m) (σ.set x (.inst 408 (upd "counter" (.int (k + 1)) at')))) : Fn G (n + 3) 398 [.ref x, f, sz] σ Q := by
  refine' enter hK.f398 [("self", .ref x), ("form", f), ("size", sz), ("module", .str ""), ("label", .str "")] ?he ?hbx ?hm ?_
  case he => rfl
  case hbx => rfl
  case hm => rfl
  intro cdv
  intro c hcn
  have hn2 : n + 2 ≤ c.n := Nat.le_of_eq hcn.symm
  have hlu : ∀ {at' : Loc} {v : AV} {x : Str}, (at'.lookup x).isSome = true → (upd x v at').length = at'.length := by
    intro at' v x
    induction at' with
    | nil => intro h; cases h
    | cons p r ih =>
      intro h
      rw [List.lookup_cons] at h
      unfold upd
      split at h
      · rename_i e; rw [if_pos e]; rfl
      · rename_i e; rw [if_neg (by rw [e]; decide), List.length_cons, List.length_cons, ih h]
  refine S_cons <| S_AugAttr <| E_loc rfl <| A_data hx hk <| E_int <| O_iadd <| A_set hx (.inl (by rw [hk]; rfl)) ?_ (by rw [hlu (by rw [hk]; rfl)]; omega)
  have hx2 : (σ.set x (.inst 408 (upd "counter" (.int (k + 1)) at'))) x = some (.inst 408 (upd "counter" (.int (k + 1)) at')) := Hp.set_self _ _ _
  generalize σ.set x (.inst 408 (upd "counter" (.int (k + 1)) at')) = σ2 at *
  refine S_cons <| S_AssignName <| E_Call1 <| E_glob (n_Type hK) rfl <| EVs_cons <| E_Attr <| E_loc rfl <| A_data hx2 (upd_self _ _ _) <| EVs_cons <| E_loc rfl <| EVs_cons <| E_loc rfl <| EVs_nil ⟨.inl (k_type hK).kp, C_make (k_type hK).cf (k_type hK).mkI (k_type hK).ini (k_type hK).fn hn2 fun m hm => F_typeInit hK fun at2 z1 z2 z3 => ⟨rfl, ?_⟩⟩
  refine S_cons <| S_AssignAttr <| E_loc rfl <| E_loc rfl <| A_set (Hp.set_self _ _ _) (.inl (by rw [z2]; rfl)) ?_ (by rw [hlu (by rw [z2]; rfl), z1]; decide)
  refine S_cons <| S_AssignAttr <| E_loc rfl <| E_loc rfl <| A_set (Hp.set_self _ _ _) (.inl (by rw [upd_ne z3 (by decide)]; rfl)) ?_ (by rw [hlu (by rw [upd_ne z3 (by decide)]; rfl), hlu (by rw [z2]; rfl), z1]; decide)
  rw [Hp.set_set, Hp.set_set]
  refine W.forget ?_ (Sup.set hm)
  refine S_cons <| S_If <| T_Compare <| E_loc rfl <| E_str <| O_ne_str <| T_bool ?_
  exact S_nil <| S_cons <| S_Return <| E_loc rfl <| h m
end Mine
end

section
open PySem PySem.W PySem.Calls PyProof.Rows
namespace Mine

theorem Hp.set_same {σ : Hp} {a : Addr} {o : AObj} (h : σ a = some o) : σ.set a o = σ := by
  funext b
  by_cases e : b = a
  · subst e; rw [Hp.set_self, h]
  · rw [Hp.set_ne e]
theorem upd_head {x : Str} {v u : AV} {r : Loc} : upd x v ((x, u) :: r) = (x, v) :: r := by
  show (if x == x then _ else _) = _
  rw [if_pos (beq_self_eq_true x)]
structure CR where
  types : AV
  modu : AV
  buf : AV
  pool : AV
  keys : AV
  imports : AV
  fixups : AV
  maps : AV
  entries : AV
  starts : AV
  calls : AV
  level : Int
  roots : AV
  low : Int
  lowest : Int
  temps : AV
  spilled : AV
  out : Int
noncomputable def CR.loc (p : CR) : Loc := [("types", p.types), ("module", p.modu), ("buf", p.buf), ("pool", p.pool), ("data", .none), ("keys", p.keys), ("imports", p.imports), ("fixups", p.fixups), ("maps", p.maps),
  ("entries", p.entries), ("starts", p.starts), ("calls", p.calls), ("level", .int p.level), ("proc", .none), ("roots", p.roots), ("low", .int p.low), ("lowest", .int p.lowest), ("free_temps", p.temps), ("spilled", p.spilled), ("out_words", .int p.out)]
section
variable {G : Gx} {c : Cx G} {μ : Loc} {σ : Hp} {R : Loc → Hp → Prop}
theorem A_raw {cd : Addr} {p : CR} {name : Str} {v : AV} (p' : CR) (h : R μ (σ.set cd (.inst 351 p'.loc))) (e : upd name v p.loc = p'.loc := by rfl) (e2 : (p.loc.lookup name).isSome = true := by rfl) : SetOf c (.ref cd) name v μ (σ.set cd (.inst 351 p.loc)) R :=
  A_set (Hp.set_self _ _ _) (.inl e2) (by rw [Hp.set_set, e]; exact h) (by rw [e]; exact Nat.le_of_ble_eq_true rfl)
end
variable {G : Gx} (hK : KG G) {n : Nat} {σ : Hp} {Q : AV → Hp → Prop}
include hK
set_option maxHeartbeats 4000000 in
theorem F_enter {cd rl : Addr} {p : CR} {lv lb : Int} {ys : List Int} (hc : σ cd = some (.inst 351 p.loc)) (hr : σ rl = some (.list (ys.map .int))) (hz : ys.length ≤ 1000)
    (h : ∀ ro te sp, ro ≠ cd → σ ro = none → te ≠ cd → te ≠ ro → σ te = none → sp ≠ cd → sp ≠ te → sp ≠ ro → σ sp = none →
      Q .none ((((σ.set ro (.list (ys.map .int))).set te (.list [])).set sp (.idict [])).set cd (.inst 351 ({ p with level := lv, roots := .ref ro, low := 0 - 8 - lb, lowest := 0 - 8 - lb, temps := .ref te, spilled := .ref sp, out := 0 } : CR).loc))) :
    Fn G (n + 1) 234 [.ref cd, .none, .int lv, .int lb, .ref rl] σ Q := by
  refine' enter hK.f234 [("self", .ref cd), ("proc", .none), ("level", .int lv), ("locals_bytes", .int lb), ("roots", .ref rl)] ?he ?hbx ?hm ?_
  case he => rfl
  case hbx => rfl
  case hm => rfl
  intro cdv
  intro c hcn
  rw [← Hp.set_same hc]
  have hrc : rl ≠ cd := fun e => by rw [e, hc] at hr; cases hr
  refine S_cons <| S_AssignAttr <| E_loc rfl <| E_loc rfl <| A_raw p ?_
  refine S_cons <| S_AssignAttr <| E_loc rfl <| E_loc rfl <| A_raw { p with level := lv } ?_
  refine S_cons <| S_AssignAttr <| E_Call1 <| E_built (n_list hK) rfl rfl <| EVs_cons <| E_loc rfl <| EVs_nil ⟨trivial, C_list (xs := ys.map .int) (by rw [Hp.set_ne hrc]; exact hr) (by rw [List.length_map]; omega) fun ro hro => E_loc rfl ?_⟩
  obtain ⟨r1, r2⟩ := Hp.set_none hro
  rw [Hp.set_comm (Ne.symm r1)]
  refine A_raw { p with level := lv, roots := .ref ro } ?_
  refine S_cons <| S_AssignAttr <| E_BinOp <| E_BinOp <| E_int <| E_int <| O_sub <| E_loc rfl <| O_sub <| E_loc rfl <| A_raw { p with level := lv, roots := .ref ro, low := 0 - 8 - lb } ?_
  refine S_cons <| S_AssignAttr <| E_Attr <| E_loc rfl <| A_data (Hp.set_self _ _ _) rfl <| E_loc rfl <| A_raw { p with level := lv, roots := .ref ro, low := 0 - 8 - lb, lowest := 0 - 8 - lb } ?_
  refine S_cons <| S_AssignAttr <| E_List <| EVs_nil ⟨by simp, fun te hte => E_loc rfl ?_⟩
  obtain ⟨t1, t2⟩ := Hp.set_none hte
  obtain ⟨t3, t4⟩ := Hp.set_none t2
  rw [Hp.set_comm (Ne.symm t1)]
  refine A_raw { p with level := lv, roots := .ref ro, low := 0 - 8 - lb, lowest := 0 - 8 - lb, temps := .ref te } ?_
  refine S_cons <| S_AssignAttr <| E_Dict0i fun sp hsp => E_loc rfl ?_
  obtain ⟨s1, s2⟩ := Hp.set_none hsp
  obtain ⟨s3, s4⟩ := Hp.set_none s2
  obtain ⟨s5, s6⟩ := Hp.set_none s4
  rw [Hp.set_comm (Ne.symm s1)]
  refine A_raw { p with level := lv, roots := .ref ro, low := 0 - 8 - lb, lowest := 0 - 8 - lb, temps := .ref te, spilled := .ref sp } ?_
  refine S_cons <| S_AssignAttr <| E_int <| E_loc rfl <| A_raw { p with level := lv, roots := .ref ro, low := 0 - 8 - lb, lowest := 0 - 8 - lb, temps := .ref te, spilled := .ref sp, out := 0 } ?_
  exact S_nil (h ro te sp r1 r2 t1 t3 t4 s1 s3 s5 s6)

set_option maxHeartbeats 4000000 in
theorem F_typesInit {x : Addr} (h : ∀ at' a, HasL at' "integer" (.ref a) → Q .none (σ.set x (.inst 408 at'))) : Fn G (n + 4) 390 [.ref x] (σ.set x (.inst 408 [])) Q := by
  refine' enter hK.f390 [("self", .ref x)] ?he ?hbx ?hm ?_
  case he => rfl
  case hbx => rfl
  case hm => rfl
  intro cdv
  intro c hcn
  have hn : n + 3 ≤ c.n := Nat.le_of_eq hcn.symm
  refine S_cons <| S_AssignAttr <| E_int <| E_loc rfl <| A_new (no_408_counter hK) ?_
  refine S_cons <| S_AssignAttr <| E_Dict0i fun d hd => W.forget (E_loc rfl <| A_new (no_408_known hK) ?_) (Sup.set hd)
  dsimp only [List.cons_append, List.nil_append]
  refine S_cons <| S_AssignAttr <| E_Meth1 <| E_loc rfl <| M_cls (Hp.set_self _ _ _) (mt_new hK).fi (mt_new hK).fn <| EVs_cons <| E_str <| EVs_cons <| E_int <| EVs_nil ⟨.inl (mt_new hK).kp, C_fn hn <| F_new hK (Hp.set_self _ _ _) rfl (by simp) fun m0 => E_loc rfl ?_⟩
  rw [Hp.set_set, upd_head]
  refine A_new (no_408_boolean hK) ?_
  dsimp only [List.cons_append, List.nil_append]
  refine S_cons <| S_AssignAttr <| E_Meth1 <| E_loc rfl <| M_cls (Hp.set_self _ _ _) (mt_new hK).fi (mt_new hK).fn <| EVs_cons <| E_str <| EVs_cons <| E_int <| EVs_nil ⟨.inl (mt_new hK).kp, C_fn hn <| F_new hK (Hp.set_self _ _ _) rfl (by simp) fun m1 => E_loc rfl ?_⟩
  rw [Hp.set_set, upd_head]
  refine A_new (no_408_char hK) ?_
  dsimp only [List.cons_append, List.nil_append]
  refine S_cons <| S_AssignAttr <| E_Meth1 <| E_loc rfl <| M_cls (Hp.set_self _ _ _) (mt_new hK).fi (mt_new hK).fn <| EVs_cons <| E_str <| EVs_cons <| E_int <| EVs_nil ⟨.inl (mt_new hK).kp, C_fn hn <| F_new hK (Hp.set_self _ _ _) rfl (by simp) fun m2 => E_loc rfl ?_⟩
  rw [Hp.set_set, upd_head]
  refine A_new (no_408_byte hK) ?_
  dsimp only [List.cons_append, List.nil_append]
  refine S_cons <| S_AssignAttr <| E_Meth1 <| E_loc rfl <| M_cls (Hp.set_self _ _ _) (mt_new hK).fi (mt_new hK).fn <| EVs_cons <| E_str <| EVs_cons <| E_int <| EVs_nil ⟨.inl (mt_new hK).kp, C_fn hn <| F_new hK (Hp.set_self _ _ _) rfl (by simp) fun m3 => E_loc rfl ?_⟩
  rw [Hp.set_set, upd_head]
  refine A_new (no_408_integer hK) ?_
  dsimp only [List.cons_append, List.nil_append]
  refine S_cons <| S_AssignAttr <| E_Meth1 <| E_loc rfl <| M_cls (Hp.set_self _ _ _) (mt_new hK).fi (mt_new hK).fn <| EVs_cons <| E_str <| EVs_cons <| E_int <| EVs_nil ⟨.inl (mt_new hK).kp, C_fn hn <| F_new hK (Hp.set_self _ _ _) rfl (by simp) fun m4 => E_loc rfl ?_⟩
  rw [Hp.set_set, upd_head]
  refine A_new (no_408_mask hK) ?_
  dsimp only [List.cons_append, List.nil_append]
  refine S_cons <| S_AssignAttr <| E_Meth1 <| E_loc rfl <| M_cls (Hp.set_self _ _ _) (mt_new hK).fi (mt_new hK).fn <| EVs_cons <| E_str <| EVs_cons <| E_int <| EVs_nil ⟨.inl (mt_new hK).kp, C_fn hn <| F_new hK (Hp.set_self _ _ _) rfl (by simp) fun m5 => E_loc rfl ?_⟩
  rw [Hp.set_set, upd_head]
  refine A_new (no_408_nil hK) ?_
  dsimp only [List.cons_append, List.nil_append]
  refine S_cons <| S_AssignAttr <| E_Meth1 <| E_loc rfl <| M_cls (Hp.set_self _ _ _) (mt_new hK).fi (mt_new hK).fn <| EVs_cons <| E_str <| EVs_cons <| E_int <| EVs_nil ⟨.inl (mt_new hK).kp, C_fn hn <| F_new hK (Hp.set_self _ _ _) rfl (by simp) fun m6 => E_loc rfl ?_⟩
  rw [Hp.set_set, upd_head]
  refine A_new (no_408_none hK) ?_
  exact S_nil (h _ m3 rfl)
end Mine
end

section
open PySem PySem.W PySem.Calls PyProof.Rows
namespace Mine

variable {G : Gx} (hK : KG G) {n : Nat} {σ : Hp} {Q : AV → Hp → Prop}
include hK
theorem bd_spill : specialIn G.K (.ref 277) "__get__" = some (some (.builtin "function.__get__")) ∧ takesIn G.K (.ref 277) = some false := hK.bd_spill
noncomputable def poolL (k : Int) (d l : Addr) (sp : AV) : Loc := [("count", .int k), ("owner", .ref d), ("order", .ref l), ("spiller", sp)]
set_option maxHeartbeats 4000000 in
theorem F_coderInit {cd ty : Addr} {k : Int} (hcd : σ cd = none)
    (h : ∀ rows buf d l pool sp maps (p : CR), [cd, rows, buf, d, l, pool, sp, maps].Nodup → (∀ x ∈ [rows, buf, d, l, pool, sp, maps], σ x = none) →
      p.types = .ref ty → p.modu = .str "M" → p.buf = .ref buf → p.pool = .ref pool → p.maps = .ref maps →
      Q .none ((((((((σ.set rows (.list [])).set buf (.inst 87 [("rows", .ref rows)])).set d (.idict [])).set l (.list [])).set pool (.inst 209 (poolL k d l (.ref sp)))).set sp (.meth 277 cd)).set maps (.idict [])).set cd (.inst 351 p.loc))) :
    Fn G (n + 3) 227 [.ref cd, .ref ty, .str "M", .int k] (σ.set cd (.inst 351 [])) Q := by
  refine' enter hK.f227 [("self", .ref cd), ("types", .ref ty), ("module", .str "M"), ("registers", .int k)] ?he ?hbx ?hm ?_
  case he => rfl
  case hbx => rfl
  case hm => rfl
  intro cdv
  intro c hcn
  have hn : n + 2 ≤ c.n := Nat.le_of_eq hcn.symm
  refine S_cons <| S_AssignAttr <| E_loc rfl <| E_loc rfl <| A_new (no_351_types hK) ?_
  (try dsimp only [List.cons_append, List.nil_append])
  refine S_cons <| S_AssignAttr <| E_loc rfl <| E_loc rfl <| A_new (no_351_module hK) ?_
  (try dsimp only [List.cons_append, List.nil_append])
  refine S_cons <| S_AssignAttr <| E_Call0 <| E_glob (n_CodeBuffer hK) rfl ⟨.inl (k_buf hK).kp, C_make (k_buf hK).cf (k_buf hK).mkI (k_buf hK).ini (k_buf hK).fn hn fun buf hbuf => F_bufInit hK fun rows r1 r2 => ⟨rfl, E_loc rfl ?_⟩⟩
  obtain ⟨b1, b2⟩ := Hp.set_none hbuf
  obtain ⟨r3, r4⟩ := Hp.set_none r2
  rw [Hp.set_comm (Ne.symm r3), Hp.set_comm (Ne.symm b1)]
  refine A_new (no_351_buf hK) ?_
  (try dsimp only [List.cons_append, List.nil_append])
  refine S_cons <| S_AssignAttr <| E_Call1 <| E_glob (n_RegisterPool hK) rfl <| EVs_cons <| E_loc rfl <| EVs_nil ⟨.inl (k_pool hK).kp, C_make (k_pool hK).cf (k_pool hK).mkI (k_pool hK).ini (k_pool hK).fn hn fun pool hpool => F_poolInit hK fun d l d1 d2 l1 l2 l3 => ⟨rfl, E_loc rfl ?_⟩⟩
  obtain ⟨p1, p2⟩ := Hp.set_none hpool
  obtain ⟨p3, p4⟩ := Hp.set_none p2
  obtain ⟨p5, p6⟩ := Hp.set_none p4
  obtain ⟨d3, d4⟩ := Hp.set_none d2
  obtain ⟨d5, d6⟩ := Hp.set_none d4
  obtain ⟨d7, d8⟩ := Hp.set_none d6
  obtain ⟨l4, l5⟩ := Hp.set_none l3
  obtain ⟨l6, l7⟩ := Hp.set_none l5
  obtain ⟨l8, l9⟩ := Hp.set_none l7
  rw [Hp.set_comm (Ne.symm d3), Hp.set_comm (Ne.symm l4), Hp.set_comm (Ne.symm p1)]
  refine A_new (no_351_pool hK) ?_
  (try dsimp only [List.cons_append, List.nil_append])
  refine S_cons <| S_AssignAttr <| E_Attr <| E_loc rfl <| A_bound (Hp.set_self _ _ _) rfl (mc_spill hK).fi (mc_spill hK).fn (bd_spill hK).1 (bd_spill hK).2 (by decide +kernel) fun sp hsp => ?_
  obtain ⟨s1, s2⟩ := Hp.set_none hsp
  obtain ⟨s3, s4⟩ := Hp.set_none s2
  obtain ⟨s5, s6⟩ := Hp.set_none s4
  obtain ⟨s7, s8⟩ := Hp.set_none s6
  obtain ⟨s9, s10⟩ := Hp.set_none s8
  obtain ⟨s11, s12⟩ := Hp.set_none s10
  rw [Hp.set_comm (Ne.symm s1)]
  refine E_Attr <| E_loc rfl <| A_data (Hp.set_self _ _ _) rfl <| A_set (C := 209) (at' := poolL k d l .none) ?_ (.inl rfl) ?_
  · rw [Hp.set_ne p1, Hp.set_ne (Ne.symm s3), Hp.set_self]; rfl
  rw [show upd "spiller" (AV.ref sp) (poolL k d l .none) = poolL k d l (.ref sp) from rfl, Hp.set_comm (Ne.symm p1), Hp.set_comm s3, Hp.set_set]
  refine S_cons <| S_AssignAttr <| E_none <| E_loc rfl <| A_new (no_351_data hK) ?_
  (try dsimp only [List.cons_append, List.nil_append])
  refine S_cons <| S_AssignAttr <| E_Dict0i fun x0 hx0 => W.forget (E_loc rfl <| A_new (no_351_keys hK) ?_) (Sup.set hx0)
  (try dsimp only [List.cons_append, List.nil_append])
  refine S_cons <| S_AssignAttr <| E_List <| EVs_nil ⟨by simp, fun x1 hx1 => W.forget (E_loc rfl <| A_new (no_351_imports hK) ?_) (Sup.set hx1)⟩
  (try dsimp only [List.cons_append, List.nil_append])
  refine S_cons <| S_AssignAttr <| E_List <| EVs_nil ⟨by simp, fun x2 hx2 => W.forget (E_loc rfl <| A_new (no_351_fixups hK) ?_) (Sup.set hx2)⟩
  (try dsimp only [List.cons_append, List.nil_append])
  refine S_cons <| S_AssignAttr <| E_Dict0i fun maps hmaps => E_loc rfl ?_
  obtain ⟨m1, m2⟩ := Hp.set_none hmaps
  obtain ⟨m3, m4⟩ := Hp.set_none m2
  obtain ⟨m5, m6⟩ := Hp.set_none m4
  obtain ⟨m7, m8⟩ := Hp.set_none m6
  obtain ⟨m9, m10⟩ := Hp.set_none m8
  obtain ⟨m11, m12⟩ := Hp.set_none m10
  obtain ⟨m13, m14⟩ := Hp.set_none m12
  rw [Hp.set_comm (Ne.symm m1)]
  refine A_new (no_351_maps hK) ?_
  (try dsimp only [List.cons_append, List.nil_append])
  refine S_cons <| S_AssignAttr <| E_List <| EVs_nil ⟨by simp, fun x3 hx3 => W.forget (E_loc rfl <| A_new (no_351_entries hK) ?_) (Sup.set hx3)⟩
  (try dsimp only [List.cons_append, List.nil_append])
  refine S_cons <| S_AssignAttr <| E_Dict0i fun x4 hx4 => W.forget (E_loc rfl <| A_new (no_351_starts hK) ?_) (Sup.set hx4)
  (try dsimp only [List.cons_append, List.nil_append])
  refine S_cons <| S_AssignAttr <| E_List <| EVs_nil ⟨by simp, fun x5 hx5 => W.forget (E_loc rfl <| A_new (no_351_calls hK) ?_) (Sup.set hx5)⟩
  (try dsimp only [List.cons_append, List.nil_append])
  refine S_cons <| S_AssignAttr <| E_int <| E_loc rfl <| A_new (no_351_level hK) ?_
  (try dsimp only [List.cons_append, List.nil_append])
  refine S_cons <| S_AssignAttr <| E_none <| E_loc rfl <| A_new (no_351_proc hK) ?_
  (try dsimp only [List.cons_append, List.nil_append])
  refine S_cons <| S_AssignAttr <| E_List <| EVs_nil ⟨by simp, fun x6 hx6 => W.forget (E_loc rfl <| A_new (no_351_roots hK) ?_) (Sup.set hx6)⟩
  (try dsimp only [List.cons_append, List.nil_append])
  refine S_cons <| S_AssignAttr <| E_UnaryOp <| E_int <| O_neg <| E_loc rfl <| A_new (no_351_low hK) ?_
  (try dsimp only [List.cons_append, List.nil_append])
  refine S_cons <| S_AssignAttr <| E_UnaryOp <| E_int <| O_neg <| E_loc rfl <| A_new (no_351_lowest hK) ?_
  (try dsimp only [List.cons_append, List.nil_append])
  refine S_cons <| S_AssignAttr <| E_List <| EVs_nil ⟨by simp, fun x7 hx7 => W.forget (E_loc rfl <| A_new (no_351_free_temps hK) ?_) (Sup.set hx7)⟩
  (try dsimp only [List.cons_append, List.nil_append])
  refine S_cons <| S_AssignAttr <| E_Dict0i fun x8 hx8 => W.forget (E_loc rfl <| A_new (no_351_spilled hK) ?_) (Sup.set hx8)
  (try dsimp only [List.cons_append, List.nil_append])
  refine S_cons <| S_AssignAttr <| E_int <| E_loc rfl <| A_new (no_351_out_words hK) ?_
  (try dsimp only [List.cons_append, List.nil_append])
  refine S_nil (h rows buf d l pool sp maps ⟨.ref ty, .str "M", .ref buf, .ref pool, .ref x0, .ref x1, .ref x2, .ref maps, .ref x3, .ref x4, .ref x5, 0, .ref x6, -8, -8, .ref x7, .ref x8, 0⟩ ?_ ?_ rfl rfl rfl rfl rfl)
  · simp only [List.nodup_cons, List.mem_cons, List.not_mem_nil, or_false, not_or, List.nodup_nil, and_true, not_false_eq_true]
    and_intros <;> first | assumption | exact Ne.symm (by assumption)
  · intro x hx
    simp only [List.mem_cons, List.not_mem_nil, or_false] at hx
    rcases hx with rfl | rfl | rfl | rfl | rfl | rfl | rfl
    all_goals assumption
end Mine
end

section
open PySem PySem.W PySem.Calls PyProof.Rows
namespace Mine

/-! the law's own part of the heap -/
noncomputable abbrev Live := List (Addr × (Addr × Int))
structure LV where
  wa : Int
  ws : Int
  cs : List Int
  at_ : Int
  R : List (Int × AV)
  W : List (Int × AV)
  words : List Int
  roots : List Int
  ty : Loc
noncomputable def lobj (B : Nat → Addr) (V : LV) (T : Live) : Nat → AObj
  | 0 => .list [.int V.wa, .ref (B 1), .int V.ws]
  | 1 => .list (V.cs.map .int)
  | 2 => .sdict [("at", .int V.at_), ("regs", .ref (B 3)), ("words", .ref (B 4))]
  | 3 => .idict V.R
  | 4 => .idict V.W
  | 5 => .list (T.map fun e => .ref e.1)
  | 6 => .list (V.words.map .int)
  | 7 => .list (V.roots.map .int)
  | _ => .inst 408 V.ty
noncomputable def entO (e : Addr × Int) : AObj := .tup [.ref e.1, .int e.2]
noncomputable def lcan (B : Nat → Addr) (V : LV) (T : Live) : Hp := fun b =>
  match (List.range 9).find? (fun i => B i == b) with
  | some i => some (lobj B V T i)
  | none => (T.lookup b).map entO
structure LW (A : Ad) (rt : List Addr) (S : St) (B : Nat → Addr) (T : Live) : Prop where
  w : Wf A rt S
  inj : ∀ i j, i < 9 → j < 9 → B i = B j → i = j
  ob : ∀ i, i < 9 → Off A rt S (B i)
  tb : ∀ e ∈ T, ∀ i, i < 9 → B i ≠ e.1
  ot : ∀ e ∈ T, Off A rt S e.1
  tn : (T.map (·.1)).Nodup
theorem find_at9 {B : Nat → Addr} {i : Nat} (inj : ∀ i j, i < 9 → j < 9 → B i = B j → i = j) (hi : i < 9) : (List.range 9).find? (fun j => B j == B i) = some i := by
  rw [List.find?_range_eq_some]
  refine ⟨by simp, by simpa using hi, fun j hj => ?_⟩
  have : B j ≠ B i := fun e => by have := inj j i (by omega) hi e; omega
  simpa using this
theorem find_no9 {B : Nat → Addr} {b : Addr} (h : ∀ i, i < 9 → B i ≠ b) : (List.range 9).find? (fun j => B j == b) = none := by
  rw [List.find?_eq_none]
  intro i hi
  simpa using h i (by simpa using hi)
section
variable {A : Ad} {rt : List Addr} {S : St} {B : Nat → Addr} {V V' : LV} {T : Live} {ρ : Hp}
theorem lcan_at (l : LW A rt S B T) (i : Nat) (hi : i < 9 := by decide) : lcan B V T (B i) = some (lobj B V T i) := by
  unfold lcan
  rw [find_at9 l.inj hi]
theorem lookup_key {α β : Type} [BEq α] [LawfulBEq α] {k : α} {b : β} : ∀ {xs : List (α × β)}, (xs.map (·.1)).Nodup → (k, b) ∈ xs → xs.lookup k = some b
  | [], _, h => nomatch h
  | p :: r, hN, h => by
    rw [List.map_cons, List.nodup_cons] at hN
    rcases List.mem_cons.mp h with e | m
    · subst e; simp
    · have : k ≠ p.1 := fun e => hN.1 (e ▸ List.mem_map_of_mem (f := (·.1)) m)
      obtain ⟨p1, p2⟩ := p
      have e : (k == p1) = false := by simpa using this
      rw [List.lookup_cons, e]
      exact lookup_key hN.2 m
theorem lcan_ent (l : LW A rt S B T) {e : Addr × (Addr × Int)} (he : e ∈ T) : lcan B V T e.1 = some (entO e.2) := by
  unfold lcan
  rw [find_no9 (l.tb e he)]
  simp only
  rw [lookup_key l.tn (show (e.1, e.2) ∈ T from he)]
  rfl
theorem lcan_set (l : LW A rt S B T) (i : Nat) {o : AObj} (hi : i < 9) (ho : lobj B V' T i = o) (hs : ∀ j, j < 9 → j ≠ i → lobj B V' T j = lobj B V T j) : (lcan B V T).set (B i) o = lcan B V' T := by
  funext b
  by_cases hb : b = B i
  · subst hb
    rw [Hp.set_self]
    unfold lcan
    rw [find_at9 l.inj hi]
    simp only [ho]
  · rw [Hp.set_ne hb]
    unfold lcan
    cases q : (List.range 9).find? (fun j => B j == b) with
    | none => rfl
    | some j =>
      have hj := List.find?_some q
      have hm := List.mem_of_find?_eq_some q
      simp only [beq_iff_eq] at hj
      simp only
      rw [hs j (by simpa using hm) (fun e => hb (by rw [← hj, e]))]
theorem oth9 {i : Nat} (h : ∀ j, j = 0 ∨ j = 1 ∨ j = 2 ∨ j = 3 ∨ j = 4 ∨ j = 5 ∨ j = 6 ∨ j = 7 ∨ j = 8 → j ≠ i → lobj B V' T j = lobj B V T j) : ∀ j, j < 9 → j ≠ i → lobj B V' T j = lobj B V T j := fun j hj hn => h j (by omega) hn
/-- one of the law's objects is read -/
theorem LW.get (l : LW A rt S B T) (i : Nat) (hi : i < 9 := by decide) : canon A rt S (lcan B V T) (B i) = some (lobj B V T i) := by
  rw [(l.ob i hi).get]; exact lcan_at l i hi
theorem LW.ent (l : LW A rt S B T) {e : Addr × (Addr × Int)} (he : e ∈ T) : canon A rt S (lcan B V T) e.1 = some (entO e.2) := by
  rw [(l.ot e he).get]; exact lcan_ent l he
theorem LW.set_well (l : LW A rt S B T) (a s : Int) : (canon A rt S (lcan B V T)).set (B 0) (.list [.int a, .ref (B 1), .int s]) = canon A rt S (lcan B { V with wa := a, ws := s } T) := by
  rw [(l.ob 0 (by decide)).set]
  exact congrArg (canon A rt S) (lcan_set (V' := { V with wa := a, ws := s }) l 0 (by decide) rfl (oth9 (by rintro j (rfl | rfl | rfl | rfl | rfl | rfl | rfl | rfl | rfl) hj <;> first | rfl | exact absurd rfl hj)))
theorem LW.set_mach (l : LW A rt S B T) (k : Int) : (canon A rt S (lcan B V T)).set (B 2) (.sdict [("at", .int k), ("regs", .ref (B 3)), ("words", .ref (B 4))]) = canon A rt S (lcan B { V with at_ := k } T) := by
  rw [(l.ob 2 (by decide)).set]
  exact congrArg (canon A rt S) (lcan_set (V' := { V with at_ := k }) l 2 (by decide) rfl (oth9 (by rintro j (rfl | rfl | rfl | rfl | rfl | rfl | rfl | rfl | rfl) hj <;> first | rfl | exact absurd rfl hj)))
theorem LW.set_regs (l : LW A rt S B T) (x : List (Int × AV)) : (canon A rt S (lcan B V T)).set (B 3) (.idict x) = canon A rt S (lcan B { V with R := x } T) := by
  rw [(l.ob 3 (by decide)).set]
  exact congrArg (canon A rt S) (lcan_set (V' := { V with R := x }) l 3 (by decide) rfl (oth9 (by rintro j (rfl | rfl | rfl | rfl | rfl | rfl | rfl | rfl | rfl) hj <;> first | rfl | exact absurd rfl hj)))
theorem LW.set_wrds (l : LW A rt S B T) (x : List (Int × AV)) : (canon A rt S (lcan B V T)).set (B 4) (.idict x) = canon A rt S (lcan B { V with W := x } T) := by
  rw [(l.ob 4 (by decide)).set]
  exact congrArg (canon A rt S) (lcan_set (V' := { V with W := x }) l 4 (by decide) rfl (oth9 (by rintro j (rfl | rfl | rfl | rfl | rfl | rfl | rfl | rfl | rfl) hj <;> first | rfl | exact absurd rfl hj)))
theorem LW.set_words (l : LW A rt S B T) (x : List Int) : (canon A rt S (lcan B V T)).set (B 6) (.list (x.map .int)) = canon A rt S (lcan B { V with words := x } T) := by
  rw [(l.ob 6 (by decide)).set]
  exact congrArg (canon A rt S) (lcan_set (V' := { V with words := x }) l 6 (by decide) rfl (oth9 (by rintro j (rfl | rfl | rfl | rfl | rfl | rfl | rfl | rfl | rfl) hj <;> first | rfl | exact absurd rfl hj)))
end
theorem LW.of {A : Ad} {rt rt' : List Addr} {S S' : St} {B : Nat → Addr} {V : LV} {T : Live} (l : LW A rt S B T) (w : Wf A rt' S') (k : Keep A rt S rt' S' (lcan B V T)) : LW A rt' S' B T :=
  ⟨w, l.inj, fun i hi => k _ (by rw [lcan_at l i hi]; rfl) (l.ob i hi), l.tb, fun e he => k _ (by rw [lcan_ent l he]; rfl) (l.ot e he), l.tn⟩

variable {G : Gx} (hK : KG G) {A : Ad} {rt : List Addr} {S : St} {B : Nat → Addr} {V : LV} {T : Live} {n : Nat} {Q : AV → Hp → Prop}
theorem fmod_rng {a b : Int} (hb : 0 < b) : 0 ≤ a.fmod b ∧ a.fmod b < b := ⟨Int.fmod_nonneg_of_pos a hb, Int.fmod_lt_of_pos a hb⟩
theorem bits_small {i : Int} (h0 : 0 ≤ i) (h : i < 2 ^ 62) : Builtin.Int.intBits i ≤ 64 := by
  unfold Builtin.Int.intBits
  split
  · decide
  · rename_i q
    have hn : i.natAbs ≠ 0 := by simpa using q
    have : i.natAbs.log2 < 62 := (Nat.log2_lt hn).mpr (by omega)
    omega
theorem log_small {i : Int} (h0 : 0 < i) (h : i < 2 ^ 62) : i.natAbs.log2 < 9000 := by
  have : i.natAbs.log2 < 62 := (Nat.log2_lt (by omega)).mpr (by omega)
  omega
include hK
set_option maxHeartbeats 1000000 in
theorem F_pull {most : Int} {σ : Hp} {wl cl : Addr} {wa ws : Int} {cs : List Int} (hw : σ wl = some (.list [.int wa, .ref cl, .int ws])) (hc : σ cl = some (.list (cs.map .int))) (hne : wl ≠ cl) (h0 : 0 ≤ wa) (h1 : 0 ≤ ws) (h2 : ws < 2 ^ 40) (hcs : cs ≠ []) (hcl : cs.length ≤ 1000) (hm : 0 < most) (hm2 : most < 2 ^ 40)
    (h : ∀ r a s, 0 ≤ r → r < most → 0 ≤ a → ws ≤ s → s ≤ ws + 1 → Q (.int r) (σ.set wl (.list [.int a, .ref cl, .int s]))) : Fn G (n + 1) 419 [.ref wl, .int most] σ Q := by
  refine' enter hK.f419 [("well", .ref wl), ("most", .int most)] ?he ?hbx ?hm ?_
  case he => rfl
  case hbx => rfl
  case hm => rfl
  intro cdv
  intro c hcn
  have hlen : 0 < cs.length := List.length_pos_iff.mpr hcs
  refine S_cons <| SV.mono (Q := fun fl μ σ' => fl = .next ∧ ∃ a s, HasL μ "well" (.ref wl) ∧ HasL μ "most" (.int most) ∧ 0 ≤ a ∧ ws ≤ s ∧ s ≤ ws + 1 ∧ σ' = σ.set wl (.list [.int a, .ref cl, .int s])) ?_ fun fl μ σ' ⟨e, a, s, f1, f2, f3, f4, f5, e2⟩ => ?_
  · refine S_If <| T_Compare <| E_Sub <| E_loc rfl <| E_int <| I_list hw (by decide) rfl <| E_int <| O_lt <| T_bool ?_
    by_cases q : wa < 16777216
    · rw [decide_eq_true q]
      have k1 := fmod_rng (a := ws) (b := cs.length) (by omega)
      have hidx : (cs.map AV.int)[(ws.fmod cs.length).toNat]? = some (.int (cs[(ws.fmod cs.length).toNat]'(by omega))) := by
        rw [List.getElem?_map, List.getElem?_eq_getElem (by omega)]; rfl
      generalize cs[(ws.fmod cs.length).toNat]'(by omega) = cell at hidx
      refine S_cons <| S_AssignName <| E_Sub <| E_loc rfl <| E_int <| I_list hw (by decide) rfl ?_
      refine S_cons <| S_AssignName <| E_Sub <| E_loc rfl <| E_int <| I_list hw (by decide) rfl ?_
      refine S_cons <| S_AssignName <| E_Sub <| E_loc rfl <| E_BinOp <| E_loc rfl <| E_Call1 <| E_built (n_len hK) rfl rfl <| EVs_cons <| E_loc rfl <| EVs_nil ⟨trivial, C_len hc (O_mod (by simp; omega) <| I_list (x := .int cell) hc (by simpa using k1.1) (by simpa using hidx) ?_ (by have := k1.2; simp; omega)) (by simp; omega)⟩
      refine S_cons <| S_AssignSub <| E_BinOp <| E_loc rfl <| E_int <| O_add <| E_loc rfl <| E_int <| J_list hw (by decide) (by simp) ?_
      have hw2 : (σ.set wl (.list [.int wa, .ref cl, .int (ws + 1)])) wl = some (.list [.int wa, .ref cl, .int (ws + 1)]) := Hp.set_self _ _ _
      have hc2 : (σ.set wl (.list [.int wa, .ref cl, .int (ws + 1)])) cl = some (.list (cs.map .int)) := by rw [Hp.set_ne (Ne.symm hne)]; exact hc
      refine S_cons <| S_If <| W.mono (Q := fun _ μ σ' => μ = upd "cell" (.int cell) (upd "cells" (.ref cl) (upd "spot_at" (.int ws) [("most", .int most), ("well", .ref wl)])) ∧ σ' = σ.set wl (.list [.int wa, .ref cl, .int (ws + 1)])) ?_ ?_
      · refine T_And2 <| T_Compare <| E_loc rfl <| E_Call1 <| E_built (n_len hK) rfl rfl <| EVs_cons <| E_loc rfl <| EVs_nil ⟨trivial, C_len hc2 (O_lt <| T_bool ?_) (by simp; omega)⟩
        split
        · exact T_Compare <| E_loc rfl <| E_BinOp <| E_int <| E_int <| O_pow (by decide) (by decide) <| O_ge <| T_bool ⟨rfl, rfl⟩
        · exact ⟨rfl, rfl⟩
      · rintro z μ σ' ⟨rfl, rfl⟩
        cases z with
        | true =>
          refine S_cons <| S_AssignSub <| E_BinOp <| E_loc rfl <| E_BinOp <| E_int <| E_int <| O_pow (by decide) (by decide) <| O_mod (by decide) <| E_loc rfl <| E_int <| J_list hw2 (by decide) (by simp) ?_
          rw [Hp.set_set]
          exact S_nil <| S_nil ⟨rfl, cell.fmod (10 ^ Int.toNat 70), ws + 1, rfl, rfl, (fmod_rng (by decide)).1, by omega, by omega, rfl⟩
        | false =>
          refine S_cons <| S_AssignName <| E_BinOp <| E_BinOp <| E_BinOp <| E_BinOp <| E_loc rfl <| E_int <| O_mod (by decide) <| E_BinOp <| E_int <| E_loc rfl <| O_mul (.of_left (by decide)) <| O_add <| E_int <| O_add <| E_BinOp <| E_int <| E_BinOp <| E_int <| E_loc rfl <| O_mul (.of_left (by decide)) <| O_add <| O_mul (.of_right (bits_small (by omega) (by omega))) ?_
          refine S_cons <| S_AssignSub <| E_BinOp <| E_BinOp <| E_loc rfl <| E_BinOp <| E_int <| E_loc rfl <| O_mul (.of_left (by decide)) <| O_add <| E_int <| O_mod (by decide) <| E_loc rfl <| E_int <| J_list hw2 (by decide) (by simp) ?_
          rw [Hp.set_set]
          exact S_nil <| S_nil ⟨rfl, _, ws + 1, rfl, rfl, (fmod_rng (by decide)).1, by omega, by omega, rfl⟩
    · rw [decide_eq_false q]
      refine S_nil ⟨rfl, wa, ws, rfl, rfl, h0, Int.le_refl _, by omega, (Hp.set_same hw).symm⟩
  · subst e e2
    refine S_cons <| S_AssignName <| E_BinOp <| E_Sub <| E_loc f1 <| E_int <| I_list (Hp.set_self _ _ _) (by decide) rfl <| E_loc f2 <| O_mod (by omega) ?_
    have k2 := fmod_rng (a := a) hm
    refine S_cons <| S_AssignSub <| E_BinOp <| E_Sub <| E_loc (upd_ne f1 (by decide)) <| E_int <| I_list (Hp.set_self _ _ _) (by decide) rfl <| E_loc (upd_ne f2 (by decide)) <| O_div (by omega) ?_ <| E_loc (upd_ne f1 (by decide)) <| E_int <| J_list (Hp.set_self _ _ _) (by decide) (by simp) ?_
    · exact log_small hm (by omega)
    rw [Hp.set_set]
    refine S_cons <| S_Return <| E_loc (upd_self _ _ _) <| h _ _ s k2.1 k2.2 ?_ f4 f5
    exact Int.fdiv_nonneg f3 (by omega)
end Mine
end

section
open PySem PySem.W PySem.Calls PyProof.Rows
namespace Mine

variable {G : Gx} (hK : KG G) {A : Ad} {rt : List Addr} {S : St} {B : Nat → Addr} {V : LV} {T : Live} {n : Nat} {Q : AV → Hp → Prop}
noncomputable def RowOk (r : Row) : Prop := (r.name = "STR" ∧ r.b = 11) ∨ (r.name = "LDR" ∧ r.b = 11) ∨ (r.name = "MOVI")
noncomputable abbrev Mac := List (Int × AV) × List (Int × AV)
noncomputable def exec1 (m : Mac) (r : Row) : Mac :=
  if r.name = "STR" then (m.1, putAt m.2 r.c ((keyAt m.1 r.a).getD .none))
  else if r.name = "LDR" then (putAt m.1 r.a ((keyAt m.2 r.c).getD .none), m.2)
  else (putAt m.1 r.a (.int r.c), m.2)
noncomputable def runRows (rs : List Row) (m : Mac) : Mac := rs.foldl exec1 m
theorem eqS {α : Type} {c : Cx G} {t : Sem α} {μ : Loc} {σ σ' : Hp} {Q : α → Loc → Hp → Prop} (e : σ = σ') (h : W c t μ σ' Q) : W c t μ σ Q := e ▸ h
theorem putAt_len {xs : List (Int × AV)} {k : Int} {v : AV} : (putAt xs k v).length ≤ xs.length + 1 := by
  unfold putAt
  split <;> simp
theorem bindAll4 {a b c d : Str} {v1 v2 v3 v4 : AV} {μ : Loc} : bindAll [a, b, c, d] [v1, v2, v3, v4] μ = upd d v4 (upd c v3 (upd b v2 (upd a v1 μ))) := rfl
theorem bindAll2 {a b : Str} {v1 v2 : AV} {μ : Loc} : bindAll [a, b] [v1, v2] μ = upd b v2 (upd a v1 μ) := rfl
include hK
set_option maxHeartbeats 1000000 in
theorem F_follow (l : LW A rt S B T) (hk0 : 0 ≤ V.at_) (hk1 : V.at_ ≤ S.rows.length) (hrow : ∀ r ∈ S.rows, RowOk r) (hz : V.R.length + V.W.length + S.rows.length ≤ 100000)
    (h : ∀ R' W', (R', W') = runRows (S.rows.drop V.at_.toNat) (V.R, V.W) → R'.length + W'.length ≤ V.R.length + V.W.length + (S.rows.length - V.at_.toNat) → Q (.bool true) (canon A rt S (lcan B { V with at_ := S.rows.length, R := R', W := W' } T))) :
    Fn G (n + 1) 426 [.ref (A.at_ 0), .ref (B 2)] (canon A rt S (lcan B V T)) Q := by
  refine' enter hK.f426 [("coder", .ref (A.at_ 0)), ("machine", .ref (B 2))] ?he ?hbx ?hm ?_
  case he => rfl
  case hbx => rfl
  case hm => rfl
  intro cdv
  intro c hcn
  have w := l.w
  refine S_cons <| S_AssignName <| E_Attr <| E_Attr <| E_loc rfl <| R_coder w "buf" rfl <| A_data (canon_at w 1) rfl ?_
  refine S_cons <| S_While (fun m μ σ => ∃ k R W, m = S.rows.length - k ∧ k ≤ S.rows.length ∧ V.at_.toNat ≤ k ∧ σ = canon A rt S (lcan B { V with at_ := (k : Int), R := R, W := W } T) ∧ runRows (S.rows.drop k) (R, W) = runRows (S.rows.drop V.at_.toNat) (V.R, V.W) ∧ R.length + W.length + (S.rows.length - k) ≤ V.R.length + V.W.length + (S.rows.length - V.at_.toNat) ∧
      HasL μ "machine" (.ref (B 2)) ∧ HasL μ "rows" (.ref (A.at_ 2))) (S.rows.length - V.at_.toNat) ⟨V.at_.toNat, V.R, V.W, rfl, by omega, Nat.le_refl _, by rw [Int.toNat_of_nonneg hk0], rfl, Nat.le_refl _, rfl, rfl⟩ ?_
  rintro m μ σ ⟨k, R, W, rfl, hk, hk2, rfl, he, hlen, f1, f2⟩
  refine T_Compare <| E_Sub <| E_loc f1 <| E_str <| I_sdict (l.get 2) rfl <| E_Call1 <| E_built (n_len hK) rfl rfl <| EVs_cons <| E_loc f2 <| EVs_nil ⟨trivial, C_len (canon_at w 2) (O_lt <| T_bool ?_) (by rw [List.length_map, w.rl]; omega)⟩
  have hlk : ((rt.map AV.ref).length : Int) = (S.rows.length : Int) := by rw [List.length_map, w.rl]
  rw [hlk]
  by_cases q : k < S.rows.length
  · rw [decide_eq_true (by omega : (k : Int) < (S.rows.length : Int))]
    have hrt : rt[k]? = some (rt[k]'(by rw [w.rl]; exact q)) := List.getElem?_eq_getElem _
    have hr : S.rows[k]? = some S.rows[k] := List.getElem?_eq_getElem q
    have hm : S.rows[k] ∈ S.rows := List.getElem_mem q
    have hd : S.rows.drop k = S.rows[k] :: S.rows.drop (k + 1) := List.drop_eq_getElem_cons q
    rw [hd] at he
    have he' : runRows (S.rows.drop (k + 1)) (exec1 (R, W) S.rows[k]) = runRows (S.rows.drop V.at_.toNat) (V.R, V.W) := he
    have ok := hrow _ hm
    generalize S.rows[k] = r at *
    generalize rt[k]'(by rw [w.rl]; exact q) = ra at hrt
    obtain ⟨nm, ra1, rb, rc⟩ := r
    refine S_cons <| S_AssignTuple <| E_Sub <| E_loc f2 <| E_Sub <| E_loc f1 <| E_str <| I_sdict (l.get 2) rfl <| I_list (x := .ref ra) (k := (k : Int)) (canon_at w 2) (by omega) (by rw [List.getElem?_map, Int.toNat_natCast, hrt]; rfl) ?_ (by omega)
    refine A_Tuple (ns := [(_, _), (_, _), (_, _), (_, _)]) (canon_row w hrt hr) rfl (by simp) (fun p hp => by simp only [List.mem_cons, List.not_mem_nil, or_false] at hp; rcases hp with rfl | rfl | rfl | rfl <;> rfl) ?_
    show SV _ _ (upd "c" (.int rc) (upd "b" (.int rb) (upd "a" (.int ra1) (upd "name" (.str nm) μ)))) _ _
    have g1 : HasL (upd "c" (.int rc) (upd "b" (.int rb) (upd "a" (.int ra1) (upd "name" (.str nm) μ)))) "machine" (.ref (B 2)) := upd_ne (upd_ne (upd_ne (upd_ne f1 (by decide)) (by decide)) (by decide)) (by decide)
    have g2 : HasL (upd "c" (.int rc) (upd "b" (.int rb) (upd "a" (.int ra1) (upd "name" (.str nm) μ)))) "rows" (.ref (A.at_ 2)) := upd_ne (upd_ne (upd_ne (upd_ne f2 (by decide)) (by decide)) (by decide)) (by decide)
    have g3 : HasL (upd "c" (.int rc) (upd "b" (.int rb) (upd "a" (.int ra1) (upd "name" (.str nm) μ)))) "name" (.str nm) := upd_ne (upd_ne (upd_ne (upd_self _ _ _) (by decide)) (by decide)) (by decide)
    have g4 : HasL (upd "c" (.int rc) (upd "b" (.int rb) (upd "a" (.int ra1) (upd "name" (.str nm) μ)))) "a" (.int ra1) := upd_ne (upd_ne (upd_self _ _ _) (by decide)) (by decide)
    have g5 : HasL (upd "c" (.int rc) (upd "b" (.int rb) (upd "a" (.int ra1) (upd "name" (.str nm) μ)))) "b" (.int rb) := upd_ne (upd_self _ _ _) (by decide)
    have g6 : HasL (upd "c" (.int rc) (upd "b" (.int rb) (upd "a" (.int ra1) (upd "name" (.str nm) μ)))) "c" (.int rc) := upd_self _ _ _
    generalize upd "c" (.int rc) (upd "b" (.int rb) (upd "a" (.int ra1) (upd "name" (.str nm) μ))) = μ2 at *
    -- behind the step of the machine
    refine S_cons <| SV.mono (Q := fun fl μ σ => fl = .next ∧ μ = μ2 ∧ σ = canon A rt S (lcan B { V with at_ := (k : Int), R := (exec1 (R, W) ⟨nm, ra1, rb, rc⟩).1, W := (exec1 (R, W) ⟨nm, ra1, rb, rc⟩).2 } T)) ?_ ?_
    · refine S_If <| T_And2 <| T_Compare <| E_loc g3 <| E_str <| O_eq_str <| T_bool ?_
      rcases ok with ⟨rfl, rfl⟩ | ⟨rfl, rfl⟩ | rfl
      · refine T_Compare <| E_loc g5 <| E_int <| O_eq <| T_bool ?_
        refine S_cons <| S_AssignSub <| E_Meth1 <| E_Sub <| E_loc g1 <| E_str <| I_sdict (l.get 2) rfl <| M_dict (l.get 3) (.inl ⟨_, rfl⟩) PySem.F.slot_dict_get rfl <| EVs_cons <| E_loc g4 <| EVs_nil ⟨trivial, C_get (l.get 3) <| E_Sub <| E_loc g1 <| E_str <| I_sdict (l.get 2) rfl <| E_loc g6 <| J_idict (l.get 4) (by show W.length ≤ _; omega) ?_⟩
        rw [l.set_wrds]
        exact S_nil ⟨rfl, rfl, rfl⟩
      · refine S_cons <| S_If <| T_And2 <| T_Compare <| E_loc g3 <| E_str <| O_eq_str <| T_bool <| T_Compare <| E_loc g5 <| E_int <| O_eq <| T_bool ?_
        refine S_cons <| S_AssignSub <| E_Meth1 <| E_Sub <| E_loc g1 <| E_str <| I_sdict (l.get 2) rfl <| M_dict (l.get 4) (.inl ⟨_, rfl⟩) PySem.F.slot_dict_get rfl <| EVs_cons <| E_loc g6 <| EVs_nil ⟨trivial, C_get (l.get 4) <| E_Sub <| E_loc g1 <| E_str <| I_sdict (l.get 2) rfl <| E_loc g4 <| J_idict (l.get 3) (by show R.length ≤ _; omega) ?_⟩
        rw [l.set_regs]
        exact S_nil <| S_nil ⟨rfl, rfl, rfl⟩
      · refine S_cons <| S_If <| T_And2 <| T_Compare <| E_loc g3 <| E_str <| O_eq_str <| T_bool ?_
        refine S_cons <| S_If <| T_Compare <| E_loc g3 <| E_str <| O_eq_str <| T_bool ?_
        refine S_cons <| S_AssignSub <| E_loc g6 <| E_Sub <| E_loc g1 <| E_str <| I_sdict (l.get 2) rfl <| E_loc g4 <| J_idict (l.get 3) (by show R.length ≤ _; omega) ?_
        rw [l.set_regs]
        exact S_nil <| S_nil <| S_nil ⟨rfl, rfl, rfl⟩
    · rintro fl μ σ ⟨rfl, rfl, rfl⟩
      have e1 : (exec1 (R, W) ⟨nm, ra1, rb, rc⟩).1.length + (exec1 (R, W) ⟨nm, ra1, rb, rc⟩).2.length ≤ R.length + W.length + 1 := by
        unfold exec1
        split
        · have := putAt_len (xs := W) (k := rc) (v := (keyAt R ra1).getD .none); simp only; omega
        · split
          · have := putAt_len (xs := R) (k := ra1) (v := (keyAt W rc).getD .none); simp only; omega
          · have := putAt_len (xs := R) (k := ra1) (v := .int rc); simp only; omega
      generalize exec1 (R, W) ⟨nm, ra1, rb, rc⟩ = M2 at *
      refine S_cons <| S_AugSub <| E_loc g1 <| E_str <| I_sdict (l.get 2) rfl <| E_int <| O_iadd <| J_sdict (l.get 2) (by simp) <| eqS (l.set_mach ((k : Int) + 1)) ?_
      exact S_nil ⟨S.rows.length - (k + 1), by omega, k + 1, M2.1, M2.2, rfl, q, by omega, by rw [Int.natCast_succ], he', by omega, g1, g2⟩
  · rw [decide_eq_false (by omega : ¬ (k : Int) < (S.rows.length : Int))]
    have hk' : k = S.rows.length := by omega
    subst hk'
    rw [List.drop_length] at he
    refine S_cons <| S_Return <| E_bool <| h R W he (by omega)
end Mine
end

section
open PySem PySem.W PySem.Calls PyProof.Rows
namespace Mine

/-! the pure law -/
noncomputable def Mx (S : St) : Mac := runRows S.rows ([], [])
theorem runRows_snoc (rs : List Row) (r : Row) (m : Mac) : runRows (rs ++ [r]) m = exec1 (runRows rs m) r := by unfold runRows; rw [List.foldl_append]; rfl
theorem runRows_app (rs qs : List Row) (m : Mac) : runRows (rs ++ qs) m = runRows qs (runRows rs m) := by unfold runRows; rw [List.foldl_append]

structure SlotsOk (top low : Int) (xs : List Int) : Prop where
  nd : xs.Nodup
  ok : ∀ w ∈ xs, low ≤ w ∧ w < top ∧ w % 4 = 0
theorem SlotsOk.perm {top low : Int} {xs ys : List Int} (h : SlotsOk top low xs) (p : xs.Perm ys) : SlotsOk top low ys :=
  ⟨p.nodup_iff.mp h.nd, fun w hw => h.ok w (p.mem_iff.mpr hw)⟩

structure Inv (count top : Int) (S : St) (L : List (Addr × Int)) (words : List Int) : Prop where
  ord : S.order = S.own.map (·.1)
  rng : ∀ p ∈ S.own, 0 ≤ p.1 ∧ p.1 < count
  nd : (S.own.map (·.1)).Nodup
  own : ∀ p ∈ S.own, p.2 ∈ L.map (·.1) ∧ ∃ i, S.items p.2 = some i ∧ i.reg = p.1 ∧ i.mode = "reg"
  spl : ∀ p ∈ S.spilled, p.2 ∈ L.map (·.1) ∧ ∃ i, S.items p.2 = some i ∧ i.slot = p.1 ∧ i.mode = "spill" ∧ i.was = "reg"
  live : ∀ e ∈ L, ∃ i, S.items e.1 = some i ∧ ((i.mode = "reg" ∧ (i.reg, e.1) ∈ S.own ∧ keyAt (Mx S).1 i.reg = some (.int e.2)) ∨ (i.mode = "spill" ∧ (i.slot, e.1) ∈ S.spilled ∧ keyAt (Mx S).2 i.slot = some (.int e.2)))
  ln : (L.map (·.1)).Nodup
  sl : SlotsOk top S.low (words ++ S.spilled.map (·.1) ++ S.temps)
  low : S.lowest = S.low ∧ S.low ≤ top ∧ S.low % 4 = 0
  cnt : S.own.length + S.spilled.length = L.length
  rows : ∀ r ∈ S.rows, RowOk r

theorem sne : ("reg" : Str) ≠ "spill" := by decide
theorem erase_keys {α : Type} {xs : List (Int × α)} {k : Int} (h : (xs.map (·.1)).Nodup) : (xs.map (·.1)).erase k = (xs.filter fun p => decide (p.1 ≠ k)).map (·.1) := by
  rw [h.erase_eq_filter, List.filter_map]
  congr 1
  apply List.filter_congr
  intro p _
  simp [Function.comp_def, bne, BEq.beq]
theorem filt_perm {α : Type} {xs : List (Int × α)} {k : Int} (h : (xs.map (·.1)).Nodup) (hk : k ∈ xs.map (·.1)) : (xs.map (·.1)).Perm (k :: (xs.filter fun p => decide (p.1 ≠ k)).map (·.1)) := by
  rw [← erase_keys h]; exact List.perm_cons_erase hk
theorem filt_len {α : Type} {xs : List (Int × α)} {k : Int} (h : (xs.map (·.1)).Nodup) (hk : k ∈ xs.map (·.1)) : (xs.filter fun p => decide (p.1 ≠ k)).length + 1 = xs.length := by
  have := (filt_perm h hk).length_eq
  simpa using this.symm
theorem filt_nd {α : Type} {xs : List (Int × α)} {k : Int} (h : (xs.map (·.1)).Nodup) : ((xs.filter fun p => decide (p.1 ≠ k)).map (·.1)).Nodup := by
  rw [← erase_keys h]; exact h.erase _
theorem mem_fst {α β : Type} {xs : List (α × β)} {k : α} {a : β} (h : (k, a) ∈ xs) : k ∈ xs.map (·.1) := List.mem_map_of_mem (f := (·.1)) h

theorem temp_slots {top : Int} {S : St} {xs : List Int} (h : SlotsOk top S.low (xs ++ S.temps)) (hl : S.lowest = S.low ∧ S.low ≤ top ∧ S.low % 4 = 0) :
    SlotsOk top (tempS S).2.low ((tempS S).1 :: (xs ++ (tempS S).2.temps)) ∧ ((tempS S).2.lowest = (tempS S).2.low ∧ (tempS S).2.low ≤ top ∧ (tempS S).2.low % 4 = 0) := by
  obtain ⟨h1, h2, h3⟩ := hl
  unfold tempS
  cases q : S.temps.getLast? with
  | some t =>
    obtain ⟨ys, e⟩ := List.getLast?_eq_some_iff.mp q
    refine ⟨?_, h1, h2, h3⟩
    show SlotsOk top S.low (t :: (xs ++ S.temps.dropLast))
    rw [e, List.dropLast_concat]
    rw [e, ← List.append_assoc] at h
    exact h.perm (List.perm_append_singleton _ _)
  | none =>
    have e : S.temps = [] := List.getLast?_eq_none_iff.mp q
    rw [e] at h
    refine ⟨?_, ?_, ?_, ?_⟩
    · show SlotsOk top (S.low - 4) ((S.low - 4) :: (xs ++ S.temps))
      rw [e]
      refine ⟨List.nodup_cons.mpr ⟨fun z => ?_, h.nd⟩, fun w hw => ?_⟩
      · have := (h.ok _ z).1; omega
      · rcases List.mem_cons.mp hw with rfl | hw
        · refine ⟨by omega, by omega, by omega⟩
        · have := h.ok w hw; refine ⟨by omega, this.2⟩
    · show min S.lowest (S.low - 4) = S.low - 4; omega
    · show S.low - 4 ≤ top; omega
    · show (S.low - 4) % 4 = 0; omega

section
variable {count top : Int} {S : St} {L : List (Addr × Int)} {words : List Int} {a : Addr} {i : It}

theorem spill_self : (spillS a i S).items a = some { i with mode := "spill", was := i.mode, slot := (tempS S).1, reg := -1 } := by
  unfold spillS giveS St.putR St.put1
  simp
theorem spill_Mx : Mx (spillS a i S) = exec1 (Mx S) ⟨"STR", i.reg, 11, (tempS S).1⟩ := by
  unfold Mx
  rw [spill_rows, runRows_snoc]
theorem exec_STR (m : Mac) (x y : Int) : exec1 m ⟨"STR", x, 11, y⟩ = (m.1, putAt m.2 y ((keyAt m.1 x).getD .none)) := by
  unfold exec1; rw [if_pos rfl]
theorem exec_LDR (m : Mac) (x y : Int) : exec1 m ⟨"LDR", x, 11, y⟩ = (putAt m.1 x ((keyAt m.2 y).getD .none), m.2) := by
  unfold exec1; rw [if_neg (show ¬ ("LDR" : Str) = "STR" by decide), if_pos rfl]
theorem exec_MOVI (m : Mac) (x y : Int) : exec1 m ⟨"MOVI", x, 0, y⟩ = (putAt m.1 x (.int y), m.2) := by
  unfold exec1; rw [if_neg (show ¬ ("MOVI" : Str) = "STR" by decide), if_neg (show ¬ ("MOVI" : Str) = "LDR" by decide)]
theorem Inv.slotN (I : Inv count top S L words) : ∀ p ∈ S.spilled, p.1 ≠ (tempS S).1 := fun p hp e => by
  have h := (temp_slots I.sl I.low).1.nd
  rw [List.nodup_cons] at h
  exact h.1 (e ▸ List.mem_append_left _ (List.mem_append_right _ (List.mem_map_of_mem (f := (·.1)) hp)))
theorem Inv.snd (I : Inv count top S L words) : (S.spilled.map (·.1)).Nodup := by
  have h := I.sl.nd
  rw [List.nodup_append, List.nodup_append] at h
  exact h.1.2.1

theorem inv_spill (I : Inv count top S L words) (ha : S.items a = some i) (hm : (i.reg, a) ∈ S.own) : Inv count top (spillS a i S) L words := by
  obtain ⟨haL, i', hi', hr', hmode⟩ := I.own _ hm
  rw [ha] at hi'; cases hi'
  obtain ⟨ts, tl⟩ := temp_slots I.sl I.low
  have hnT := I.slotN
  refine ⟨?_, fun p hp => ?_, ?_, fun p hp => ?_, fun p hp => ?_, fun e he => ?_, I.ln, ?_, tl, ?_, fun r hr => ?_⟩
  · rw [spill_order, spill_own, I.ord, erase_keys I.nd]
  · rw [spill_own] at hp; exact I.rng p (List.mem_filter.mp hp).1
  · rw [spill_own]; exact filt_nd I.nd
  · rw [spill_own] at hp
    obtain ⟨hp, hne⟩ := List.mem_filter.mp hp
    obtain ⟨h1, j, h2, h3, h4⟩ := I.own p hp
    have hpa : p.2 ≠ a := fun e => by
      rw [e, ha] at h2; cases h2
      simp [h3] at hne
    exact ⟨h1, j, by rw [spill_other hpa]; exact h2, h3, h4⟩
  · rcases List.mem_append.mp (show p ∈ S.spilled ++ [((tempS S).1, a)] from hp) with hp | hp
    · obtain ⟨h1, j, h2, h3, h4, h5⟩ := I.spl p hp
      have hpa : p.2 ≠ a := fun e => by
        rw [e, ha] at h2; cases h2
        rw [hmode] at h4; exact sne h4
      exact ⟨h1, j, by rw [spill_other hpa]; exact h2, h3, h4, h5⟩
    · cases List.mem_singleton.mp hp
      exact ⟨haL, _, spill_self, rfl, rfl, hmode⟩
  · by_cases hea : e.1 = a
    · obtain ⟨j, h1, h2⟩ := I.live e he
      rw [hea, ha] at h1; cases h1
      refine ⟨_, by rw [hea]; exact spill_self, .inr ⟨rfl, ?_, ?_⟩⟩
      · show ((tempS S).1, e.1) ∈ S.spilled ++ [((tempS S).1, a)]
        rw [hea]; simp
      · rw [spill_Mx, exec_STR]
        show keyAt (putAt _ (tempS S).1 _) (tempS S).1 = _
        rw [keyAt_put, if_pos rfl]
        rcases h2 with ⟨_, _, h2⟩ | ⟨h2, _⟩
        · rw [h2]; rfl
        · rw [hmode] at h2; exact absurd h2 sne
    · obtain ⟨j, h1, h2⟩ := I.live e he
      refine ⟨j, by rw [spill_other hea]; exact h1, ?_⟩
      rcases h2 with ⟨h2, h3, h4⟩ | ⟨h2, h3, h4⟩
      · refine .inl ⟨h2, ?_, by rw [spill_Mx, exec_STR]; exact h4⟩
        rw [spill_own, List.mem_filter]
        refine ⟨h3, ?_⟩
        have : j.reg ≠ i.reg := fun z => hea (nodup_key I.nd h3 (z ▸ hm))
        simpa using this
      · refine .inr ⟨h2, List.mem_append_left _ h3, ?_⟩
        rw [spill_Mx, exec_STR]
        show keyAt (putAt _ (tempS S).1 _) j.slot = _
        rw [keyAt_put, if_neg (hnT _ h3)]
        exact h4
  · refine ts.perm ?_
    show ((tempS S).1 :: (words ++ S.spilled.map (·.1) ++ (tempS S).2.temps)).Perm (words ++ (S.spilled ++ [((tempS S).1, a)]).map (·.1) ++ (tempS S).2.temps)
    rw [List.map_append, ← List.append_assoc, List.append_assoc (words ++ _)]
    exact (List.perm_middle (l₁ := words ++ S.spilled.map (·.1)) (a := (tempS S).1) (l₂ := (tempS S).2.temps)).symm
  · have h1 := filt_len I.nd (mem_fst hm)
    have h2 := I.cnt
    rw [spill_own]
    show _ + (S.spilled ++ [_]).length = _
    rw [List.length_append, List.length_singleton]
    omega
  · rw [spill_rows] at hr
    rcases List.mem_append.mp hr with hr | hr
    · exact I.rows r hr
    · cases List.mem_singleton.mp hr; exact .inl ⟨rfl, rfl⟩

theorem claim_items {r : Int} {b : Addr} : (claimS a i r S).items b = if b = a then some { i with reg := r } else S.items b := rfl
/-- a new item takes a register -/
theorem inv_take (I : Inv count top S L words) (ha : S.items a = some i) (hnew : a ∉ L.map (·.1)) (hm : i.mode = "reg") {r : Int} (h0 : 0 ≤ r) (h1 : r < count) (hf : ∀ p ∈ S.own, p.1 ≠ r) (v : Int) :
    Inv count top ((claimS a i r S).putR ⟨"MOVI", r, 0, v⟩) (L ++ [(a, v)]) words := by
  have hM : Mx ((claimS a i r S).putR ⟨"MOVI", r, 0, v⟩) = (putAt (Mx S).1 r (.int v), (Mx S).2) := by
    show runRows (S.rows ++ [_]) _ = _
    rw [runRows_snoc, exec_MOVI]; rfl
  have hit : ∀ b, ((claimS a i r S).putR ⟨"MOVI", r, 0, v⟩).items b = if b = a then some { i with reg := r } else S.items b := fun b => rfl
  have hL : ∀ b, b ∈ L.map (·.1) → b ∈ (L ++ [(a, v)]).map (·.1) := fun b hb => by rw [List.map_append]; exact List.mem_append_left _ hb
  refine ⟨?_, fun p hp => ?_, ?_, fun p hp => ?_, fun p hp => ?_, fun e he => ?_, ?_, I.sl, I.low, ?_, fun q hq => ?_⟩
  · show S.order ++ [r] = (S.own ++ [(r, a)]).map (·.1)
    rw [I.ord, List.map_append]; rfl
  · rcases List.mem_append.mp (show p ∈ S.own ++ [(r, a)] from hp) with hp | hp
    · exact I.rng p hp
    · cases List.mem_singleton.mp hp; exact ⟨h0, h1⟩
  · show ((S.own ++ [(r, a)]).map (·.1)).Nodup
    rw [List.map_append, List.nodup_append]
    refine ⟨I.nd, by simp, fun x hx y hy => ?_⟩
    obtain ⟨p, hp, rfl⟩ := List.mem_map.mp hx
    cases List.mem_singleton.mp hy
    exact hf p hp
  · rcases List.mem_append.mp (show p ∈ S.own ++ [(r, a)] from hp) with hp | hp
    · obtain ⟨h1, j, h2, h3⟩ := I.own p hp
      exact ⟨hL _ h1, j, by rw [hit, if_neg (fun (e : p.2 = a) => hnew (e ▸ h1))]; exact h2, h3⟩
    · cases List.mem_singleton.mp hp
      exact ⟨by simp, { i with reg := r }, by rw [hit, if_pos rfl], rfl, hm⟩
  · obtain ⟨h1, j, h2, h3⟩ := I.spl p hp
    exact ⟨hL _ h1, j, by rw [hit, if_neg (fun (e : p.2 = a) => hnew (e ▸ h1))]; exact h2, h3⟩
  · rw [hM]
    rcases List.mem_append.mp he with he | he
    · obtain ⟨j, h1, h2⟩ := I.live e he
      have hea : e.1 ≠ a := fun z => hnew (z ▸ List.mem_map_of_mem (f := (·.1)) he)
      refine ⟨j, by rw [hit, if_neg hea]; exact h1, ?_⟩
      rcases h2 with ⟨h2, h3, h4⟩ | h2
      · refine .inl ⟨h2, List.mem_append_left _ h3, ?_⟩
        show keyAt (putAt _ r _) j.reg = _
        rw [keyAt_put, if_neg (hf _ h3)]; exact h4
      · exact .inr h2
    · cases List.mem_singleton.mp he
      refine ⟨{ i with reg := r }, by rw [hit, if_pos rfl], .inl ⟨hm, ?_, ?_⟩⟩
      · show (r, a) ∈ S.own ++ [(r, a)]
        simp
      · show keyAt (putAt _ r _) r = _
        rw [keyAt_put, if_pos rfl]
  · rw [List.map_append, List.nodup_append]
    refine ⟨I.ln, by simp, fun x hx y hy => ?_⟩
    cases List.mem_singleton.mp hy
    exact fun (e : x = a) => hnew (e ▸ hx)
  · have := I.cnt
    show (S.own ++ [(r, a)]).length + S.spilled.length = (L ++ [(a, v)]).length
    rw [List.length_append, List.length_append, List.length_singleton, List.length_singleton]
    omega
  · rcases List.mem_append.mp (show q ∈ S.rows ++ [_] from hq) with hq | hq
    · exact I.rows q hq
    · cases List.mem_singleton.mp hq; exact .inr (.inr rfl)

/-- a spilled item is brought back -/
theorem inv_unspill (I : Inv count top S L words) (ha : S.items a = some i) (hs : (i.slot, a) ∈ S.spilled) {r : Int} (h0 : 0 ≤ r) (h1 : r < count) (hf : ∀ p ∈ S.own, p.1 ≠ r) :
    Inv count top (unspillS a i r (claimS a i r S)) L words := by
  obtain ⟨haL, i', hi', hsl', hmode, hwas⟩ := I.spl _ hs
  rw [ha] at hi'; cases hi'
  have hM : Mx (unspillS a i r (claimS a i r S)) = (putAt (Mx S).1 r ((keyAt (Mx S).2 i.slot).getD .none), (Mx S).2) := by
    show runRows (S.rows ++ [_]) _ = _
    rw [runRows_snoc, exec_LDR]; rfl
  have hit : ∀ b, (unspillS a i r (claimS a i r S)).items b = if b = a then some { i with reg := r, mode := i.was } else S.items b := fun b => by
    show (if b = a then _ else if b = a then _ else S.items b) = _
    by_cases h : b = a <;> simp [h]
  refine ⟨?_, fun p hp => ?_, ?_, fun p hp => ?_, fun p hp => ?_, fun e he => ?_, I.ln, ?_, I.low, ?_, fun q hq => ?_⟩
  · show S.order ++ [r] = (S.own ++ [(r, a)]).map (·.1)
    rw [I.ord, List.map_append]; rfl
  · rcases List.mem_append.mp (show p ∈ S.own ++ [(r, a)] from hp) with hp | hp
    · exact I.rng p hp
    · cases List.mem_singleton.mp hp; exact ⟨h0, h1⟩
  · show ((S.own ++ [(r, a)]).map (·.1)).Nodup
    rw [List.map_append, List.nodup_append]
    refine ⟨I.nd, by simp, fun x hx y hy => ?_⟩
    obtain ⟨p, hp, rfl⟩ := List.mem_map.mp hx
    cases List.mem_singleton.mp hy
    exact hf p hp
  · rcases List.mem_append.mp (show p ∈ S.own ++ [(r, a)] from hp) with hp | hp
    · obtain ⟨h1, j, h2, h3, h4⟩ := I.own p hp
      have hpa : p.2 ≠ a := fun e => by rw [e, ha] at h2; cases h2; rw [hmode] at h4; exact sne h4.symm
      exact ⟨h1, j, by rw [hit, if_neg hpa]; exact h2, h3, h4⟩
    · cases List.mem_singleton.mp hp
      exact ⟨haL, { i with reg := r, mode := i.was }, by rw [hit, if_pos rfl], rfl, hwas⟩
  · obtain ⟨hp, hne⟩ := List.mem_filter.mp (show p ∈ S.spilled.filter fun p => decide (p.1 ≠ i.slot) from hp)
    obtain ⟨h1, j, h2, h3⟩ := I.spl p hp
    have hpa : p.2 ≠ a := fun e => by rw [e, ha] at h2; cases h2; simp [h3.1] at hne
    exact ⟨h1, j, by rw [hit, if_neg hpa]; exact h2, h3⟩
  · rw [hM]
    obtain ⟨j, h1, h2⟩ := I.live e he
    by_cases hea : e.1 = a
    · rw [hea, ha] at h1; cases h1
      refine ⟨{ i with reg := r, mode := i.was }, by rw [hit, if_pos hea], .inl ⟨hwas, ?_, ?_⟩⟩
      · show (r, e.1) ∈ S.own ++ [(r, a)]
        rw [hea]; simp
      · show keyAt (putAt _ r _) r = _
        rw [keyAt_put, if_pos rfl]
        rcases h2 with ⟨h2, _⟩ | ⟨_, _, h2⟩
        · rw [hmode] at h2; exact absurd h2.symm sne
        · rw [h2]; rfl
    · refine ⟨j, by rw [hit, if_neg hea]; exact h1, ?_⟩
      rcases h2 with ⟨h2, h3, h4⟩ | ⟨h2, h3, h4⟩
      · refine .inl ⟨h2, List.mem_append_left _ h3, ?_⟩
        show keyAt (putAt _ r _) j.reg = _
        rw [keyAt_put, if_neg (hf _ h3)]; exact h4
      · refine .inr ⟨h2, ?_, h4⟩
        show (j.slot, e.1) ∈ S.spilled.filter fun p => decide (p.1 ≠ i.slot)
        rw [List.mem_filter]
        refine ⟨h3, ?_⟩
        have : j.slot ≠ i.slot := fun z => hea (nodup_key I.snd h3 (z ▸ hs))
        simpa using this
  · refine I.sl.perm ?_
    show (words ++ S.spilled.map (·.1) ++ S.temps).Perm (words ++ (S.spilled.filter fun p => decide (p.1 ≠ i.slot)).map (·.1) ++ (S.temps ++ [i.slot]))
    have p1 := filt_perm I.snd (mem_fst hs)
    refine (((p1.append_left words).append_right S.temps).trans ?_)
    refine (List.Perm.append_right _ List.perm_middle).trans ?_
    rw [← List.append_assoc]
    exact (List.perm_append_singleton _ _).symm
  · have h1 := filt_len I.snd (mem_fst hs)
    have h2 := I.cnt
    show (S.own ++ [(r, a)]).length + (S.spilled.filter fun p => decide (p.1 ≠ i.slot)).length = L.length
    rw [List.length_append, List.length_singleton]
    omega
  · rcases List.mem_append.mp (show q ∈ S.rows ++ [_] from hq) with hq | hq
    · exact I.rows q hq
    · cases List.mem_singleton.mp hq; exact .inr (.inl ⟨rfl, rfl⟩)
end
end Mine
end

section
open PySem PySem.W PySem.Calls PyProof.Rows
namespace Mine

theorem merge_perm {a b : List Int} (p : a.Perm b) : a.mergeSort = b.mergeSort := by
  have h2 : a.mergeSort.Pairwise (· ≤ ·) := by
    have := List.pairwise_mergeSort (le := fun a b : Int => decide (a ≤ b)) (fun a b c h1 h2 => by simp at *; omega) (fun a b => by simp; omega) a
    simpa using this
  exact sorted_unique ((List.mergeSort_perm a _).trans p) h2
section
variable {κ α : Type} [BEq κ] [LawfulBEq κ] [DecidableEq κ]
theorem eraseK {xs : List (κ × α)} {k : κ} (h : (xs.map (·.1)).Nodup) : (xs.map (·.1)).erase k = (xs.filter fun p => decide (p.1 ≠ k)).map (·.1) := by
  rw [h.erase_eq_filter, List.filter_map]
  congr 1
  apply List.filter_congr
  intro p _
  by_cases z : p.1 = k <;> simp [z, bne]
theorem lenK {xs : List (κ × α)} {k : κ} (h : (xs.map (·.1)).Nodup) (hk : k ∈ xs.map (·.1)) : (xs.filter fun p => decide (p.1 ≠ k)).length + 1 = xs.length := by
  have := (List.perm_cons_erase hk).length_eq
  rw [eraseK h] at this
  simpa using this.symm
theorem ndK {xs : List (κ × α)} {k : κ} (h : (xs.map (·.1)).Nodup) : ((xs.filter fun p => decide (p.1 ≠ k)).map (·.1)).Nodup := by
  rw [← eraseK h]; exact h.erase _
end
theorem mem_filtK {α : Type} {xs : List (Addr × α)} {k b : Addr} (hb : b ∈ xs.map (·.1)) (hn : b ≠ k) : b ∈ (xs.filter fun p => decide (p.1 ≠ k)).map (·.1) := by
  obtain ⟨p, hp, rfl⟩ := List.mem_map.mp hb
  have : p ∈ xs.filter fun p => decide (p.1 ≠ k) := List.mem_filter.mpr ⟨hp, decide_eq_true hn⟩
  exact List.mem_map_of_mem (f := (·.1)) this

section
variable {count top : Int} {S : St} {L : List (Addr × Int)} {words : List Int} {a : Addr} {i : It}

theorem Inv.of_mem (I : Inv count top S L words) (ha : S.items a = some i) (haL : a ∈ L.map (·.1)) : (i.mode = "reg" ∧ (i.reg, a) ∈ S.own) ∨ (i.mode = "spill" ∧ i.was = "reg" ∧ (i.slot, a) ∈ S.spilled) := by
  obtain ⟨e, he, rfl⟩ := List.mem_map.mp haL
  obtain ⟨j, h1, h2⟩ := I.live e he
  rw [ha] at h1; cases h1
  rcases h2 with ⟨h2, h3, _⟩ | ⟨h2, h3, _⟩
  · exact .inl ⟨h2, h3⟩
  · obtain ⟨_, j, h4, _, _, h5⟩ := I.spl _ h3
    rw [ha] at h4; cases h4
    exact .inr ⟨h2, h5, h3⟩
theorem Inv.it (I : Inv count top S L words) (haL : a ∈ L.map (·.1)) : ∃ i, S.items a = some i := by
  obtain ⟨e, he, rfl⟩ := List.mem_map.mp haL
  obtain ⟨j, h1, _⟩ := I.live e he
  exact ⟨j, h1⟩
theorem Inv.inOrder (I : Inv count top S L words) {r : Int} {a : Addr} (h : (r, a) ∈ S.own) : r ∈ S.order := by rw [I.ord]; exact mem_fst h

theorem inv_release (I : Inv count top S L words) (ha : S.items a = some i) (haL : a ∈ L.map (·.1)) : Inv count top (releaseS a i S) (L.filter fun e => decide (e.1 ≠ a)) words := by
  have hLn : ∀ e ∈ (L.filter fun e => decide (e.1 ≠ a)), e ∈ L ∧ e.1 ≠ a := fun e he => by
    obtain ⟨h1, h2⟩ := List.mem_filter.mp he
    exact ⟨h1, by simpa using h2⟩
  have hlen : (L.filter fun e => decide (e.1 ≠ a)).length + 1 = L.length := lenK I.ln haL
  rcases I.of_mem ha haL with ⟨hm, ho⟩ | ⟨hm, hw, hs⟩
  · have e : releaseS a i S = (giveS i.reg S).put1 a { i with mode := "none" } := by unfold releaseS; rw [if_neg (by rw [hm]; decide)]
    rw [e]
    have hit : ∀ b, ((giveS i.reg S).put1 a { i with mode := "none" }).items b = if b = a then some { i with mode := "none" } else S.items b := fun b => rfl
    refine ⟨?_, fun p hp => ?_, ?_, fun p hp => ?_, fun p hp => ?_, fun e he => ?_, ndK I.ln, I.sl, I.low, ?_, I.rows⟩
    · show S.order.erase i.reg = (S.own.filter fun p => decide (p.1 ≠ i.reg)).map (·.1)
      rw [I.ord, erase_keys I.nd]
    · exact I.rng p (List.mem_filter.mp (show p ∈ S.own.filter fun p => decide (p.1 ≠ i.reg) from hp)).1
    · exact filt_nd I.nd
    · obtain ⟨hp, hne⟩ := List.mem_filter.mp (show p ∈ S.own.filter fun p => decide (p.1 ≠ i.reg) from hp)
      obtain ⟨h1, j, h2, h3, h4⟩ := I.own p hp
      have hpa : p.2 ≠ a := fun e => by rw [e, ha] at h2; cases h2; simp [h3] at hne
      exact ⟨mem_filtK h1 hpa, j, by rw [hit, if_neg hpa]; exact h2, h3, h4⟩
    · obtain ⟨h1, j, h2, h3, h4, h5⟩ := I.spl p hp
      have hpa : p.2 ≠ a := fun e => by rw [e, ha] at h2; cases h2; rw [hm] at h4; exact sne h4
      exact ⟨mem_filtK h1 hpa, j, by rw [hit, if_neg hpa]; exact h2, h3, h4, h5⟩
    · obtain ⟨he, hea⟩ := hLn e he
      obtain ⟨j, h1, h2⟩ := I.live e he
      refine ⟨j, by rw [hit, if_neg hea]; exact h1, ?_⟩
      rcases h2 with ⟨h2, h3, h4⟩ | h2
      · refine .inl ⟨h2, ?_, h4⟩
        show (j.reg, e.1) ∈ S.own.filter fun p => decide (p.1 ≠ i.reg)
        rw [List.mem_filter]
        refine ⟨h3, ?_⟩
        have : j.reg ≠ i.reg := fun z => hea (nodup_key I.nd h3 (z ▸ ho))
        simpa using this
      · exact .inr h2
    · have h1 := filt_len I.nd (mem_fst ho)
      have h2 := I.cnt
      show (S.own.filter fun p => decide (p.1 ≠ i.reg)).length + S.spilled.length = _
      omega
  · have e : releaseS a i S = ({ S with spilled := S.spilled.filter fun p => decide (p.1 ≠ i.slot), temps := S.temps ++ [i.slot] } : St).put1 a { i with mode := "none" } := by unfold releaseS; rw [if_pos hm]
    rw [e]
    have hit : ∀ b, (({ S with spilled := S.spilled.filter fun p => decide (p.1 ≠ i.slot), temps := S.temps ++ [i.slot] } : St).put1 a { i with mode := "none" }).items b = if b = a then some { i with mode := "none" } else S.items b := fun b => rfl
    refine ⟨I.ord, I.rng, I.nd, fun p hp => ?_, fun p hp => ?_, fun e he => ?_, ndK I.ln, ?_, I.low, ?_, I.rows⟩
    · obtain ⟨h1, j, h2, h3, h4⟩ := I.own p hp
      have hpa : p.2 ≠ a := fun e => by rw [e, ha] at h2; cases h2; rw [hm] at h4; exact sne h4.symm
      exact ⟨mem_filtK h1 hpa, j, by rw [hit, if_neg hpa]; exact h2, h3, h4⟩
    · obtain ⟨hp, hne⟩ := List.mem_filter.mp (show p ∈ S.spilled.filter fun p => decide (p.1 ≠ i.slot) from hp)
      obtain ⟨h1, j, h2, h3, h4⟩ := I.spl p hp
      have hpa : p.2 ≠ a := fun e => by rw [e, ha] at h2; cases h2; simp [h3] at hne
      exact ⟨mem_filtK h1 hpa, j, by rw [hit, if_neg hpa]; exact h2, h3, h4⟩
    · obtain ⟨he, hea⟩ := hLn e he
      obtain ⟨j, h1, h2⟩ := I.live e he
      refine ⟨j, by rw [hit, if_neg hea]; exact h1, ?_⟩
      rcases h2 with h2 | ⟨h2, h3, h4⟩
      · exact .inl h2
      · refine .inr ⟨h2, ?_, h4⟩
        show (j.slot, e.1) ∈ S.spilled.filter fun p => decide (p.1 ≠ i.slot)
        rw [List.mem_filter]
        refine ⟨h3, ?_⟩
        have : j.slot ≠ i.slot := fun z => hea (nodup_key I.snd h3 (z ▸ hs))
        simpa using this
    · refine I.sl.perm ?_
      show (words ++ S.spilled.map (·.1) ++ S.temps).Perm (words ++ (S.spilled.filter fun p => decide (p.1 ≠ i.slot)).map (·.1) ++ (S.temps ++ [i.slot]))
      refine ((((filt_perm I.snd (mem_fst hs)).append_left words).append_right S.temps).trans ?_)
      refine (List.Perm.append_right _ List.perm_middle).trans ?_
      rw [← List.append_assoc]
      exact (List.perm_append_singleton _ _).symm
    · have h1 := filt_len I.snd (mem_fst hs)
      have h2 := I.cnt
      show S.own.length + (S.spilled.filter fun p => decide (p.1 ≠ i.slot)).length = _
      omega

theorem inv_temp (I : Inv count top S L words) : Inv count top (tempS S).2 L (words ++ [(tempS S).1]) := by
  obtain ⟨ts, tl⟩ := temp_slots I.sl I.low
  obtain ⟨t, l, l', e⟩ := tempS_eq S
  generalize (tempS S).1 = x at *
  rw [e] at ts tl ⊢
  refine ⟨I.ord, I.rng, I.nd, I.own, I.spl, I.live, I.ln, ts.perm ?_, tl, I.cnt, I.rows⟩
  show (x :: (words ++ S.spilled.map (·.1) ++ t)).Perm (words ++ [x] ++ S.spilled.map (·.1) ++ t)
  simp only [List.append_assoc, List.cons_append, List.nil_append]
  exact List.perm_middle.symm
theorem inv_free (I : Inv count top S L words) {k : Nat} {x : Int} (hk : words[k]? = some x) : Inv count top { S with temps := S.temps ++ [x] } L (words.eraseIdx k) := by
  refine ⟨I.ord, I.rng, I.nd, I.own, I.spl, I.live, I.ln, I.sl.perm ?_, I.low, I.cnt, I.rows⟩
  show (words ++ S.spilled.map (·.1) ++ S.temps).Perm (words.eraseIdx k ++ S.spilled.map (·.1) ++ (S.temps ++ [x]))
  have hlt : k < words.length := by
    rcases Nat.lt_or_ge k words.length with q | q
    · exact q
    · rw [List.getElem?_eq_none q] at hk; cases hk
  have e : words = words.take k ++ x :: words.drop (k + 1) := by
    rw [List.getElem?_eq_getElem hlt] at hk
    rw [← Option.some.inj hk, ← List.drop_eq_getElem_cons hlt, List.take_append_drop]
  rw [List.eraseIdx_eq_take_drop_succ, ← List.append_assoc]
  refine List.Perm.trans ?_ (List.perm_append_singleton _ _).symm
  conv => lhs; rw [e]
  rw [List.append_assoc, List.append_assoc, List.cons_append]
  refine List.perm_middle.trans ?_
  rw [← List.append_assoc, ← List.append_assoc]
theorem inv_out (I : Inv count top S L words) {x : Int} : Inv count top { S with out := x } L words := ⟨I.ord, I.rng, I.nd, I.own, I.spl, I.live, I.ln, I.sl, I.low, I.cnt, I.rows⟩
theorem inv_maps (I : Inv count top S L words) {x : List (Int × AV)} : Inv count top { S with maps := x } L words := ⟨I.ord, I.rng, I.nd, I.own, I.spl, I.live, I.ln, I.sl, I.low, I.cnt, I.rows⟩
theorem inv_put1 (I : Inv count top S L words) (hnew : a ∉ L.map (·.1)) : Inv count top (S.put1 a i) L words := by
  have hit : ∀ b, b ∈ L.map (·.1) → (S.put1 a i).items b = S.items b := fun b hb => by
    show (if b = a then _ else _) = _
    rw [if_neg (fun (e : b = a) => hnew (e ▸ hb))]
  refine ⟨I.ord, I.rng, I.nd, fun p hp => ?_, fun p hp => ?_, fun e he => ?_, I.ln, I.sl, I.low, I.cnt, I.rows⟩
  · obtain ⟨h1, j, h2⟩ := I.own p hp
    exact ⟨h1, j, by rw [hit _ h1]; exact h2.1, h2.2⟩
  · obtain ⟨h1, j, h2⟩ := I.spl p hp
    exact ⟨h1, j, by rw [hit _ h1]; exact h2.1, h2.2⟩
  · obtain ⟨j, h1, h2⟩ := I.live e he
    exact ⟨j, by rw [hit _ (List.mem_map_of_mem (f := (·.1)) he)]; exact h1, h2⟩
theorem Inv.co (I : Inv count top S L words) : Co S := ⟨I.ord, fun p hp => let ⟨_, j, h1, h2, _⟩ := I.own p hp; ⟨j, h1, h2⟩, I.slotN⟩

/-- taking, whichever way it goes -/
theorem inv_takeR {A : Ad} {r : Int} {ks : List Addr} {S' : St} (I : Inv A.count top S L words) (ha : S.items a = some i) (hnew : a ∉ L.map (·.1)) (hm : i.mode = "reg") (h : TakeR A S a i ks r S') (v : Int) :
    Inv A.count top (S'.putR ⟨"MOVI", r, 0, v⟩) (L ++ [(a, v)]) words ∧ S'.items a = some { i with reg := r } ∧ (∀ k ∈ ks, k ≠ a → (∃ ik, S.items k = some ik ∧ ik.mode = "reg") → S'.items k = S.items k) := by
  rcases h with ⟨h0, h1, hf, rfl⟩ | ⟨hall, hr, hks, v', iv, hv, hiv, hivr, rfl⟩
  · refine ⟨inv_take I ha hnew hm h0 h1 hf v, put1_self, fun k _ hk _ => ?_⟩
    rw [claim_items, if_neg hk]
  · have hav : a ≠ v' := fun e => hnew (by rw [e]; exact (I.own _ hv).1)
    have ha' : (spillS v' iv S).items a = some i := by rw [spill_other hav]; exact ha
    have I' := inv_spill I hiv (by rw [hivr]; exact hv)
    obtain ⟨h0, h1⟩ := I.rng _ hv
    refine ⟨inv_take I' ha' hnew hm h0 h1 (fun p hp => ?_) v, put1_self, fun k hk hka ⟨ik, hik, hmk⟩ => ?_⟩
    · rw [spill_own, hivr] at hp; simpa using (List.mem_filter.mp hp).2
    · have hkv : k ≠ v' := fun e => hks k hk iv (e ▸ hiv) hivr
      rw [claim_items, if_neg hka, spill_other hkv]
theorem inv_unspillR {A : Ad} {r : Int} {S' : St} (I : Inv A.count top S L words) (ha : S.items a = some i) (hs : (i.slot, a) ∈ S.spilled) (h : TakeR A S a i [] r S') : Inv A.count top (unspillS a i r S') L words := by
  rcases h with ⟨h0, h1, hf, rfl⟩ | ⟨hall, hr, hks, v', iv, hv, hiv, hivr, rfl⟩
  · exact inv_unspill I ha hs h0 h1 hf
  · obtain ⟨_, j, hj, _, hmode, _⟩ := I.spl _ hs
    rw [ha] at hj; cases hj
    have hav : a ≠ v' := fun e => by
      obtain ⟨_, j, hj, _, hm⟩ := I.own _ hv
      have hj : S.items v' = some j := hj
      rw [← e, ha] at hj; cases hj
      rw [hmode] at hm; exact sne hm.symm
    have ha' : (spillS v' iv S).items a = some i := by rw [spill_other hav]; exact ha
    have I' := inv_spill I hiv (by rw [hivr]; exact hv)
    obtain ⟨h0, h1⟩ := I.rng _ hv
    refine inv_unspill I' ha' (List.mem_append_left _ hs) h0 h1 fun p hp => ?_
    rw [spill_own, hivr] at hp; simpa using (List.mem_filter.mp hp).2

/-- there is always one to give way -/
theorem victim_there (I : Inv count top S L words) (hc : 4 ≤ count) {ks : List Addr} (hk : ks.length ≤ 2) (hall : ∀ j, 0 ≤ j → j < count → (keyAt (refs S.own) j).isSome = true) : ∃ r ∈ S.order, ∀ k ∈ ks, ∀ i, S.items k = some i → i.reg ≠ r := by
  have ho : ∀ j : Int, 0 ≤ j → j < 4 → j ∈ S.order := fun j h0 h1 => by
    obtain ⟨v, _, hm⟩ := keyAt_yes (hall j h0 (by omega))
    exact I.inOrder hm
  have one : ∀ k : Addr, ∃ x : Int, ∀ i, S.items k = some i → i.reg = x := fun k => by
    cases q : S.items k with
    | none => exact ⟨0, fun i z => nomatch z⟩
    | some i => exact ⟨i.reg, fun j z => by cases z; rfl⟩
  have pick : ∀ x y : Int, ∃ r : Int, 0 ≤ r ∧ r < 4 ∧ x ≠ r ∧ y ≠ r := fun x y => by
    by_cases h0 : x ≠ 0 ∧ y ≠ 0
    · exact ⟨0, by omega, by omega, h0.1, h0.2⟩
    · by_cases h1 : x ≠ 1 ∧ y ≠ 1
      · exact ⟨1, by omega, by omega, h1.1, h1.2⟩
      · exact ⟨2, by omega, by omega, by omega, by omega⟩
  match ks, hk with
  | [], _ => exact ⟨0, ho 0 (by omega) (by omega), fun _ z => nomatch z⟩
  | [k], _ =>
    obtain ⟨x, hx⟩ := one k
    obtain ⟨r, h0, h1, h2, _⟩ := pick x x
    refine ⟨r, ho r h0 h1, fun k' hk' i hi => ?_⟩
    cases List.mem_singleton.mp hk'
    rw [hx i hi]; exact h2
  | [k, l], _ =>
    obtain ⟨x, hx⟩ := one k
    obtain ⟨y, hy⟩ := one l
    obtain ⟨r, h0, h1, h2, h3⟩ := pick x y
    refine ⟨r, ho r h0 h1, fun k' hk' i hi => ?_⟩
    simp only [List.mem_cons, List.not_mem_nil, or_false] at hk'
    rcases hk' with rfl | rfl
    · rw [hx i hi]; exact h2
    · rw [hy i hi]; exact h3
  | _ :: _ :: _ :: _, h => simp at h

/-- all spilled -/
theorem spill_all_inv (hT : S.temps.length ≤ 50000) : ∀ (rest : List (Int × Addr)) (S : St), S.own = rest → Inv count top S L words → S.own.length + S.rows.length ≤ 50000 → S.own.length + S.spilled.length ≤ 50000 → S.temps.length ≤ 50000 →
    CanSpill (rest.map (·.2)) S ∧ Inv count top (spillL (rest.map (·.2)) S) L words ∧ (spillL (rest.map (·.2)) S).own = [] ∧ (spillL (rest.map (·.2)) S).rows.length = S.rows.length + rest.length ∧ (spillL (rest.map (·.2)) S).temps.length ≤ S.temps.length ∧
      (spillL (rest.map (·.2)) S).roots = S.roots ∧ (spillL (rest.map (·.2)) S).out = S.out ∧ (spillL (rest.map (·.2)) S).maps = S.maps
  | [], S, e, I, h1, h2, h3 => ⟨trivial, I, e, rfl, Nat.le_refl _, rfl, rfl, rfl⟩
  | (r, a) :: rest, S, e, I, h1, h2, h3 => by
    have hm : (r, a) ∈ S.own := by rw [e]; exact .head _
    obtain ⟨haL, i, hi, hr, hmode⟩ := I.own _ hm
    have hi : S.items a = some i := hi
    have hr : i.reg = r := hr
    have hm' : (i.reg, a) ∈ S.own := by rw [hr]; exact hm
    have I' := inv_spill I hi hm'
    have hown : (spillS a i S).own = rest := by
      have hn := I.nd
      rw [e, List.map_cons, List.nodup_cons] at hn
      rw [spill_own, e, hr, List.filter_cons]
      simp only [ne_eq, not_true_eq_false, decide_false, Bool.false_eq_true, if_false]
      rw [List.filter_eq_self]
      intro p hp
      have : p.1 ≠ r := fun z => hn.1 (z ▸ List.mem_map_of_mem (f := (·.1)) hp)
      simpa using this
    have el : S.own.length = rest.length + 1 := by rw [e]; rfl
    have er : (spillS a i S).rows.length = S.rows.length + 1 := by rw [spill_rows]; simp
    have es : (spillS a i S).spilled.length = S.spilled.length + 1 := by show (S.spilled ++ [_]).length = _; simp
    have et : (spillS a i S).temps.length ≤ S.temps.length := by rw [spill_temps]; exact tempS_len S
    have e2 : (spillS a i S).roots = S.roots ∧ (spillS a i S).out = S.out ∧ (spillS a i S).maps = S.maps := by
      obtain ⟨t, l, l', e⟩ := tempS_eq S
      unfold spillS giveS St.putR St.put1
      rw [e]; exact ⟨rfl, rfl, rfl⟩
    obtain ⟨z1, z2, z3, z4, z5, z6, z7, z8⟩ := spill_all_inv hT rest (spillS a i S) hown I' (by rw [hown, er]; omega) (by rw [hown, es]; omega) (by omega)
    have eL : spillL (((r, a) :: rest).map (·.2)) S = spillL (rest.map (·.2)) (spillS a i S) := by
      show spillL (a :: rest.map (·.2)) S = _
      simp only [spillL, hi]
    rw [eL]
    refine ⟨⟨i, hi, ⟨by omega, ?_, h3, by omega, by omega⟩, ⟨_, hm', rfl⟩, I.inOrder hm', I.slotN, z1⟩, z2, z3, ?_, by omega, z6.trans e2.1, z7.trans e2.2.1, z8.trans e2.2.2⟩
    · rw [I.ord, List.length_map]; omega
    · rw [z4, er, List.length_cons]; omega
end

/-! what a map is -/
section
variable {count top : Int} {S : St} {L : List (Addr × Int)} {words : List Int}
noncomputable def dueOf (S : St) (a : Addr) : Option Int := match S.items a with
  | some i => if i.mode = "spill" ∧ i.root = true then some i.slot else none
  | none => none
theorem due_some {a : Addr} {x : Int} (h : dueOf S a = some x) : ∃ i, S.items a = some i ∧ i.mode = "spill" ∧ i.root = true ∧ i.slot = x := by
  unfold dueOf at h
  split at h
  · rename_i i hi
    split at h
    · rename_i q; exact ⟨i, hi, q.1, q.2, Option.some.inj h⟩
    · cases h
  · cases h
theorem nd_pairs {α β : Type} {xs : List (α × β)} (h : (xs.map (·.1)).Nodup) : xs.Pairwise fun p q => p.1 ≠ q.1 := List.pairwise_map.mp h
theorem map_perm (I : Inv count top S L words) : (S.roots ++ rootSlots S S.spilled).Perm (S.roots ++ L.filterMap fun e => dueOf S e.1) := by
  refine List.Perm.append_left _ ?_
  have n1 : (rootSlots S S.spilled).Nodup := (I.snd).sublist ((List.filter_sublist).map _)
  have n2 : (L.filterMap fun e => dueOf S e.1).Nodup := by
    have h := List.Pairwise.and_mem.mp (nd_pairs I.ln)
    refine List.Pairwise.filterMap _ (fun e e' ⟨he, he', hne⟩ x hx y hy => ?_) h
    rintro rfl
    obtain ⟨i, h1, h2, h3, h4⟩ := due_some hx
    obtain ⟨j, k1, k2, k3, k4⟩ := due_some hy
    have a1 : (i.slot, e.1) ∈ S.spilled := by
      rcases I.of_mem h1 (List.mem_map_of_mem (f := (·.1)) he) with ⟨z, _⟩ | ⟨_, _, z⟩
      · rw [h2] at z; exact absurd z.symm sne
      · exact z
    have a2 : (j.slot, e'.1) ∈ S.spilled := by
      rcases I.of_mem k1 (List.mem_map_of_mem (f := (·.1)) he') with ⟨z, _⟩ | ⟨_, _, z⟩
      · rw [k2] at z; exact absurd z.symm sne
      · exact z
    exact hne (nodup_key I.snd (h4 ▸ a1) (k4 ▸ a2))
  rw [List.perm_ext_iff_of_nodup n1 n2]
  intro x
  constructor
  · intro hx
    obtain ⟨p, hp, rfl⟩ := List.mem_map.mp hx
    obtain ⟨hp, hr⟩ := List.mem_filter.mp hp
    obtain ⟨h1, i, h2, h3, h4, _⟩ := I.spl p hp
    rw [h2] at hr
    obtain ⟨e, he, ee⟩ := List.mem_map.mp h1
    refine List.mem_filterMap.mpr ⟨e, he, ?_⟩
    have ee : e.1 = p.2 := ee
    rw [ee]
    unfold dueOf
    rw [h2]
    show (if i.mode = "spill" ∧ i.root = true then some i.slot else none) = some p.1
    rw [if_pos ⟨h4, hr⟩, h3]
  · intro hx
    obtain ⟨e, he, hx⟩ := List.mem_filterMap.mp hx
    obtain ⟨i, h1, h2, h3, h4⟩ := due_some hx
    have a1 : (i.slot, e.1) ∈ S.spilled := by
      rcases I.of_mem h1 (List.mem_map_of_mem (f := (·.1)) he) with ⟨z, _⟩ | ⟨_, _, z⟩
      · rw [h2] at z; exact absurd z.symm sne
      · exact z
    refine List.mem_map.mpr ⟨(i.slot, e.1), List.mem_filter.mpr ⟨a1, ?_⟩, h4⟩
    show (match S.items e.1 with | some i => i.root | none => false) = true
    rw [h1]; exact h3

/-! where the items are -/
noncomputable def rgS : Str := "reg"
noncomputable def wdS : Str := "word"
noncomputable def plc (S : St) (a : Addr) : Str × Int := match S.items a with
  | some i => if i.mode = "spill" then (wdS, i.slot) else (rgS, i.reg)
  | none => ("", 0)
noncomputable def wplc (w : Int) : Str × Int := (wdS, w)
noncomputable def placesOf (S : St) (L : List (Addr × Int)) (words : List Int) : List (Str × Int) := L.map (fun e => plc S e.1) ++ words.map wplc
theorem plc_live (I : Inv count top S L words) {e : Addr × Int} (he : e ∈ L) : (∃ r, plc S e.1 = (rgS, r) ∧ (r, e.1) ∈ S.own ∧ keyAt (Mx S).1 r = some (.int e.2)) ∨ (∃ w, plc S e.1 = (wdS, w) ∧ (w, e.1) ∈ S.spilled ∧ keyAt (Mx S).2 w = some (.int e.2)) := by
  obtain ⟨i, h1, h2⟩ := I.live e he
  unfold plc
  rw [h1]
  rcases h2 with ⟨h2, h3, h4⟩ | ⟨h2, h3, h4⟩
  · refine .inl ⟨i.reg, ?_, h3, h4⟩
    show (if i.mode = "spill" then _ else _) = _
    rw [if_neg (by rw [h2]; exact sne)]
  · refine .inr ⟨i.slot, ?_, h3, h4⟩
    show (if i.mode = "spill" then _ else _) = _
    rw [if_pos h2]
theorem wne : rgS ≠ wdS := by decide
theorem places_nd (I : Inv count top S L words) : (placesOf S L words).Nodup := by
  have hsl := I.sl.nd
  rw [List.nodup_append, List.nodup_append] at hsl
  obtain ⟨⟨hw, _, hd⟩, _, _⟩ := hsl
  refine List.nodup_append.mpr ⟨?_, ?_, fun x hx y hy => ?_⟩
  · have h := List.Pairwise.and_mem.mp (nd_pairs I.ln)
    refine List.Pairwise.map _ (fun e e' ⟨he, he', hne⟩ => ?_) h
    rcases plc_live I he with ⟨r, h1, h2, _⟩ | ⟨r, h1, h2, _⟩ <;> rcases plc_live I he' with ⟨q, k1, k2, _⟩ | ⟨q, k1, k2, _⟩ <;> rw [h1, k1] <;> intro z
    · exact hne (nodup_key I.nd h2 ((Prod.mk.inj z).2 ▸ k2))
    · exact wne (Prod.mk.inj z).1
    · exact wne (Prod.mk.inj z).1.symm
    · exact hne (nodup_key I.snd h2 ((Prod.mk.inj z).2 ▸ k2))
  · exact List.Pairwise.map _ (fun a b h z => h (Prod.mk.inj z).2) hw
  · obtain ⟨e, he, rfl⟩ := List.mem_map.mp hx
    obtain ⟨w, hw', rfl⟩ := List.mem_map.mp hy
    rcases plc_live I he with ⟨r, h1, h2, _⟩ | ⟨r, h1, h2, _⟩ <;> rw [h1] <;> intro z
    · exact wne (Prod.mk.inj z).1
    · exact hd w hw' r (mem_fst h2) (Prod.mk.inj z).2.symm
theorem places_word (I : Inv count top S L words) {w : Int} (h : (wdS, w) ∈ placesOf S L words) : S.lowest ≤ w ∧ w < top ∧ w % 4 = 0 := by
  rw [I.low.1]
  refine I.sl.ok w ?_
  rcases List.mem_append.mp h with h | h
  · obtain ⟨e, he, z⟩ := List.mem_map.mp h
    rcases plc_live I he with ⟨r, h1, h2, _⟩ | ⟨r, h1, h2, _⟩
    · rw [h1] at z; exact absurd (Prod.mk.inj z).1 wne
    · rw [h1] at z
      rw [← (Prod.mk.inj z).2]
      exact List.mem_append_left _ (List.mem_append_right _ (mem_fst h2))
  · obtain ⟨y, hy, z⟩ := List.mem_map.mp h
    rw [← (Prod.mk.inj z).2]
    exact List.mem_append_left _ (List.mem_append_left _ hy)
theorem places_kind (I : Inv count top S L words) {k : Str × Int} (h : k ∈ placesOf S L words) : k.1 = rgS ∨ k.1 = wdS := by
  rcases List.mem_append.mp h with h | h
  · obtain ⟨e, he, rfl⟩ := List.mem_map.mp h
    rcases plc_live I he with ⟨r, h1, h2, _⟩ | ⟨r, h1, h2, _⟩ <;> rw [h1]
    · exact .inl rfl
    · exact .inr rfl
  · obtain ⟨y, hy, rfl⟩ := List.mem_map.mp h
    exact .inr rfl
theorem places_regs (I : Inv count top S L words) : (S.own.map (·.1)).Perm (((placesOf S L words).filter fun k => k.1 == rgS).map (·.2)) := by
  have n2 : (((placesOf S L words).filter fun k => k.1 == rgS).map (·.2)).Nodup := by
    refine List.pairwise_map.mpr ?_
    have h := List.Pairwise.and_mem.mp ((places_nd I).sublist (List.filter_sublist (p := fun k => k.1 == rgS)))
    refine h.imp fun {x y} ⟨hx, hy, hne⟩ z => hne (Prod.ext ?_ z)
    have h1 := (List.mem_filter.mp hx).2
    have h2 := (List.mem_filter.mp hy).2
    simp only [beq_iff_eq] at h1 h2
    rw [h1, h2]
  rw [List.perm_ext_iff_of_nodup I.nd n2]
  intro x
  constructor
  · intro hx
    obtain ⟨p, hp, rfl⟩ := List.mem_map.mp hx
    obtain ⟨h1, i, h2, h3, h4⟩ := I.own p hp
    obtain ⟨e, he, ee⟩ := List.mem_map.mp h1
    have ee : e.1 = p.2 := ee
    refine List.mem_map.mpr ⟨(rgS, p.1), List.mem_filter.mpr ⟨List.mem_append_left _ (List.mem_map.mpr ⟨e, he, ?_⟩), by simp⟩, rfl⟩
    unfold plc
    rw [ee, h2]
    show (if i.mode = "spill" then _ else _) = _
    rw [if_neg (by rw [h4]; exact sne), h3]
  · intro hx
    obtain ⟨k, hk, rfl⟩ := List.mem_map.mp hx
    obtain ⟨hk, hr⟩ := List.mem_filter.mp hk
    simp only [beq_iff_eq] at hr
    rcases List.mem_append.mp hk with h | h
    · obtain ⟨e, he, rfl⟩ := List.mem_map.mp h
      rcases plc_live I he with ⟨r, h1, h2, _⟩ | ⟨r, h1, h2, _⟩
      · rw [h1]; exact mem_fst h2
      · rw [h1] at hr; exact absurd hr.symm wne
    · obtain ⟨y, hy, rfl⟩ := List.mem_map.mp h
      exact absurd hr.symm wne
end
end Mine
end

section
open PySem PySem.W PySem.Calls PyProof.Rows
namespace Mine

/-! helpers of the heap -/
theorem W.sup {G : Gx} {c : Cx G} {μ : Loc} {σ : Hp} {α : Type} {t : Sem α} {Q : α → Loc → Hp → Prop} (h : W c t μ σ fun a μ σ => ∃ σ0, Sup σ0 σ ∧ Q a μ σ0) : W c t μ σ Q := fun s F S =>
  wpAny_mono (h s F S) (fun a s' ⟨μ', σ', F', S', σ0, k, q⟩ => ⟨μ', σ0, F'.sub k, S', q⟩) fun _ _ e => e
theorem EV.sup {G : Gx} {c : Cx G} {μ : Loc} {σ : Hp} {t : Sem Value} {Q : AV → Loc → Hp → Prop} (h : EV c t μ σ fun a μ σ => ∃ σ0, Sup σ0 σ ∧ Q a μ σ0) : EV c t μ σ Q := fun s F S =>
  wpAny_mono (h s F S) (fun a s' ⟨μ', σ', F', S', x, e, σ0, k, q⟩ => ⟨μ', σ0, F'.sub k, S', x, e, q⟩) fun _ _ e => e
theorem SV.sup {G : Gx} {c : Cx G} {μ : Loc} {σ : Hp} {t : Sem Flow} {P : AF → Loc → Hp → Prop} (h : SV c t μ σ fun a μ σ => ∃ σ0, Sup σ0 σ ∧ P a μ σ0) : SV c t μ σ P := fun s F S =>
  wpAny_mono (h s F S) (fun a s' ⟨μ', σ', F', S', x, e, σ0, k, q⟩ => ⟨μ', σ0, F'.sub k, S', x, e, q⟩) fun _ _ e => e
theorem Sup.re {σ : Hp} : Sup σ σ := fun _ _ e => e
theorem Sup.trans {a b d : Hp} (h : Sup a b) (k : Sup b d) : Sup a d := fun x o e => k x o (h x o e)
theorem Sup.setN {σ0 σ : Hp} {d : Addr} {o : AObj} (h : Sup σ0 σ) (hd : σ0 d = none) : Sup σ0 (σ.set d o) := fun b x e => by
  rw [Hp.set_ne]
  · exact h b x e
  · rintro rfl; rw [hd] at e; cases e
theorem Sup.no {σ0 σ : Hp} {d : Addr} (h : Sup σ0 σ) (hd : σ d = none) : σ0 d = none := by
  cases q : σ0 d with
  | none => rfl
  | some x => rw [h _ _ q] at hd; cases hd
section
variable {A : Ad} {rt : List Addr} {S : St} {B : Nat → Addr} {V : LV} {T : Live}
theorem rt_of_none {ρ : Hp} {x : Addr} (w : Wf A rt S) (h : canon A rt S ρ x = none) : x ∉ rt := fun hx => by
  obtain ⟨k, hk⟩ := List.getElem?_of_mem hx
  have hlt : k < rt.length := by
    rcases Nat.lt_or_ge k rt.length with q | q
    · exact q
    · rw [List.getElem?_eq_none q] at hk; cases hk
  have := canon_row (ρ := ρ) w hk (List.getElem?_eq_getElem (by rw [← w.rl]; exact hlt))
  rw [this] at h; cases h
theorem Wf.new {ρ : Hp} {x : Addr} {i : It} (w : Wf A rt S) (h : canon A rt S ρ x = none) : Wf A rt (S.put1 x i) := by
  obtain ⟨h1, h2, h3, h4⟩ := canon_none h
  have hx := rt_of_none w h
  refine ⟨w.inj, fun j hj => ?_, fun b hb => ⟨?_, (w.ra b hb).2⟩, w.rn, w.rl⟩
  · show (if _ then _ else _) = _
    rw [if_neg (h1 j hj)]; exact w.it j hj
  · show (if _ then _ else _) = _
    rw [if_neg (fun (e : b = x) => hx (e ▸ hb))]; exact (w.ra b hb).1
theorem Off.new {x b : Addr} {i : It} (o : Off A rt S b) (hb : b ≠ x) : Off A rt (S.put1 x i) b := ⟨o.at_, by
  show (if _ then _ else _) = _
  rw [if_neg hb]; exact o.it, o.row⟩
theorem LW.some_B (l : LW A rt S B T) (i : Nat) (hi : i < 9) : (lcan B V T (B i)).isSome = true := by rw [lcan_at l i hi]; rfl
theorem LW.more (l : LW A rt S B T) {t : Addr} {e : Addr × Int} (o : Off A rt S t) (h : lcan B V T t = none) : LW A rt S B (T ++ [(t, e)]) := by
  refine ⟨l.w, l.inj, l.ob, fun e' he i hi => ?_, fun e' he => ?_, ?_⟩
  · rcases List.mem_append.mp he with he | he
    · exact l.tb e' he i hi
    · cases List.mem_singleton.mp he
      intro z
      have := lcan_at (V := V) l i hi
      rw [show B i = t from z, h] at this; cases this
  · rcases List.mem_append.mp he with he | he
    · exact l.ot e' he
    · cases List.mem_singleton.mp he; exact o
  · rw [List.map_append, List.nodup_append]
    refine ⟨l.tn, by simp, fun x hx y hy z => ?_⟩
    cases List.mem_singleton.mp hy
    obtain ⟨e', he', rfl⟩ := List.mem_map.mp hx
    have := lcan_ent (V := V) l he'
    rw [show e'.1 = t from z, h] at this; cases this
/-- what is known of one in the law's heap -/
theorem lcan_cases (l : LW A rt S B T) {b : Addr} {o : AObj} (h : lcan B V T b = some o) : (∃ i, i < 9 ∧ b = B i ∧ o = lobj B V T i) ∨ (∃ e ∈ T, b = e.1 ∧ o = entO e.2) := by
  unfold lcan at h
  split at h
  · rename_i i hi
    have h1 := List.find?_some hi
    have h2 := List.mem_of_find?_eq_some hi
    simp only [beq_iff_eq] at h1
    refine .inl ⟨i, by simpa using h2, h1.symm, (Option.some.inj h).symm⟩
  · rename_i hn
    cases q : T.lookup b with
    | none => rw [q] at h; cases h
    | some e =>
      rw [q] at h
      refine .inr ⟨(b, e), ?_, Eq.refl b, (Option.some.inj h).symm⟩
      clear h hn l
      induction T with
      | nil => cases q
      | cons p r ih =>
        obtain ⟨p1, p2⟩ := p
        rw [List.lookup_cons] at q
        split at q
        · rename_i z; cases q; rw [eq_of_beq z]; exact .head _
        · exact .tail _ (ih q)
end
theorem n_place {G : Gx} (hK : KG G) : nsIn G.K mainGlobals "_law_place" = some (some (.ref 433)) ∧ keepIn G.K (.ref 433) = true := hK.n_place
theorem n_follow {G : Gx} (hK : KG G) : nsIn G.K mainGlobals "_law_follow" = some (some (.ref 426)) ∧ keepIn G.K (.ref 426) = true := hK.n_follow
theorem n_pull {G : Gx} (hK : KG G) : nsIn G.K mainGlobals "_law_pull" = some (some (.ref 419)) ∧ keepIn G.K (.ref 419) = true := hK.n_pull
theorem n_allRight {G : Gx} (hK : KG G) : nsIn G.K mainGlobals "_law_all_right" = some (some (.ref 438)) ∧ keepIn G.K (.ref 438) = true := hK.n_allRight
theorem n_taken {G : Gx} (hK : KG G) : nsIn G.K mainGlobals "_law_taken" = some (some (.ref 443)) ∧ keepIn G.K (.ref 443) = true := hK.n_taken
theorem n_mapRight {G : Gx} (hK : KG G) : nsIn G.K mainGlobals "_law_map_right" = some (some (.ref 450)) ∧ keepIn G.K (.ref 450) = true := hK.n_mapRight

/-- bounds of what has been done in n deeds -/
structure Bd (n : Nat) (S : St) (V : LV) (T : Live) : Prop where
  t : T.length ≤ n
  u : V.words.length + S.spilled.length + S.temps.length ≤ 64 * n
  r : S.rows.length ≤ 64 * n
  m : S.maps.length ≤ n
section
variable {count top : Int} {S : St} {V : LV} {T : Live} {n : Nat}
theorem Bd.own (b : Bd n S V T) (I : Inv count top S (T.map (·.2)) V.words) : S.own.length + S.spilled.length = T.length := by
  have := I.cnt; rwa [List.length_map] at this
theorem Bd.sz (b : Bd n S V T) (I : Inv count top S (T.map (·.2)) V.words) (hn : n ≤ 60) : Sz S := by
  have h1 := b.own I
  have h2 := b.t
  have h3 := b.u
  have h4 := b.r
  exact ⟨by omega, by rw [I.ord, List.length_map]; omega, by omega, by omega, by omega⟩
end

variable {G : Gx} (hK : KG G) {A : Ad} {rt : List Addr} {S : St} {B : Nat → Addr} {V : LV} {T : Live} {n : Nat} {Q : AV → Hp → Prop} {ρ : Hp}
include hK
theorem F_place {a : Addr} {i : It} (w : Wf A rt S) (ha : S.items a = some i)
    (h : ∀ t, canon A rt S ρ t = none → Q (.ref t) ((canon A rt S ρ).set t (.tup [.str (plc S a).1, .int (plc S a).2]))) : Fn G (n + 1) 433 [.ref a] (canon A rt S ρ) Q := by
  refine' enter hK.f433 [("item", .ref a)] ?he ?hbx ?hm ?_
  case he => rfl
  case hbx => rfl
  case hm => rfl
  intro cdv
  intro c hcn
  unfold plc at h
  rw [ha] at h
  refine S_cons <| S_If <| T_Compare <| E_Attr <| E_loc rfl <| R_item w ha rfl <| E_str <| O_eq_str <| T_bool ?_
  by_cases q : i.mode = "spill"
  · rw [q]
    simp only [q, if_true] at h
    exact S_cons <| S_Return <| E_Tuple <| EVs_cons <| E_str <| EVs_cons <| E_Attr <| E_loc rfl <| R_item w ha rfl <| EVs_nil ⟨by simp, h⟩
  · rw [beq_false_of_ne q]
    simp only [q, if_false] at h
    exact S_nil <| S_cons <| S_Return <| E_Tuple <| EVs_cons <| E_str <| EVs_cons <| E_Attr <| E_loc rfl <| R_item w ha rfl <| EVs_nil ⟨by simp, h⟩

set_option maxHeartbeats 1000000 in
theorem F_mapRight {count top : Int} {row : Int} (l : LW A rt S B T) (I : Inv count top S (T.map (·.2)) V.words) (hz : Sz S) (hm : S.maps.length ≤ 50000) (hl : V.roots.length + T.length < 64) (hro : S.roots = V.roots)
    (h : ∀ m, Q (.bool true) (canon A rt { S with maps := putAt S.maps row (.ref m) } (lcan B V T))) : Fn G (n + 3) 450 [.ref (A.at_ 0), .ref (B 5), .ref (B 7), .int row] (canon A rt S (lcan B V T)) Q := by
  refine' enter hK.f450 [("coder", .ref (A.at_ 0)), ("live", .ref (B 5)), ("roots", .ref (B 7)), ("row", .int row)] ?he ?hbx ?hm ?_
  case he => rfl
  case hbx => rfl
  case hm => rfl
  intro cdv
  intro c hcn
  have hn : n + 2 ≤ c.n := Nat.le_of_eq hcn.symm
  have hcnt : S.own.length + S.spilled.length = T.length := by have := I.cnt; rwa [List.length_map] at this
  refine S_cons <| S_Expr <| E_Meth1 <| E_loc rfl <| M_cls (canon_at l.w 0) (mc_note_map hK).fi (mc_note_map hK).fn <| EVs_cons <| E_loc rfl <| EVs_nil ⟨.inl (mc_note_map hK).kp, C_fn hn <| F_noteMap hK l.w hz hm (fun p hp => by obtain ⟨_, i, h1, _⟩ := I.spl p hp; rw [h1]; rfl) I.snd (by rw [hro]; omega) fun m hmn => ⟨trivial, ?_⟩⟩
  obtain ⟨om, hρm⟩ := Off.of_none hmn
  have hh := h m
  have l1 : LW A rt { S with maps := putAt S.maps row (.ref m) } B T := l.of (V := V) l.w.of fun b _ o => o.of
  have hmap : HasL (coderAt A { S with maps := putAt S.maps row (.ref m) }) "maps" (.ref (A.at_ 10)) := rfl
  have hmaps : keyAt (putAt S.maps row (.ref m)) row = some (.ref m) := by rw [keyAt_put, if_pos rfl]
  have e10 : canon A rt { S with maps := putAt S.maps row (.ref m) } (lcan B V T) (A.at_ 10) = some (.idict (putAt S.maps row (.ref m))) := canon_at l1.w 10
  have e0 : canon A rt { S with maps := putAt S.maps row (.ref m) } (lcan B V T) (A.at_ 0) = some (.inst 351 (coderAt A { S with maps := putAt S.maps row (.ref m) })) := canon_at l1.w 0
  have eit : ∀ a i, S.items a = some i → canon A rt { S with maps := putAt S.maps row (.ref m) } (lcan B V T) a = some (.inst 108 (itemAt i)) := fun a i hi => canon_it l1.w hi
  have e7 := l1.get (V := V) 7
  have e5 := l1.get (V := V) 5
  have eent : ∀ e ∈ T, _ := fun e he => l1.ent (V := V) he
  have sup : Sup (canon A rt { S with maps := putAt S.maps row (.ref m) } (lcan B V T)) (canon A rt { S with maps := putAt S.maps row (.ref m) } ((lcan B V T).set m (.list ((S.roots ++ rootSlots S S.spilled).mergeSort.map .int)))) := canon_sup (Sup.set hρm)
  have em : canon A rt { S with maps := putAt S.maps row (.ref m) } ((lcan B V T).set m (.list ((S.roots ++ rootSlots S S.spilled).mergeSort.map .int))) m = some (.list ((S.roots ++ rootSlots S S.spilled).mergeSort.map .int)) := by
    rw [Off.get (om.of)]; exact Hp.set_self _ _ _
  generalize canon A rt { S with maps := putAt S.maps row (.ref m) } ((lcan B V T).set m (.list ((S.roots ++ rootSlots S S.spilled).mergeSort.map .int))) = σ1 at *
  generalize coderAt A { S with maps := putAt S.maps row (.ref m) } = ca at *
  generalize canon A rt { S with maps := putAt S.maps row (.ref m) } (lcan B V T) = σ0 at *
  refine S_cons <| S_AssignName <| E_Call1 <| E_built (n_list hK) rfl rfl <| EVs_cons <| E_loc rfl <| EVs_nil ⟨trivial, C_list (sup _ _ e7) (by simp; omega) fun d hd => ?_⟩
  have hd0 : σ0 d = none := sup.no hd
  have hdm : m ≠ d := fun e => by rw [← e, em] at hd; cases hd
  refine S_cons <| S_ForList <| E_loc rfl ⟨B 5, T.map fun e => .ref e.1, fun r μ σ => ∃ rs done, r = rs.map (fun e => AV.ref e.1) ∧ T = done ++ rs ∧ HasL μ "due" (.ref d) ∧ HasL μ "coder" (.ref (A.at_ 0)) ∧ HasL μ "row" (.int row) ∧ σ = σ1.set d (.list ((V.roots ++ done.filterMap fun e => dueOf S e.2.1).map .int)), rfl, ⟨T, [], rfl, rfl, rfl, rfl, rfl, by simp⟩, ?_, ?_, ?_⟩
  · rintro r μ σ ⟨rs, done, -, -, -, -, -, rfl⟩
    exact sup.setN hd0 _ _ e5
  · rintro b hb x r μ σ ⟨rs, done, e1, e2, f1, f2, f3, rfl⟩
    cases rs with
    | nil => cases e1
    | cons e rs =>
      cases e1
      have he : e ∈ T := by rw [e2]; simp
      obtain ⟨i, hi⟩ := I.it (a := e.2.1) (List.mem_map.mpr ⟨e.2, List.mem_map_of_mem he, rfl⟩)
      have sup2 : ∀ o, Sup σ0 (σ1.set d o) := fun o => sup.setN hd0
      have hdone : done.length ≤ T.length := by rw [e2]; simp
      have hfl : (done.filterMap fun e => dueOf S e.2.1).length ≤ done.length := List.length_filterMap_le _ _
      have hdue : (done ++ [e]).filterMap (fun e => dueOf S e.2.1) = done.filterMap (fun e => dueOf S e.2.1) ++ if i.mode = "spill" ∧ i.root = true then [i.slot] else [] := by
        rw [List.filterMap_append]
        congr 1
        simp only [List.filterMap_cons, List.filterMap_nil, dueOf, hi]
        by_cases q : i.mode = "spill" ∧ i.root = true <;> simp [q]
      refine ⟨.inr ⟨_, _, _, _, rfl, rfl⟩, A_Tuple (ns := [(_, _), (_, _)]) (sup2 _ _ _ (eent e he)) rfl (by simp) (fun p hp => by simp only [List.mem_cons, List.not_mem_nil, or_false] at hp; rcases hp with rfl | rfl <;> rfl) ?_⟩
      show SV _ _ (upd "value" (.int e.2.2) (upd "item" (.ref e.2.1) μ)) _ _
      have g1 : HasL (upd "value" (.int e.2.2) (upd "item" (.ref e.2.1) μ)) "item" (.ref e.2.1) := upd_ne (upd_self _ _ _) (by decide)
      have g2 : HasL (upd "value" (.int e.2.2) (upd "item" (.ref e.2.1) μ)) "due" (.ref d) := upd_ne (upd_ne f1 (by decide)) (by decide)
      have g3 : HasL (upd "value" (.int e.2.2) (upd "item" (.ref e.2.1) μ)) "coder" (.ref (A.at_ 0)) := upd_ne (upd_ne f2 (by decide)) (by decide)
      have g4 : HasL (upd "value" (.int e.2.2) (upd "item" (.ref e.2.1) μ)) "row" (.int row) := upd_ne (upd_ne f3 (by decide)) (by decide)
      refine S_cons <| S_If <| T_And2 <| T_Compare <| E_Attr <| E_loc g1 <| A_data (sup2 _ _ _ (eit _ i hi)) rfl <| E_str <| O_eq_str <| T_bool ?_
      by_cases q : i.mode = "spill"
      · rw [q]
        refine T_val <| E_Attr <| E_loc g1 <| A_data (sup2 _ _ _ (eit _ i hi)) rfl <| T_bool ?_
        cases q2 : i.root with
        | true =>
          refine S_cons <| S_Expr <| E_Meth1 <| E_loc g2 <| M_list (Hp.set_self _ _ _) PySem.slot_list_append rfl <| EVs_cons <| E_Attr <| E_loc g1 <| A_data (sup2 _ _ _ (eit _ i hi)) rfl <| EVs_nil ⟨trivial, C_append (Hp.set_self _ _ _) (by simp; omega) ⟨trivial, ?_⟩⟩
          rw [Hp.set_set]
          refine S_nil <| S_nil ⟨rs, done ++ [e], rfl, by rw [e2]; simp, g2, g3, g4, ?_⟩
          rw [hdue, if_pos ⟨q, q2⟩]; simp
        | false =>
          refine S_nil <| S_nil ⟨rs, done ++ [e], rfl, by rw [e2]; simp, g2, g3, g4, ?_⟩
          rw [hdue, if_neg (by rw [q2]; simp)]; simp
      · rw [beq_false_of_ne q]
        refine S_nil <| S_nil ⟨rs, done ++ [e], rfl, by rw [e2]; simp, g2, g3, g4, ?_⟩
        rw [hdue, if_neg (fun z => q z.1)]; simp
  · rintro μ σ ⟨rs, done, e1, e2, f1, f2, f3, rfl⟩
    cases rs with
    | cons _ _ => cases e1
    | nil =>
      rw [List.append_nil] at e2
      subst e2
      have sup2 : ∀ o, Sup σ0 (σ1.set d o) := fun o => sup.setN hd0
      have hfl : (T.filterMap fun e => dueOf S e.2.1).length ≤ T.length := List.length_filterMap_le _ _
      refine S_cons <| S_Return <| EV.sup <| E_Compare <| E_Sub <| E_Attr <| E_loc f2 <| A_data (sup2 _ _ _ e0) hmap <| E_loc f3 <| I_idict (sup2 _ _ _ e10) hmaps <| E_Call1 <| E_built (n_sorted hK) rfl rfl <| EVs_cons <| E_loc f1 <| EVs_nil ⟨trivial, C_sorted (Hp.set_self _ _ _) (by rw [List.length_append]; omega) fun s hs => ?_⟩
      have hs1 := Hp.set_none hs
      have hms : m ≠ s := fun e => by rw [← e, em] at hs1; cases hs1.2
      refine O_eqInts (xs := (S.roots ++ rootSlots S S.spilled).mergeSort) (ys := (V.roots ++ T.filterMap fun e => dueOf S e.2.1).mergeSort) ?_ (Hp.set_self _ _ _) ?_
      · rw [Hp.set_ne hms, Hp.set_ne hdm]; exact em
      · have pe : (S.roots ++ rootSlots S S.spilled).mergeSort = (V.roots ++ T.filterMap fun e => dueOf S e.2.1).mergeSort := by
          have := map_perm I
          rw [List.filterMap_map] at this
          rw [← hro]; exact merge_perm this
        rw [decide_eq_true pe]
        exact ⟨_, (sup2 _).setN (sup.no hs1.2), hh⟩
end Mine
end

section
open PySem PySem.W PySem.Calls PyProof.Rows
namespace Mine

/-- tuples at addresses -/
noncomputable def Tups (ρ : Hp) (ts : List Addr) (vs : List (List AV)) : Prop := ts.length = vs.length ∧ ∀ (j : Nat) (t : Addr) (v : List AV), ts[j]? = some t → vs[j]? = some v → ρ t = some (.tup v)
theorem Tups.nil {ρ : Hp} : Tups ρ [] [] := ⟨rfl, fun j t v h => by simp at h⟩
theorem Tups.some_ {ρ : Hp} {ts : List Addr} {vs : List (List AV)} (h : Tups ρ ts vs) {t : Addr} (ht : t ∈ ts) : ∃ v, ρ t = some (.tup v) := by
  obtain ⟨j, hj⟩ := List.getElem?_of_mem ht
  have hlt : j < ts.length := by
    rcases Nat.lt_or_ge j ts.length with q | q
    · exact q
    · rw [List.getElem?_eq_none q] at hj; cases hj
  exact ⟨_, h.2 j t _ hj (List.getElem?_eq_getElem (by rw [← h.1]; exact hlt))⟩
theorem Tups.sup {ρ ρ' : Hp} {ts : List Addr} {vs : List (List AV)} (h : Tups ρ ts vs) (s : Sup ρ ρ') : Tups ρ' ts vs := ⟨h.1, fun j t v h1 h2 => s _ _ (h.2 j t v h1 h2)⟩
theorem Tups.setL {ρ : Hp} {ts : List Addr} {vs : List (List AV)} {l : Addr} {xs : List AV} {o : AObj} (h : Tups ρ ts vs) (hl : ρ l = some (.list xs)) : Tups (ρ.set l o) ts vs := ⟨h.1, fun j t v h1 h2 => by
  have := h.2 j t v h1 h2
  rw [Hp.set_ne]
  · exact this
  · rintro rfl; rw [hl] at this; cases this⟩
theorem Tups.snoc {ρ : Hp} {ts : List Addr} {vs : List (List AV)} {t : Addr} {v : List AV} (h : Tups ρ ts vs) (ht : ρ t = none) : Tups (ρ.set t (.tup v)) (ts ++ [t]) (vs ++ [v]) := by
  refine ⟨by simp [h.1], fun j u w h1 h2 => ?_⟩
  rcases Nat.lt_trichotomy j ts.length with q | q | q
  · rw [List.getElem?_append_left q] at h1
    rw [List.getElem?_append_left (by rw [← h.1]; exact q)] at h2
    exact (h.sup (Sup.set ht)).2 j u w h1 h2
  · subst q
    rw [List.getElem?_append_right (Nat.le_refl _), Nat.sub_self] at h1
    rw [h.1, List.getElem?_append_right (Nat.le_refl _), Nat.sub_self] at h2
    cases h1; cases h2
    exact Hp.set_self _ _ _
  · rw [List.getElem?_eq_none (by simp; omega)] at h1; cases h1
noncomputable def modeOf (S : St) (k : Addr) : Str := match S.items k with
  | some i => i.mode
  | none => ""
noncomputable def modeV (S : St) (k : Addr) : List AV := [.ref k, .str (modeOf S k)]

section
variable {G : Gx} {c : Cx G} {μ : Loc} {env : Env} {A : Ad} {rt : List Addr} {S : St} {ρ : Hp}
theorem modesL {sc : Scope} {p1 p2 p3 p4 p5 : Pos} {k : Nat} {kl : Addr} {ks : List Addr} {R : Addr → Loc → Hp → Prop} (w : Wf A rt S) (hks : ∀ k ∈ ks, ∃ i, S.items k = some i) (okl : Off A rt S kl) (hkl : ρ kl = some (.list (ks.map .ref))) (hz : ks.length ≤ 1000)
    (s1 : sc.kind = .function) (s2 : ∀ L, (cenvX env sc [] L).kindOf "other" = some .local) (s3 : ∀ L, (((cenvX env sc [] L).scope.kind == .class || ((cenvX env sc [] L).scope.kind == .module && (cenvX env sc [] L).locals != (cenvX env sc [] L).globals)) = false))
    (h : ∀ ρ' ts bl, Sup ρ ρ' → Tups ρ' ts (ks.map (modeV S)) → (∀ t ∈ ts, Off A rt S t) → Off A rt S bl → ρ' bl = some (.list (ts.map .ref)) → (∀ t ∈ ts, ρ t = none) → ρ bl = none → R bl μ (canon A rt S ρ')) :
    CompOf c (.Tuple [.Name "other" p1, .Attribute (.Name "other" p2) "mode" p3] k p4) (.Name "other" p5) [] sc [] env (.ref kl) μ (canon A rt S ρ) R := by
  refine .inl ⟨kl, ks.map .ref, fun r acc σ => ∃ ρ' ts done rs, σ = canon A rt S ρ' ∧ Sup ρ ρ' ∧ ks = done ++ rs ∧ r = rs.map AV.ref ∧ acc = ts.map AV.ref ∧ Tups ρ' ts (done.map (modeV S)) ∧ (∀ t ∈ ts, Off A rt S t) ∧ (∀ t ∈ ts, ρ t = none), rfl, ⟨ρ, [], [], ks, rfl, Sup.re, rfl, rfl, rfl, Tups.nil, (fun _ z => (nomatch z)), (fun _ z => (nomatch z))⟩, ?_, by simp; omega, ?_, ?_⟩
  · rintro r acc σ ⟨ρ', ts, done, rs, rfl, sp, -⟩
    rw [okl.get]; exact sp _ _ hkl
  · rintro c' hn hb x r acc μ σ hlen ⟨ρ', ts, done, rs, rfl, sp, e1, e2, e3, tp, of, nn⟩
    cases rs with
    | nil => cases e2
    | cons a rs =>
      cases e2
      obtain ⟨i, hi⟩ := hks a (by rw [e1]; simp)
      refine ⟨.inl ⟨_, _, rfl⟩, fun v hv => A_Name hv ?_ rfl (s2 _) (s3 _)⟩
      refine E_Tuple <| EVs_cons <| E_loc (upd_self _ _ _) ?_ rfl s1 (s2 _)
      refine EVs_cons <| E_Attr <| E_loc (upd_self _ _ _) (R_item w hi rfl <| EVs_nil ⟨by simp, fun t ht => ?_⟩) rfl s1 (s2 _)
      obtain ⟨ot, hρt⟩ := Off.of_none ht
      rw [ot.set]
      refine ⟨ρ'.set t (.tup [.ref a, .str i.mode]), ts ++ [t], done ++ [a], rs, rfl, sp.trans (Sup.set hρt), by rw [e1]; simp, rfl, by rw [e3]; simp, ?_, fun u hu => ?_, fun u hu => ?_⟩
      · have := tp.snoc (v := [.ref a, .str i.mode]) hρt
        have e : modeV S a = [.ref a, .str i.mode] := by unfold modeV modeOf; rw [hi]
        rw [List.map_append, List.map_cons, List.map_nil, e]; exact this
      · rcases List.mem_append.mp hu with hu | hu
        · exact of u hu
        · cases List.mem_singleton.mp hu; exact ot
      · rcases List.mem_append.mp hu with hu | hu
        · exact nn u hu
        · cases List.mem_singleton.mp hu; exact sp.no hρt
  · rintro acc σ ⟨ρ', ts, done, rs, rfl, sp, e1, e2, e3, tp, of, nn⟩ a ha
    cases rs with
    | cons _ _ => cases e2
    | nil =>
      rw [List.append_nil] at e1
      subst e1
      obtain ⟨oa, hρa⟩ := Off.of_none ha
      rw [oa.set, e3]
      exact h _ ts a (sp.trans (Sup.set hρa)) (tp.sup (Sup.set hρa)) of oa (Hp.set_self _ _ _) nn (sp.no hρa)
end

variable {G : Gx} (hK : KG G) {A : Ad} {rt : List Addr} {S : St} {B : Nat → Addr} {V : LV} {T : Live} {n : Nat} {Q : AV → Hp → Prop} {ρ : Hp}
theorem take_keep {A : Ad} {S S' : St} {a : Addr} {i : It} {ks : List Addr} {r : Int} (h : TakeR A S a i ks r S') : S'.roots = S.roots ∧ S'.out = S.out ∧ S'.maps = S.maps ∧ S'.spilled.length + S'.temps.length ≤ S.spilled.length + S.temps.length + 1 := by
  rcases h with ⟨-, -, -, rfl⟩ | ⟨-, -, -, v, iv, -, -, -, rfl⟩
  · exact ⟨rfl, rfl, rfl, Nat.le_succ _⟩
  · obtain ⟨t, l, l', e⟩ := tempS_eq S
    have e1 : (spillS v iv S).spilled.length = S.spilled.length + 1 := by show (S.spilled ++ [_]).length = _; simp
    have e2 : (spillS v iv S).temps.length ≤ S.temps.length := by rw [spill_temps]; exact tempS_len S
    refine ⟨?_, ?_, ?_, ?_⟩
    · show (spillS v iv S).roots = _
      unfold spillS giveS St.putR St.put1; rw [e]
    · show (spillS v iv S).out = _
      unfold spillS giveS St.putR St.put1; rw [e]
    · show (spillS v iv S).maps = _
      unfold spillS giveS St.putR St.put1; rw [e]
    · show (spillS v iv S).spilled.length + (spillS v iv S).temps.length ≤ _; omega
theorem take_rows {A : Ad} {S S' : St} {a : Addr} {i : It} {ks : List Addr} {r : Int} (h : TakeR A S a i ks r S') : ∃ new, S'.rows = S.rows ++ new ∧ new.length ≤ 1 := by
  rcases h with ⟨-, -, -, rfl⟩ | ⟨-, -, -, v, iv, -, -, -, rfl⟩
  · exact ⟨[], by rw [List.append_nil]; rfl, Nat.zero_le _⟩
  · exact ⟨[⟨"STR", iv.reg, 11, (tempS S).1⟩], by show (spillS v iv S).rows = _; rw [spill_rows], Nat.le_refl _⟩
theorem lcan_app {t : Addr} {e : Addr × Int} {σ : Hp} (l : LW A rt S B T) (ht : lcan B V T t = none) (h5 : σ (B 5) = some (.list ((T ++ [(t, e)]).map fun e => .ref e.1))) (ht2 : σ t = some (entO e)) (hs : ∀ b o, b ≠ B 5 → lcan B V T b = some o → σ b = some o) (l2 : LW A rt S B (T ++ [(t, e)])) : Sup (lcan B V (T ++ [(t, e)])) σ := fun b o h => by
  rcases lcan_cases l2 h with ⟨i, hi, rfl, rfl⟩ | ⟨e', he, rfl, rfl⟩
  · by_cases q : i = 5
    · subst q; exact h5
    · have hne : B i ≠ B 5 := fun z => q (l.inj i 5 hi (by decide) z)
      rw [hs _ _ hne (lcan_at (V := V) l i hi)]
      have : i = 0 ∨ i = 1 ∨ i = 2 ∨ i = 3 ∨ i = 4 ∨ i = 6 ∨ i = 7 ∨ i = 8 := by omega
      rcases this with rfl | rfl | rfl | rfl | rfl | rfl | rfl | rfl <;> rfl
  · rcases List.mem_append.mp he with he | he
    · exact hs _ _ (fun z => l.tb e' he 5 (by decide) z.symm) (lcan_ent l he)
    · cases List.mem_singleton.mp he; exact ht2

include hK
set_option maxHeartbeats 2000000 in
theorem F_taken {top : Int} {kl : Addr} {ks : List Addr} {number : Int} {root : Bool} {ity : Addr} (l : LW A rt S B T) (I : Inv A.count top S (T.map (·.2)) V.words) (hz : Sz S) (hc : 4 ≤ A.count) (hc1 : A.count < 1000) (hty : A.types = B 8) (hint : HasL V.ty "integer" (.ref ity))
    (hkl : canon A rt S (lcan B V T) kl = none) (hk2 : ks.length ≤ 2) (hkm : ∀ k ∈ ks, ∃ i, S.items k = some i ∧ i.mode = "reg") (hTz : T.length ≤ 50000)
    (h : ∀ rt2 S2 t x, LW A rt2 S2 B (T ++ [(t, (x, number))]) → Inv A.count top S2 ((T ++ [(t, (x, number))]).map (·.2)) V.words → (S2.roots = S.roots ∧ S2.out = S.out ∧ S2.maps = S.maps) → S2.spilled.length + S2.temps.length ≤ S.spilled.length + S.temps.length + 1 → (∃ new, S2.rows = S.rows ++ new ∧ new.length ≤ 2) → (∃ ix, S2.items x = some ix ∧ ix.mode = "reg") →
      Q (.bool true) (canon A rt2 S2 (lcan B V (T ++ [(t, (x, number))])))) :
    Fn G (n + 5) 443 [.ref (A.at_ 0), .ref (B 5), .int number, .bool root, .ref kl] ((canon A rt S (lcan B V T)).set kl (.list (ks.map .ref))) Q := by
  refine' enter hK.f443 [("coder", .ref (A.at_ 0)), ("live", .ref (B 5)), ("number", .int number), ("root", .bool root), ("keep", .ref kl)] ?he ?hbx ?hm ?_
  case he => rfl
  case hbx => rfl
  case hm => rfl
  intro cdv
  intro c hcn
  have hn : n + 4 ≤ c.n := Nat.le_of_eq hcn.symm
  obtain ⟨okl, hρkl⟩ := Off.of_none hkl
  rw [okl.set]
  have sp0 : Sup (lcan B V T) ((lcan B V T).set kl (.list (ks.map .ref))) := Sup.set hρkl
  have ekl : ((lcan B V T).set kl (.list (ks.map .ref))) kl = some (.list (ks.map .ref)) := Hp.set_self _ _ _
  generalize (lcan B V T).set kl (.list (ks.map .ref)) = ρ at *
  have e8 : canon A rt S ρ A.types = some (.inst 408 V.ty) := by rw [hty]; exact canon_sup sp0 _ _ (l.get (V := V) 8)
  refine S_cons <| S_AssignName <| E_Call1 <| E_glob (n_Item hK) rfl <| EVs_cons <| E_str <| EVs_cons <| E_Attr <| E_Attr <| E_loc rfl <| R_coder l.w "types" rfl <| A_data e8 hint <| EVs_nil ⟨.inl (k_item hK).kp, C_make (k_item hK).cf (k_item hK).mkI (k_item hK).ini (k_item hK).fn (n := n + 1) (by omega) fun x hx => F_itemInit hK fun tr fa => ⟨rfl, ?_⟩⟩
  obtain ⟨ox, hρx⟩ := Off.of_none hx
  have hxL : x ∉ (T.map (·.2)).map (·.1) := fun z => by
    obtain ⟨i, hi⟩ := I.it z
    rw [ox.it] at hi; cases hi
  have ne_x : ∀ b, (ρ b).isSome = true → b ≠ x := fun b hb e => by rw [e, hρx] at hb; cases hb
  rw [canon_setIt _ ox.at_]
  refine S_cons <| S_AssignAttr <| E_loc rfl <| E_loc rfl <| W_root (l.w.new hx) put1_self ?_
  rw [put1_put1]
  have w1 : Wf A rt (S.put1 x { mode := "reg", reg := -1, root := root, slot := 0, was := "", t := .ref ity, tr := tr, fa := fa }) := l.w.new hx
  have I1 : Inv A.count top (S.put1 x { mode := "reg", reg := -1, root := root, slot := 0, was := "", t := .ref ity, tr := tr, fa := fa }) (T.map (·.2)) V.words := inv_put1 I hxL
  have of1 : ∀ b, (ρ b).isSome = true → Off A rt S b → Off A rt (S.put1 x { mode := "reg", reg := -1, root := root, slot := 0, was := "", t := .ref ity, tr := tr, fa := fa }) b := fun b hb o => o.new (ne_x b hb)
  have hx1 : (S.put1 x { mode := "reg", reg := -1, root := root, slot := 0, was := "", t := .ref ity, tr := tr, fa := fa }).items x = some { mode := "reg", reg := -1, root := root, slot := 0, was := "", t := .ref ity, tr := tr, fa := fa } := put1_self
  have hkm1 : ∀ k ∈ ks, k ≠ x ∧ ∃ i, (S.put1 x { mode := "reg", reg := -1, root := root, slot := 0, was := "", t := .ref ity, tr := tr, fa := fa }).items k = some i ∧ i.mode = "reg" := fun k hk => by
    obtain ⟨i, hi, hm⟩ := hkm k hk
    have hkx : k ≠ x := fun e => by rw [e, ox.it] at hi; cases hi
    exact ⟨hkx, i, by show (if _ then _ else _) = _; rw [if_neg hkx]; exact hi, hm⟩
  have sz1 : Sz (S.put1 x { mode := "reg", reg := -1, root := root, slot := 0, was := "", t := .ref ity, tr := tr, fa := fa }) := ⟨hz.own, hz.order, hz.temps, hz.spilled, hz.rows⟩
  have eS : (S.put1 x { mode := "reg", reg := -1, root := root, slot := 0, was := "", t := .ref ity, tr := tr, fa := fa }).roots = S.roots ∧ (S.put1 x { mode := "reg", reg := -1, root := root, slot := 0, was := "", t := .ref ity, tr := tr, fa := fa }).out = S.out ∧ (S.put1 x { mode := "reg", reg := -1, root := root, slot := 0, was := "", t := .ref ity, tr := tr, fa := fa }).maps = S.maps ∧ (S.put1 x { mode := "reg", reg := -1, root := root, slot := 0, was := "", t := .ref ity, tr := tr, fa := fa }).spilled = S.spilled ∧ (S.put1 x { mode := "reg", reg := -1, root := root, slot := 0, was := "", t := .ref ity, tr := tr, fa := fa }).temps = S.temps ∧ (S.put1 x { mode := "reg", reg := -1, root := root, slot := 0, was := "", t := .ref ity, tr := tr, fa := fa }).rows = S.rows := ⟨rfl, rfl, rfl, rfl, rfl, rfl⟩
  generalize hi1 : ({ mode := "reg", reg := -1, root := root, slot := 0, was := "", t := .ref ity, tr := tr, fa := fa } : It) = i1 at *
  have hm1 : i1.mode = "reg" := by rw [← hi1]
  generalize S.put1 x i1 = S1 at *
  have some_B : ∀ i, i < 9 → (ρ (B i)).isSome = true := fun i hi => by rw [sp0 _ _ (lcan_at (V := V) l i hi)]; rfl
  have oB : ∀ i, i < 9 → Off A rt S1 (B i) := fun i hi => of1 _ (some_B i hi) (l.ob i hi)
  have okl1 := of1 kl (by rw [ekl]; rfl) okl
  have oT : ∀ e ∈ T, Off A rt S1 e.1 := fun e he => of1 _ (by rw [sp0 _ _ (lcan_ent (V := V) l he)]; rfl) (l.ot e he)
  refine S_cons <| S_AssignComp (by rfl) (E_loc rfl <| modesL (ks := ks) w1 (fun k hk => let ⟨_, i, h, _⟩ := hkm1 k hk; ⟨i, h⟩) okl1 ekl (by omega) rfl (fun _ => rfl) (fun _ => rfl) fun ρ1 ts bl sp1 tp1 of_ts o_bl ebl nn nbl => ?_) (by decide) (by decide) (by decide)
  have sp01 := sp0.trans sp1
  have hna : ∀ p ∈ S1.own, p.2 ≠ x := fun p hp e => hxL (e ▸ (I1.own p hp).1)
  refine S_cons <| S_AssignName <| E_Meth1 <| E_loc rfl <| M_cls (canon_at w1 0) (mc_take hK).fi (mc_take hK).fn <| EVs_cons <| E_loc rfl <| EVs_cons <| E_loc rfl <| EVs_nil ⟨.inl (mc_take hK).kp, C_fn hn <| F_take hK (ks := ks) w1 sz1 I1.co (by omega) hc1 hx1 hna (.inr ⟨kl, rfl, okl1, sp1 _ _ ekl⟩) (fun k hk => let ⟨_, i, h, _⟩ := hkm1 k hk; by rw [h]; rfl) (by omega) (fun hall => victim_there I1 hc hk2 hall) fun r S' rt' tk w' kp => ?_⟩
  have ha' := tk.it
  have szT := tk.sz
  obtain ⟨I2, hx2, hks2⟩ := inv_takeR I1 hx1 hxL hm1 tk number
  obtain ⟨tk1, tk2, tk3, tk4⟩ := take_keep tk
  obtain ⟨new, tn1, tn2⟩ := take_rows tk
  have z3 := szT.rows
  have z6 := sz1.rows
  refine S_cons <| S_Expr <| E_Meth1 <| E_Attr <| E_loc rfl <| R_coder w' "buf" rfl <| M_cls (canon_at w' 1) (mb_put hK).fi (mb_put hK).fn <| EVs_cons <| E_str <| EVs_cons <| E_loc rfl <| EVs_cons <| E_int <| EVs_cons <| E_loc rfl <| EVs_nil ⟨.inl (mb_put hK).kp, C_fn (n := n + 4) hn <| F_put hK (canon_at w' 1) (canon_at w' 2) (by rw [List.length_map, w'.rl]; omega) fun q hq => ⟨trivial, ?_⟩⟩
  rw [show rowT (Str.ofString "MOVI") (AV.int r) (AV.int 0) (AV.int number) = rowO ⟨"MOVI", r, 0, number⟩ from rfl, canon_put _ w' hq]
  have w2 := w'.put ⟨"MOVI", r, 0, number⟩ hq
  have of2 : ∀ b, (ρ1 b).isSome = true → Off A rt S1 b → Off A (rt' ++ [q]) (S'.putR ⟨"MOVI", r, 0, number⟩) b := fun b hb o => (kp b hb o).put w' fun e => by rw [e, (Off.of_none hq).2] at hb; cases hb
  have hx3 : (S'.putR ⟨"MOVI", r, 0, number⟩).items x = some { i1 with reg := r } := hx2
  have hks3 : ∀ k ∈ ks, (S'.putR ⟨"MOVI", r, 0, number⟩).items k = S1.items k := fun k hk => hks2 k hk (hkm1 k hk).1 (hkm1 k hk).2
  have er : (S'.putR ⟨"MOVI", r, 0, number⟩).rows = S.rows ++ (new ++ [⟨"MOVI", r, 0, number⟩]) := by show S'.rows ++ [_] = _; rw [tn1, eS.2.2.2.2.2, List.append_assoc]
  have eo : (S'.putR ⟨"MOVI", r, 0, number⟩).roots = S'.roots ∧ (S'.putR ⟨"MOVI", r, 0, number⟩).out = S'.out ∧ (S'.putR ⟨"MOVI", r, 0, number⟩).maps = S'.maps ∧ (S'.putR ⟨"MOVI", r, 0, number⟩).spilled = S'.spilled ∧ (S'.putR ⟨"MOVI", r, 0, number⟩).temps = S'.temps := ⟨rfl, rfl, rfl, rfl, rfl⟩
  generalize S'.putR ⟨"MOVI", r, 0, number⟩ = S2 at *
  generalize rt' ++ [q] = rt2 at *
  have some1 : ∀ b, (ρ b).isSome = true → (ρ1 b).isSome = true := fun b hb => by
    obtain ⟨y, hy⟩ := Option.isSome_iff_exists.mp hb; rw [sp1 _ _ hy]; rfl
  have oB2 : ∀ i, i < 9 → Off A rt2 S2 (B i) := fun i hi => of2 _ (some1 _ (some_B i hi)) (oB i hi)
  have l2 : LW A rt2 S2 B T := ⟨w2, l.inj, oB2, l.tb, fun e he => of2 _ (by rw [sp01 _ _ (lcan_ent (V := V) l he)]; rfl) (oT e he), l.tn⟩
  have e5 : canon A rt2 S2 ρ1 (B 5) = some (.list (T.map fun e => .ref e.1)) := canon_sup sp01 _ _ (l2.get (V := V) 5)
  refine S_cons <| S_Expr <| E_Meth1 <| E_loc rfl <| M_list e5 PySem.slot_list_append rfl <| EVs_cons <| E_Tuple <| EVs_cons <| E_loc rfl <| EVs_cons <| E_loc rfl <| EVs_nil ⟨by simp, fun t ht => EVs_nil ⟨trivial, C_append (xs := T.map fun e => .ref e.1) (Sup.set ht _ _ e5) (by simp; omega) ⟨trivial, ?_⟩⟩⟩
  obtain ⟨ot, hρt⟩ := Off.of_none ht
  rw [ot.set, (oB2 5 (by decide)).set]
  have l3 : LW A rt2 S2 B (T ++ [(t, (x, number))]) := l2.more (V := V) ot (sp01.no hρt)
  have hmap : T.map (fun e => AV.ref e.1) ++ [AV.ref t] = (T ++ [(t, (x, number))]).map fun e => AV.ref e.1 := by simp
  rw [hmap]
  have h5ρ1 : ρ1 (B 5) = some (.list (T.map fun e => .ref e.1)) := sp01 _ _ (lcan_at (V := V) l 5 (by decide))
  have hB5t : B 5 ≠ t := fun e => by rw [e, hρt] at h5ρ1; cases h5ρ1
  have tp2 : Tups ((ρ1.set t (.tup [.ref x, .int number])).set (B 5) (.list ((T ++ [(t, (x, number))]).map fun e => AV.ref e.1))) ts (ks.map (modeV S1)) := (tp1.sup (Sup.set hρt)).setL (xs := T.map fun e => .ref e.1) (by rw [Hp.set_ne hB5t]; exact h5ρ1)
  have keepρ : ∀ b o, b ≠ B 5 → ρ1 b = some o → ((ρ1.set t (.tup [.ref x, .int number])).set (B 5) (.list ((T ++ [(t, (x, number))]).map fun e => AV.ref e.1))) b = some o := fun b o hb e => by
    rw [Hp.set_ne hb, Sup.set hρt _ _ e]
  have hkl5 : kl ≠ B 5 := fun e => by rw [← e, sp1 _ _ ekl] at h5ρ1; exact (by
    have : canon A rt S (lcan B V T) (B 5) = _ := l.get (V := V) 5
    rw [← e, hkl] at this; cases this)
  have hbl5 : bl ≠ B 5 := fun e => by
    have h1 := some_B 5 (by decide)
    rw [← e, nbl] at h1; cases h1
  have fin : Sup (lcan B V (T ++ [(t, (x, number))])) ((ρ1.set t (.tup [.ref x, .int number])).set (B 5) (.list ((T ++ [(t, (x, number))]).map fun e => AV.ref e.1))) :=
    lcan_app l2 (sp01.no hρt) (Hp.set_self _ _ _) (by rw [Hp.set_ne (Ne.symm hB5t)]; exact Hp.set_self _ _ _) (fun b o hb e => keepρ b o hb (sp01 _ _ e)) l3
  have ebl2 := keepρ _ _ hbl5 ebl
  have ekl2 := keepρ _ _ hkl5 (sp1 _ _ ekl)
  have obl2 := of2 bl (by rw [ebl]; rfl) o_bl
  have okl2 := of2 kl (by rw [sp1 _ _ ekl]; rfl) okl1
  have ots2 : ∀ t ∈ ts, Off A rt2 S2 t := fun t ht => of2 t (by obtain ⟨v, hv⟩ := tp1.some_ ht; rw [hv]; rfl) (of_ts t ht)
  have hmode : ks.map (modeV S2) = ks.map (modeV S1) := List.map_congr_left fun k hk => by unfold modeV modeOf; rw [hks3 k hk]
  have hit2 : ∀ k ∈ ks, ∃ i, S2.items k = some i := fun k hk => let ⟨_, i, h, _⟩ := hkm1 k hk; ⟨i, by rw [hks3 k hk]; exact h⟩
  have hh := h rt2 S2 t x l3 (by rw [List.map_append]; exact I2) ⟨eo.1.trans (tk1.trans eS.1), eo.2.1.trans (tk2.trans eS.2.1), eo.2.2.1.trans (tk3.trans eS.2.2.1)⟩ (by rw [eo.2.2.2.1, eo.2.2.2.2]; rw [eS.2.2.2.1, eS.2.2.2.2.1] at tk4; exact tk4) ⟨_, er, by simp; omega⟩ ⟨_, hx3, hm1⟩
  generalize (ρ1.set t (.tup [.ref x, .int number])).set (B 5) (.list ((T ++ [(t, (x, number))]).map fun e => AV.ref e.1)) = ρ2 at *
  refine S_cons <| S_Return <| EV.sup <| E_And2 <| E_Compare <| E_loc rfl <| E_Attr <| E_loc rfl <| R_item w2 hx3 rfl <| O_eq <| T_bool ?_
  rw [beq_self_eq_true]
  refine E_Compare <| E_loc rfl <| E_ListComp (E_loc rfl <| modesL (ks := ks) w2 hit2 okl2 ekl2 (by omega) rfl (fun _ => rfl) (fun _ => rfl) fun ρ3 ts2 bl2 sp3 tp3 of3 o3 e3 nn3 _ => ?_) (by decide) (by decide) (by decide)
  have tp4 := tp2.sup sp3
  rw [hmode] at tp3
  have lts : ts.length = ks.length := by have := tp4.1; rwa [List.length_map] at this
  have lts2 : ts2.length = ks.length := by have := tp3.1; rwa [List.length_map] at this
  refine O_eqSame (xs := ts.map .ref) (ys := ts2.map .ref) (by rw [obl2.get]; exact sp3 _ _ ebl2) (by rw [o3.get]; exact e3) (by simp [lts, lts2]) (fun j h1 h2 => ?_) ⟨_, canon_sup (fin.trans sp3), hh⟩
  have j1 : j < ts.length := by simpa using h1
  have j2 : j < ts2.length := by simpa using h2
  rw [List.getElem_map, List.getElem_map]
  have jk : j < (ks.map (modeV S1)).length := by rw [List.length_map]; omega
  have q1 := tp4.2 j _ _ (List.getElem?_eq_getElem j1) (List.getElem?_eq_getElem jk)
  have q2 := tp3.2 j _ _ (List.getElem?_eq_getElem j2) (List.getElem?_eq_getElem jk)
  refine .tup (xs := (ks.map (modeV S1))[j]) ?_ ?_ ?_
  · rw [(ots2 _ (List.getElem_mem j1)).get]; exact q1
  · rw [(of3 _ (List.getElem_mem j2)).get]; exact q2
  · rw [List.getElem_map]
    intro y hy
    unfold modeV at hy
    simp only [List.mem_cons, List.not_mem_nil, or_false] at hy
    rcases hy with rfl | rfl <;> trivial
end Mine
end

section
open PySem PySem.W PySem.Calls PyProof.Rows
namespace Mine

theorem exec_len (m : Mac) (r : Row) : (exec1 m r).1.length + (exec1 m r).2.length ≤ m.1.length + m.2.length + 1 := by
  unfold exec1
  split
  · have := putAt_len (xs := m.2) (k := r.c) (v := (keyAt m.1 r.a).getD .none); simp only; omega
  · split
    · have := putAt_len (xs := m.1) (k := r.a) (v := (keyAt m.2 r.c).getD .none); simp only; omega
    · have := putAt_len (xs := m.1) (k := r.a) (v := .int r.c); simp only; omega
theorem run_len : ∀ (rs : List Row) (m : Mac), (runRows rs m).1.length + (runRows rs m).2.length ≤ m.1.length + m.2.length + rs.length
  | [], m => Nat.le_refl _
  | r :: rs, m => by
    have h1 := run_len rs (exec1 m r)
    have h2 := exec_len m r
    show (runRows rs (exec1 m r)).1.length + (runRows rs (exec1 m r)).2.length ≤ _
    rw [List.length_cons]; omega
/-- the machine stands where its rows have led it -/
structure MaOk (S : St) (V : LV) : Prop where
  lo : 0 ≤ V.at_
  hi : V.at_ ≤ S.rows.length
  run : (V.R, V.W) = runRows (S.rows.take V.at_.toNat) ([], [])
theorem MaOk.end_ {S : St} {V : LV} {R' W' : List (Int × AV)} (h : MaOk S V) (e : (R', W') = runRows (S.rows.drop V.at_.toNat) (V.R, V.W)) : (R', W') = Mx S := by
  rw [e, h.run, ← runRows_app, List.take_append_drop]; rfl
theorem MaOk.len {S : St} {V : LV} (h : MaOk S V) : V.R.length + V.W.length ≤ S.rows.length := by
  have h1 := run_len (S.rows.take V.at_.toNat) ([], [])
  rw [← h.run] at h1
  have h2 : (S.rows.take V.at_.toNat).length ≤ S.rows.length := List.length_take_le' _ _
  simp only [List.length_nil] at h1
  omega
theorem MaOk.app {S S' : St} {V : LV} {new : List Row} (h : MaOk S V) (e : S'.rows = S.rows ++ new) : MaOk S' V := by
  have h1 := h.lo
  have h2 := h.hi
  refine ⟨h1, by rw [e, List.length_append]; omega, ?_⟩
  rw [e, List.take_append_of_le_length (by omega)]; exact h.run
theorem MaOk.all {S : St} {V : LV} {R' W' : List (Int × AV)} (e : (R', W') = Mx S) : MaOk S { V with at_ := S.rows.length, R := R', W := W' } :=
  ⟨by show (0 : Int) ≤ S.rows.length; omega, Int.le_refl _, by
    show (R', W') = runRows (S.rows.take (S.rows.length : Int).toNat) ([], [])
    rw [Int.toNat_natCast, List.take_length]; exact e⟩
noncomputable def pv (k : Str × Int) : List AV := [.str k.1, .int k.2]
theorem Tups.at {ρ : Hp} {ts : List Addr} {ks : List (Str × Int)} (h : Tups ρ ts (ks.map pv)) {i : Nat} (hi : i < ts.length) (hk : i < ks.length) : ρ ts[i] = some (.tup (pv ks[i])) := by
  refine h.2 i _ _ (List.getElem?_eq_getElem hi) ?_
  rw [List.getElem?_map, List.getElem?_eq_getElem hk]; rfl
structure AR (A : Ad) (B : Nat → Addr) (top : Int) (pl : Addr) (μ : Loc) : Prop where
  ma : HasL μ "machine" (.ref (B 2))
  co : HasL μ "coder" (.ref (A.at_ 0))
  wo : HasL μ "words" (.ref (B 6))
  cn : HasL μ "count" (.int A.count)
  tp : HasL μ "top" (.int top)
  pl : HasL μ "places" (.ref pl)
theorem AR.upd {A : Ad} {B : Nat → Addr} {top : Int} {pl : Addr} {μ : Loc} {x : Str} {v : AV} (f : AR A B top pl μ) (h : "machine" ≠ x ∧ "coder" ≠ x ∧ "words" ≠ x ∧ "count" ≠ x ∧ "top" ≠ x ∧ "places" ≠ x := by decide) : AR A B top pl (upd x v μ) :=
  ⟨upd_ne f.ma h.1, upd_ne f.co h.2.1, upd_ne f.wo h.2.2.1, upd_ne f.cn h.2.2.2.1, upd_ne f.tp h.2.2.2.2.1, upd_ne f.pl h.2.2.2.2.2⟩

variable {G : Gx} (hK : KG G) {A : Ad} {rt : List Addr} {S : St} {B : Nat → Addr} {V : LV} {T : Live} {n : Nat} {Q : AV → Hp → Prop} {ρ : Hp}
/-- the heap between the turns that lay the places -/
structure PI (A : Ad) (rt : List Addr) (S : St) (ρ0 : Hp) (pl : Addr) (ks : List (Str × Int)) (ts : List Addr) (ρ' : Hp) : Prop where
  sp : Sup ρ0 ρ'
  pl : ρ' pl = some (.list (ts.map .ref))
  tp : Tups ρ' ts (ks.map pv)
  of : ∀ t ∈ ts, Off A rt S t
theorem PI.more {ρ0 ρ' : Hp} {pl : Addr} {ks : List (Str × Int)} {ts : List Addr} {t : Addr} {o : AObj} (p : PI A rt S ρ0 pl ks ts ρ') (ht : ρ' t = none) : PI A rt S ρ0 pl ks ts (ρ'.set t o) :=
  ⟨p.sp.trans (Sup.set ht), Sup.set ht _ _ p.pl, p.tp.sup (Sup.set ht), p.of⟩
theorem PI.app {ρ0 ρ' : Hp} {pl : Addr} {ks : List (Str × Int)} {ts : List Addr} {t : Addr} {k : Str × Int} (p : PI A rt S ρ0 pl ks ts ρ') (h0 : ρ0 pl = none) (ht : ρ' t = none) (ot : Off A rt S t) :
    PI A rt S ρ0 pl (ks ++ [k]) (ts ++ [t]) ((ρ'.set t (.tup (pv k))).set pl (.list (ts.map .ref ++ [.ref t]))) := by
  refine ⟨(p.sp.trans (Sup.set ht)).setN h0, ?_, ?_, fun u hu => ?_⟩
  · rw [Hp.set_self]; simp
  · rw [List.map_append]
    exact (p.tp.snoc ht).setL (Sup.set ht _ _ p.pl)
  · rcases List.mem_append.mp hu with hu | hu
    · exact p.of u hu
    · cases List.mem_singleton.mp hu; exact ot
theorem lenN {xs : List Addr} {i : Nat} (h : i < xs.length) : xs.drop i = xs[i] :: xs.drop (i + 1) := List.drop_eq_getElem_cons h

include hK
set_option maxHeartbeats 4000000 in
theorem F_allRight {top : Int} (l : LW A rt S B T) (I : Inv A.count top S (T.map (·.2)) V.words) (hz : Sz S) (ma : MaOk S V) (hT : T.length ≤ 60) (hw : V.words.length ≤ 50000) (hout : IntMulOk 4 S.out)
    (h : ∀ R' W', (R', W') = Mx S → Q (.bool true) (canon A rt S (lcan B { V with at_ := S.rows.length, R := R', W := W' } T))) :
    Fn G (n + 3) 438 [.ref (A.at_ 0), .ref (B 2), .ref (B 5), .ref (B 6), .int A.count, .int top] (canon A rt S (lcan B V T)) Q := by
  refine' enter hK.f438 [("coder", .ref (A.at_ 0)), ("machine", .ref (B 2)), ("live", .ref (B 5)), ("words", .ref (B 6)), ("count", .int A.count), ("top", .int top)] ?he ?hbx ?hm ?_
  case he => rfl
  case hbx => rfl
  case hm => rfl
  intro cdv
  intro c hcn
  have hn : n + 2 ≤ c.n := Nat.le_of_eq hcn.symm
  have w := l.w
  have hcnt : S.own.length + S.spilled.length = T.length := by have := I.cnt; rwa [List.length_map] at this
  have hml := ma.len
  have hzr := hz.rows
  refine S_cons <| S_If <| T_Not <| T_val <| E_Call1 <| E_glob (n_follow hK).1 rfl <| EVs_cons <| E_loc rfl <| EVs_cons <| E_loc rfl <| EVs_nil ⟨.inl (n_follow hK).2, C_fn hn <| F_follow hK (n := n + 1) l ma.lo ma.hi I.rows (by omega) fun R' W' e hlen => T_bool ?_⟩
  have eM := ma.end_ e
  have hh := h R' W' eM
  have e2 := lcan_at (V := { V with at_ := S.rows.length, R := R', W := W' }) l 2
  have e3 : lcan B { V with at_ := S.rows.length, R := R', W := W' } T (B 3) = some (.idict R') := lcan_at l 3
  have e4 : lcan B { V with at_ := S.rows.length, R := R', W := W' } T (B 4) = some (.idict W') := lcan_at l 4
  have e5 : lcan B { V with at_ := S.rows.length, R := R', W := W' } T (B 5) = some (.list (T.map fun e => .ref e.1)) := lcan_at l 5
  have e6 : lcan B { V with at_ := S.rows.length, R := R', W := W' } T (B 6) = some (.list (V.words.map .int)) := lcan_at l 6
  have eT : ∀ e ∈ T, lcan B { V with at_ := S.rows.length, R := R', W := W' } T e.1 = some (entO e.2) := fun e he => lcan_ent l he
  have e2 : lcan B { V with at_ := S.rows.length, R := R', W := W' } T (B 2) = some (.sdict [("at", .int S.rows.length), ("regs", .ref (B 3)), ("words", .ref (B 4))]) := e2
  have g : ∀ {ρ' : Hp} {i : Nat}, i < 9 → canon A rt S ρ' (B i) = ρ' (B i) := fun hi => (l.ob _ hi).get
  generalize lcan B { V with at_ := S.rows.length, R := R', W := W' } T = ρ0 at *
  refine S_nil <| S_cons <| S_AssignName <| E_List <| EVs_nil ⟨by simp, fun pl hpl => ?_⟩
  obtain ⟨opl, h0⟩ := Off.of_none hpl
  rw [opl.set]
  have gpl : ∀ {ρ' : Hp}, canon A rt S ρ' pl = ρ' pl := opl.get
  have pi0 : PI A rt S ρ0 pl [] [] (ρ0.set pl (.list [])) := ⟨Sup.set h0, Hp.set_self _ _ _, Tups.nil, fun _ z => (nomatch z)⟩
  -- the live ones
  refine S_cons <| S_ForList <| E_loc rfl ⟨B 5, T.map fun e => .ref e.1, fun r μ σ => ∃ ρ' ts rs done, r = rs.map (fun e => AV.ref e.1) ∧ T = done ++ rs ∧ σ = canon A rt S ρ' ∧ PI A rt S ρ0 pl (done.map fun e => plc S e.2.1) ts ρ' ∧ AR A B top pl μ, rfl,
    ⟨_, [], T, [], rfl, rfl, rfl, pi0, ⟨rfl, rfl, rfl, rfl, rfl, rfl⟩⟩, ?_, ?_, ?_⟩
  · rintro r μ σ ⟨ρ', ts, rs, done, -, -, rfl, p, -⟩
    rw [g (by decide)]; exact p.sp _ _ e5
  · rintro b hb x r μ σ ⟨ρ', ts, rs, done, q1, q2, rfl, p, f⟩
    cases rs with
    | nil => cases q1
    | cons e rs =>
      cases q1
      have he : e ∈ T := by rw [q2]; simp
      have heL : e.2 ∈ T.map (·.2) := List.mem_map_of_mem he
      obtain ⟨i, hi⟩ := I.it (a := e.2.1) (List.mem_map.mpr ⟨e.2, heL, rfl⟩)
      have ets : ts.length ≤ 60 := by have h1 := p.tp.1; rw [h1, List.length_map, List.length_map]; rw [q2, List.length_append] at hT; omega
      refine ⟨.inr ⟨_, _, _, _, rfl, rfl⟩, A_Tuple (ns := [(_, _), (_, _)]) (by rw [(l.ot e he).get]; exact p.sp _ _ (eT e he)) rfl (by simp) (fun p hp => by simp only [List.mem_cons, List.not_mem_nil, or_false] at hp; rcases hp with rfl | rfl <;> rfl) ?_⟩
      show SV _ _ (upd "value" (.int e.2.2) (upd "item" (.ref e.2.1) μ)) _ _
      have f1 : AR A B top pl (upd "value" (.int e.2.2) (upd "item" (.ref e.2.1) μ)) := f.upd.upd
      have v1 : HasL (upd "value" (.int e.2.2) (upd "item" (.ref e.2.1) μ)) "item" (.ref e.2.1) := upd_ne (upd_self _ _ _) (by decide)
      have v2 : HasL (upd "value" (.int e.2.2) (upd "item" (.ref e.2.1) μ)) "value" (.int e.2.2) := upd_self _ _ _
      generalize upd "value" (.int e.2.2) (upd "item" (.ref e.2.1) μ) = μ1 at *
      refine S_cons <| S_AssignTuple <| E_Call1 <| E_glob (n_place hK).1 rfl <| EVs_cons <| E_loc v1 <| EVs_nil ⟨.inl (n_place hK).2, C_fn (n := n + 2) (c := c.rebase b hb) hn <| F_place hK (n := n + 1) w hi fun t ht => ?_⟩
      obtain ⟨ot, hρt⟩ := Off.of_none ht
      rw [ot.set]
      have p1 := p.more (o := .tup [.str (plc S e.2.1).1, .int (plc S e.2.1).2]) hρt
      have et : (ρ'.set t (.tup [.str (plc S e.2.1).1, .int (plc S e.2.1).2])) t = some (.tup [.str (plc S e.2.1).1, .int (plc S e.2.1).2]) := Hp.set_self _ _ _
      generalize ρ'.set t (.tup [.str (plc S e.2.1).1, .int (plc S e.2.1).2]) = ρ1 at *
      refine A_Tuple (ns := [(_, _), (_, _)]) (by rw [ot.get]; exact et) rfl (by simp) (fun p hp => by simp only [List.mem_cons, List.not_mem_nil, or_false] at hp; rcases hp with rfl | rfl <;> rfl) ?_
      show SV _ _ (upd "where" (.int (plc S e.2.1).2) (upd "kind" (.str (plc S e.2.1).1) μ1)) _ _
      have f2 : AR A B top pl (upd "where" (.int (plc S e.2.1).2) (upd "kind" (.str (plc S e.2.1).1) μ1)) := f1.upd.upd
      have u1 : HasL (upd "where" (.int (plc S e.2.1).2) (upd "kind" (.str (plc S e.2.1).1) μ1)) "kind" (.str (plc S e.2.1).1) := upd_ne (upd_self _ _ _) (by decide)
      have u2 : HasL (upd "where" (.int (plc S e.2.1).2) (upd "kind" (.str (plc S e.2.1).1) μ1)) "where" (.int (plc S e.2.1).2) := upd_self _ _ _
      have u3 : HasL (upd "where" (.int (plc S e.2.1).2) (upd "kind" (.str (plc S e.2.1).1) μ1)) "value" (.int e.2.2) := upd_ne (upd_ne v2 (by decide)) (by decide)
      generalize upd "where" (.int (plc S e.2.1).2) (upd "kind" (.str (plc S e.2.1).1) μ1) = μ2 at *
      have last : ∀ t2, canon A rt S ρ1 t2 = none → AR A B top pl μ2 ∧ ∃ ρ' ts' rs' done', rs.map (fun e => AV.ref e.1) = rs'.map (fun e => AV.ref e.1) ∧ T = done' ++ rs' ∧ ((canon A rt S ρ1).set t2 (.tup (pv (plc S e.2.1)))).set pl (.list (ts.map .ref ++ [.ref t2])) = canon A rt S ρ' ∧ PI A rt S ρ0 pl (done'.map fun e => plc S e.2.1) ts' ρ' ∧ AR A B top pl μ2 := fun t2 ht2 => by
        obtain ⟨ot2, hρt2⟩ := Off.of_none ht2
        refine ⟨f2, (ρ1.set t2 (.tup (pv (plc S e.2.1)))).set pl (.list (ts.map .ref ++ [.ref t2])), ts ++ [t2], rs, done ++ [e], rfl, by rw [q2]; simp, ?_, ?_, f2⟩
        · rw [ot2.set, opl.set]
        · have := p1.app (k := plc S e.2.1) h0 hρt2 ot2
          rw [List.map_append]; exact this
      rcases plc_live I heL with ⟨r, k1, k2, k3⟩ | ⟨r, k1, k2, k3⟩
      · have hrg := I.rng _ k2
        have hg0 : (0 : Int) ≤ r ∧ r < A.count := hrg
        have hkR : keyAt R' r = some (.int e.2.2) := by rw [← eM] at k3; exact k3
        rw [k1] at u1 u2
        refine S_cons <| S_If <| T_And2 <| T_Compare <| E_loc u1 <| E_str <| O_eq_str <| T_bool ?_
        rw [show (rgS == ("reg" : Str)) = true from by decide]
        refine T_Not <| T_And3 <| T_Compare <| E_int <| E_loc u2 <| O_le <| T_bool ?_
        rw [decide_eq_true hg0.1]
        refine T_Compare <| E_loc u2 <| E_loc f2.cn <| O_lt <| T_bool ?_
        rw [decide_eq_true hg0.2]
        refine T_Compare <| E_Meth1 <| E_Sub <| E_loc f2.ma <| E_str <| I_sdict (by rw [g (by decide)]; exact p1.sp _ _ e2) rfl <| M_dict (o := .idict R') (by rw [g (by decide)]; exact p1.sp _ _ e3) (.inl ⟨_, rfl⟩) PySem.F.slot_dict_get rfl <| EVs_cons <| E_loc u2 <| EVs_nil ⟨trivial, C_get (xs := R') (by rw [g (by decide)]; exact p1.sp _ _ e3) ?_⟩
        rw [hkR]
        refine E_loc u3 <| O_eq <| T_bool ?_
        rw [beq_self_eq_true]
        refine S_nil <| S_cons <| S_If <| T_And2 <| T_Compare <| E_loc u1 <| E_str <| O_eq_str <| T_bool ?_
        rw [show (rgS == ("word" : Str)) = false from by decide]
        rw [k1] at last
        refine S_nil <| S_cons <| S_Expr <| E_Meth1 <| E_loc f2.pl <| M_list (xs := ts.map .ref) (by rw [gpl]; exact p1.pl) PySem.slot_list_append rfl <| EVs_cons <| E_Tuple <| EVs_cons <| E_loc u1 <| EVs_cons <| E_loc u2 <| EVs_nil ⟨by simp, fun t2 ht2 => EVs_nil ⟨trivial, C_append (xs := ts.map .ref) (Sup.set ht2 _ _ (by rw [gpl]; exact p1.pl)) (by simp; omega) ⟨trivial, S_nil ?_⟩⟩⟩
        exact (last t2 ht2).2
      · have hkW : keyAt W' r = some (.int e.2.2) := by rw [← eM] at k3; exact k3
        rw [k1] at u1 u2
        refine S_cons <| S_If <| T_And2 <| T_Compare <| E_loc u1 <| E_str <| O_eq_str <| T_bool ?_
        rw [show (wdS == ("reg" : Str)) = false from by decide]
        refine S_nil <| S_cons <| S_If <| T_And2 <| T_Compare <| E_loc u1 <| E_str <| O_eq_str <| T_bool ?_
        rw [show (wdS == ("word" : Str)) = true from by decide]
        refine T_Compare <| E_Meth1 <| E_Sub <| E_loc f2.ma <| E_str <| I_sdict (by rw [g (by decide)]; exact p1.sp _ _ e2) rfl <| M_dict (o := .idict W') (by rw [g (by decide)]; exact p1.sp _ _ e4) (.inl ⟨_, rfl⟩) PySem.F.slot_dict_get rfl <| EVs_cons <| E_loc u2 <| EVs_nil ⟨trivial, C_get (xs := W') (by rw [g (by decide)]; exact p1.sp _ _ e4) ?_⟩
        rw [hkW]
        refine E_loc u3 <| O_ne <| T_bool ?_
        rw [bne_self_eq_false]
        rw [k1] at last
        refine S_nil <| S_cons <| S_Expr <| E_Meth1 <| E_loc f2.pl <| M_list (xs := ts.map .ref) (by rw [gpl]; exact p1.pl) PySem.slot_list_append rfl <| EVs_cons <| E_Tuple <| EVs_cons <| E_loc u1 <| EVs_cons <| E_loc u2 <| EVs_nil ⟨by simp, fun t2 ht2 => EVs_nil ⟨trivial, C_append (xs := ts.map .ref) (Sup.set ht2 _ _ (by rw [gpl]; exact p1.pl)) (by simp; omega) ⟨trivial, S_nil ?_⟩⟩⟩
        exact (last t2 ht2).2
  rintro μ σ ⟨ρ', ts, rs, done, q1, q2, rfl, p, f⟩
  cases rs with
  | cons _ _ => cases q1
  | nil =>
  rw [List.append_nil] at q2
  subst q2
  have ets : ts.length = T.length := by have h1 := p.tp.1; rwa [List.length_map, List.length_map] at h1
  -- the words
  refine S_cons <| S_ForList <| E_loc f.wo ⟨B 6, V.words.map .int, fun r μ σ => ∃ ρ' ts rs done, r = rs.map AV.int ∧ V.words = done ++ rs ∧ σ = canon A rt S ρ' ∧ PI A rt S ρ0 pl ((T.map fun e => plc S e.2.1) ++ done.map wplc) ts ρ' ∧ AR A B top pl μ, rfl,
    ⟨ρ', ts, V.words, [], rfl, rfl, rfl, by rw [List.map_nil, List.append_nil]; exact p, f⟩, ?_, ?_, ?_⟩
  · rintro r μ σ ⟨ρ', ts, rs, done, -, -, rfl, p, -⟩
    rw [g (by decide)]; exact p.sp _ _ e6
  · rintro b hb x r μ σ ⟨ρ', ts, rs, done, q1, q2, rfl, p, f⟩
    cases rs with
    | nil => cases q1
    | cons x rs =>
      cases q1
      have ets : ts.length ≤ 60000 := by have h1 := p.tp.1; rw [h1, List.length_map, List.length_append, List.length_map, List.length_map]; rw [q2, List.length_append] at hw; omega
      refine ⟨.inl ⟨_, _, rfl⟩, fun v hv => A_Name hv ?_⟩
      refine S_cons <| S_Expr <| E_Meth1 <| E_loc f.upd.pl <| M_list (xs := ts.map .ref) (by rw [gpl]; exact p.pl) PySem.slot_list_append rfl <| EVs_cons <| E_Tuple <| EVs_cons <| E_str <| EVs_cons <| E_loc (upd_self _ _ _) <| EVs_nil ⟨by simp, fun t2 ht2 => EVs_nil ⟨trivial, C_append (xs := ts.map .ref) (Sup.set ht2 _ _ (by rw [gpl]; exact p.pl)) (by simp; omega) ⟨trivial, S_nil ?_⟩⟩⟩
      obtain ⟨ot2, hρt2⟩ := Off.of_none ht2
      refine ⟨(ρ'.set t2 (.tup (pv (wplc x)))).set pl (.list (ts.map .ref ++ [.ref t2])), ts ++ [t2], rs, done ++ [x], rfl, by rw [q2]; simp, ?_, ?_, f.upd⟩
      rotate_left
      · have := p.app (k := wplc x) h0 hρt2 ot2
        rw [List.map_append, ← List.append_assoc]; exact this
      · rw [ot2.set, opl.set]; rfl
  rintro μ σ ⟨ρ', ts, rs, done, q1, q2, rfl, p, f⟩
  cases rs with
  | cons _ _ => cases q1
  | nil =>
  rw [List.append_nil] at q2
  subst q2
  have eks : (T.map fun e => plc S e.2.1) ++ V.words.map wplc = placesOf S (T.map (·.2)) V.words := by unfold placesOf; rw [List.map_map]; rfl
  rw [eks] at p
  have nd := places_nd I
  have pw := fun w hw => places_word I (w := w) hw
  have pk := fun k hk => places_kind I (k := k) hk
  have pr := places_regs I
  have lks : (placesOf S (T.map (·.2)) V.words).length ≤ 60000 := by unfold placesOf; rw [List.length_append, List.length_map, List.length_map, List.length_map]; omega
  generalize placesOf S (T.map (·.2)) V.words = ks at *
  have ets : ts.length = ks.length := by have h1 := p.tp.1; rwa [List.length_map] at h1
  have tupAt : ∀ {i : Nat} (hi : i < ts.length), canon A rt S ρ' ts[i] = some (.tup (pv (ks[i]'(by omega)))) := fun {i} hi => by
    rw [(p.of _ (List.getElem_mem hi)).get]; exact p.tp.at hi (by omega)
  -- the places
  refine S_cons <| S_ForList <| E_loc f.pl ⟨pl, ts.map .ref, fun r μ σ => ∃ i, i ≤ ts.length ∧ r = (ts.drop i).map AV.ref ∧ σ = canon A rt S ρ' ∧ AR A B top pl μ, rfl, ⟨0, Nat.zero_le _, rfl, rfl, f⟩, ?_, ?_, ?_⟩
  · rintro r μ σ ⟨i, -, -, rfl, -⟩
    rw [gpl]; exact p.pl
  · rintro b hb x r μ σ ⟨i, hi, q1, rfl, f⟩
    rcases Nat.lt_or_ge i ts.length with hlt | hge
    rotate_left
    · rw [List.drop_of_length_le hge] at q1; cases q1
    rw [lenN hlt] at q1
    cases q1
    have hk : ks[i]'(by omega) ∈ ks := List.getElem_mem _
    have et := tupAt hlt
    generalize ks[i]'(by omega) = k at *
    refine ⟨.inr ⟨_, _, _, _, rfl, rfl⟩, A_Tuple (ns := [(_, _), (_, _)]) et rfl (by simp [pv]) (fun p hp => by simp only [List.mem_cons, List.not_mem_nil, or_false] at hp; rcases hp with rfl | rfl <;> rfl) ?_⟩
    show SV _ _ (upd "where" (.int k.2) (upd "kind" (.str k.1) μ)) _ _
    have f2 : AR A B top pl (upd "where" (.int k.2) (upd "kind" (.str k.1) μ)) := f.upd.upd
    have u1 : HasL (upd "where" (.int k.2) (upd "kind" (.str k.1) μ)) "kind" (.str k.1) := upd_ne (upd_self _ _ _) (by decide)
    have u2 : HasL (upd "where" (.int k.2) (upd "kind" (.str k.1) μ)) "where" (.int k.2) := upd_self _ _ _
    generalize upd "where" (.int k.2) (upd "kind" (.str k.1) μ) = μ2 at *
    refine S_cons <| S_If <| T_And2 <| T_Compare <| E_loc u1 <| E_str <| O_eq_str <| T_bool ?_
    obtain ⟨k1, k2⟩ := k
    rcases pk _ hk with z | z
    · have z : k1 = rgS := z
      subst z
      rw [show (rgS == ("word" : Str)) = false from by decide]
      exact S_nil <| S_nil ⟨i + 1, hlt, rfl, rfl, f2⟩
    · have z : k1 = wdS := z
      subst z
      obtain ⟨b1, b2, b3⟩ := pw _ hk
      rw [show (wdS == ("word" : Str)) = true from by decide]
      refine T_Or3 <| T_Compare <| E_loc u2 <| E_loc f2.tp <| O_ge <| T_bool ?_
      rw [decide_eq_false (by show ¬ top ≤ k2; omega)]
      refine T_Compare <| E_BinOp <| E_loc u2 <| E_int <| O_mod (by decide) <| E_int <| O_ne <| T_bool ?_
      rw [show ((k2.fmod 4) != 0) = false by rw [Int.fmod_eq_emod_of_nonneg _ (by decide), b3]; rfl]
      refine T_Compare <| E_Meth0 <| E_loc f2.co <| M_cls (canon_at w 0) (mc_frame_size hK).fi (mc_frame_size hK).fn ⟨.inl (mc_frame_size hK).kp, C_fn (n := n + 2) (c := c.rebase b hb) hn <| F_frame hK (n := n + 1) w ?_ hout⟩
      refine E_BinOp <| E_BinOp <| E_int <| E_Attr <| E_loc f2.co <| R_coder w "out_words" rfl <| O_mul hout <| E_loc u2 <| O_sub <| O_lt <| T_bool ?_
      rw [decide_eq_false (by show ¬ 4 * S.out - S.lowest < 4 * S.out - k2; omega)]
      exact S_nil <| S_nil ⟨i + 1, hlt, rfl, rfl, f2⟩
  rintro μ σ ⟨i, -, -, rfl, f⟩
  -- what is held
  have wit : ∀ p ∈ S.own, ∃ j, S.items p.2 = some j ∧ j.reg = p.1 := fun p hp => let ⟨_, j, h1, h2, _⟩ := I.own p hp; ⟨j, h1, h2⟩
  have hzo := hz.own
  refine S_cons <| S_AssignComp (by rfl) (E_Meth0 <| E_Attr <| E_loc f.co <| R_coder w "pool" rfl <| M_cls (canon_at w 3) (mp_held hK).fi (mp_held hK).fn ⟨.inl (mp_held hK).kp, C_fn hn <| F_held hK (n := n + 1) w I.ord I.nd hz.own fun hl hhl => ?_⟩) (by decide) (by decide) (by decide)
  obtain ⟨ohl, hρhl⟩ := Off.of_none hhl
  rw [ohl.set]
  have spH : Sup ρ' (ρ'.set hl (.list (S.own.map fun p => .ref p.2))) := Sup.set hρhl
  refine .inl ⟨hl, S.own.map fun p => .ref p.2, fun r acc σ => ∃ rs done, S.own = done ++ rs ∧ r = rs.map (fun p => AV.ref p.2) ∧ acc = done.map (fun p => AV.int p.1) ∧ σ = canon A rt S (ρ'.set hl (.list (S.own.map fun p => .ref p.2))), rfl, ⟨S.own, [], rfl, rfl, rfl, rfl⟩, ?_, by simp; omega, ?_, ?_⟩
  · rintro r acc σ ⟨rs, done, -, -, -, rfl⟩
    rw [ohl.get]; exact Hp.set_self _ _ _
  · rintro c' hn' hb x r acc μ σ hlen ⟨rs, done, q1, q2, q3, rfl⟩
    cases rs with
    | nil => cases q2
    | cons p rs =>
      cases q2
      obtain ⟨j, hj, hjr⟩ := wit p (by rw [q1]; simp)
      refine ⟨.inl ⟨_, _, rfl⟩, fun v hv => A_Name hv ?_⟩
      refine E_Attr <| E_loc (upd_self _ _ _) <| R_item w hj rfl ?_
      exact ⟨rs, done ++ [p], by rw [q1]; simp, rfl, by rw [q3, hjr]; simp, rfl⟩
  rintro acc σ ⟨rs, done, q1, q2, q3, rfl⟩ held hheld
  cases rs with
  | cons _ _ => cases q2
  | nil =>
  rw [List.append_nil] at q1
  subst q1
  subst q3
  obtain ⟨oheld, hρheld⟩ := Off.of_none hheld
  rw [oheld.set]
  have spE := spH.trans (Sup.set (o := .list (S.own.map fun p => AV.int p.1)) hρheld)
  have eheld : ((ρ'.set hl (.list (S.own.map fun p => .ref p.2))).set held (.list (S.own.map fun p => AV.int p.1))) held = some (.list (S.own.map fun p => AV.int p.1)) := Hp.set_self _ _ _
  generalize (ρ'.set hl (.list (S.own.map fun p => .ref p.2))).set held (.list (S.own.map fun p => AV.int p.1)) = ρ2 at *
  have f3 : AR A B top pl (upd "held" (.ref held) μ) := f.upd
  have uh : HasL (upd "held" (.ref held) μ) "held" (.ref held) := upd_self _ _ _
  generalize upd "held" (.ref held) μ = μ3 at *
  have epl : canon A rt S ρ2 pl = some (.list (ts.map .ref)) := by rw [gpl]; exact spE _ _ p.pl
  have tupAt2 : ∀ {i : Nat} (hi : i < ts.length), canon A rt S ρ2 ts[i] = some (.tup (pv (ks[i]'(by omega)))) := fun {i} hi => by
    rw [(p.of _ (List.getElem_mem hi)).get]; exact spE _ _ (p.tp.at hi (by omega))
  refine S_cons <| S_Return <| EV.sup <| E_And2 <| E_Compare <| E_Call1 <| E_built (n_len hK) rfl rfl <| EVs_cons <| E_loc f3.pl <| EVs_nil ⟨trivial, C_len epl (E_Call1 <| E_built (n_len hK) rfl rfl <| EVs_cons <| E_DictCompT (E_loc f3.pl ⟨pl, ts, ks, rfl, epl, ⟨ets, fun j t k h1 h2 => ?_⟩, nd, by omega, fun d hd => EVs_nil ⟨trivial, C_lent (Hp.set_self _ _ _) (O_eq <| T_bool ?_) (by omega)⟩⟩) rfl (by decide) (by decide) rfl) (by simp; omega)⟩
  · have hj : j < ts.length := by
      rcases Nat.lt_or_ge j ts.length with q | q
      · exact q
      · rw [List.getElem?_eq_none q] at h1; cases h1
    have := tupAt2 hj
    rw [List.getElem?_eq_getElem hj] at h1
    rw [List.getElem?_eq_getElem (by omega)] at h2
    cases h1; cases h2
    exact this
  rw [show (((ts.map AV.ref).length : Nat) : Int) = (ks.length : Int) by rw [List.length_map, ets], beq_self_eq_true]
  have spD : Sup (canon A rt S ρ2) ((canon A rt S ρ2).set d (.tdict ks.length)) := Sup.set hd
  generalize (canon A rt S ρ2).set d (.tdict ks.length) = σD at *
  have eheld2 : σD held = some (.list ((S.own.map (·.1)).map .int)) := spD _ _ (by rw [oheld.get, eheld, List.map_map]; rfl)
  refine E_Compare <| E_Call1 <| E_built (n_sorted hK) rfl rfl <| EVs_cons <| E_loc uh <| EVs_nil ⟨trivial, C_sorted (ys := S.own.map (·.1)) eheld2 (by rw [List.length_map]; omega) fun s1 hs1 => ?_⟩
  have sp1 : Sup σD (σD.set s1 (.list ((S.own.map (·.1)).mergeSort.map .int))) := Sup.set hs1
  have es1 : (σD.set s1 (.list ((S.own.map (·.1)).mergeSort.map .int))) s1 = some (.list ((S.own.map (·.1)).mergeSort.map .int)) := Hp.set_self _ _ _
  generalize σD.set s1 (.list ((S.own.map (·.1)).mergeSort.map .int)) = σE at *
  refine E_Call1 <| E_built (n_sorted hK) rfl rfl <| EVs_cons <| E_ListComp (E_loc f3.pl <| .inl ⟨pl, ts.map .ref, fun r acc σ => ∃ i, i ≤ ts.length ∧ r = (ts.drop i).map AV.ref ∧ acc = (((ks.take i).filter fun k => k.1 == rgS).map (·.2)).map AV.int ∧ σ = σE, rfl, ⟨0, Nat.zero_le _, rfl, by simp, rfl⟩, ?_, by simp; omega, ?_, ?_⟩) (by decide) (by decide) (by decide)
  · rintro r acc σ ⟨i, -, -, -, rfl⟩
    exact sp1 _ _ (spD _ _ epl)
  · rintro c' hn' hb x r acc μ σ hlen ⟨i, hi, q1, q2, rfl⟩
    rcases Nat.lt_or_ge i ts.length with hlt | hge
    rotate_left
    · rw [List.drop_of_length_le hge] at q1; cases q1
    rw [lenN hlt] at q1
    cases q1
    have et := sp1 _ _ (spD _ _ (tupAt2 hlt))
    have htk : ks.take (i + 1) = ks.take i ++ [ks[i]'(by omega)] := List.take_succ_eq_append_getElem (by omega)
    generalize ks[i]'(by omega) = k at *
    refine ⟨.inr ⟨_, _, _, _, rfl, rfl⟩, A_Tuple (ns := [(_, _), (_, _)]) et rfl (by simp [pv]) (fun p hp => by simp only [List.mem_cons, List.not_mem_nil, or_false] at hp; rcases hp with rfl | rfl <;> rfl) ?_⟩
    show Tests _ _ _ (upd "where" (.int k.2) (upd "kind" (.str k.1) μ)) _ _
    show TV _ _ _ _ _ _
    refine T_Compare <| E_loc (upd_ne (upd_self _ _ _) (by decide)) <| E_str <| O_eq_str <| T_bool ?_
    cases z : (k.1 == ("reg" : Str)) with
    | true =>
      refine E_loc (upd_self _ _ _) ⟨i + 1, hlt, rfl, ?_, rfl⟩
      have z' : (k.1 == rgS) = true := z
      rw [htk, List.filter_append, List.filter_cons, z', q2]; simp
    | false =>
      refine ⟨i + 1, hlt, rfl, ?_, rfl⟩
      have z' : (k.1 == rgS) = false := z
      rw [htk, List.filter_append, List.filter_cons, z', q2]; simp
  rintro acc σ ⟨i, hi, q1, q2, rfl⟩ s2 hs2
  have hi' : i = ts.length := by
    rcases Nat.lt_or_ge i ts.length with hlt | hge
    · rw [lenN hlt] at q1; cases q1
    · omega
  rw [hi', ets, List.take_length] at q2
  rw [q2]
  have hlen2 : ((ks.filter fun k => k.1 == rgS).map (·.2)).length < 64 := by
    rw [← pr.length_eq, List.length_map]; omega
  refine EVs_nil ⟨trivial, C_sorted (ys := (ks.filter fun k => k.1 == rgS).map (·.2)) (Hp.set_self _ _ _) hlen2 fun s3 hs3 => ?_⟩
  obtain ⟨n1, n2⟩ := Hp.set_none hs3
  have ne1 : s1 ≠ s2 := fun e => by rw [e, hs2] at es1; cases es1
  have ne2 : s1 ≠ s3 := fun e => by rw [e, n2] at es1; cases es1
  refine O_eqInts (xs := (S.own.map (·.1)).mergeSort) (ys := ((ks.filter fun k => k.1 == rgS).map (·.2)).mergeSort) (by rw [Hp.set_ne ne2, Hp.set_ne ne1]; exact es1) (Hp.set_self _ _ _) ?_
  rw [decide_eq_true (merge_perm pr)]
  exact ⟨_, (((canon_sup (p.sp.trans spE)).trans spD).trans sp1).trans ((Sup.set hs2).trans (Sup.set hs3)), hh⟩
end Mine
end

section
open PySem PySem.W PySem.Calls PyProof.Rows
namespace Mine

/-! the state between two deeds of the law -/
structure LI (A : Ad) (top : Int) (i : Nat) (m : Int) (rt : List Addr) (S : St) (B : Nat → Addr) (V : LV) (T : Live) : Prop where
  l : LW A rt S B T
  I : Inv A.count top S (T.map (·.2)) V.words
  ma : MaOk S V
  bd : Bd i S V T
  wa : 0 ≤ V.wa
  ws0 : 0 ≤ V.ws
  ws1 : V.ws ≤ m
  cs0 : V.cs ≠ []
  cs1 : V.cs.length ≤ 40
  ro : S.roots = V.roots
  rl : V.roots.length ≤ 3
  ou : 0 ≤ S.out ∧ S.out ≤ 7
  ty : A.types = B 8
  it : ∃ a, HasL V.ty "integer" (.ref a)
theorem spill_keep {v : Addr} {iv : It} {S : St} : (spillS v iv S).roots = S.roots ∧ (spillS v iv S).out = S.out ∧ (spillS v iv S).maps = S.maps := by
  obtain ⟨t, l, l', e⟩ := tempS_eq S
  unfold spillS giveS St.putR St.put1
  rw [e]; exact ⟨rfl, rfl, rfl⟩
theorem Bd.mono {i : Nat} {S : St} {V : LV} {T : Live} (b : Bd i S V T) : Bd (i + 1) S V T := ⟨by have := b.t; omega, by have := b.u; omega, by have := b.r; omega, by have := b.m; omega⟩
theorem spillL_rows : ∀ (xs : List Addr) (S : St), ∃ new, (spillL xs S).rows = S.rows ++ new ∧ new.length ≤ xs.length
  | [], S => ⟨[], by rw [List.append_nil]; rfl, Nat.le_refl _⟩
  | a :: r, S => by
    unfold spillL
    cases q : S.items a with
    | none => exact ⟨[], by rw [List.append_nil], Nat.zero_le _⟩
    | some i =>
      obtain ⟨new, h1, h2⟩ := spillL_rows r (spillS a i S)
      refine ⟨⟨"STR", i.reg, 11, (tempS S).1⟩ :: new, ?_, by simp; omega⟩
      show (spillL r (spillS a i S)).rows = _
      rw [h1, spill_rows, List.append_assoc]; rfl
section
variable {A : Ad} {top m : Int} {i : Nat} {rt rt' : List Addr} {S : St} {B : Nat → Addr} {V : LV} {T : Live}
theorem LI.sz (h : LI A top i m rt S B V T) (hi : i ≤ 60) : Sz S := h.bd.sz h.I hi
theorem LI.skip (h : LI A top i m rt S B V T) : LI A top (i + 1) m rt S B V T := { h with bd := h.bd.mono }
theorem LI.well (h : LI A top i m rt S B V T) {a s m' : Int} (ha : 0 ≤ a) (hs : 0 ≤ s) (hs' : s ≤ m') : LI A top i m' rt S B { V with wa := a, ws := s } T :=
  ⟨h.l, h.I, ⟨h.ma.lo, h.ma.hi, h.ma.run⟩, ⟨h.bd.t, h.bd.u, h.bd.r, h.bd.m⟩, ha, hs, hs', h.cs0, h.cs1, h.ro, h.rl, h.ou, h.ty, h.it⟩
theorem LI.followed (h : LI A top i m rt S B V T) {R' W' : List (Int × AV)} (e : (R', W') = Mx S) : LI A top i m rt S B { V with at_ := S.rows.length, R := R', W := W' } T :=
  ⟨h.l, h.I, MaOk.all e, ⟨h.bd.t, h.bd.u, h.bd.r, h.bd.m⟩, h.wa, h.ws0, h.ws1, h.cs0, h.cs1, h.ro, h.rl, h.ou, h.ty, h.it⟩
theorem LI.own (h : LI A top i m rt S B V T) : S.own.length + S.spilled.length = T.length := h.bd.own h.I
theorem LI.spill (h : LI A top i m rt S B V T) {a : Addr} {it : It} (ha : S.items a = some it) (ho : (it.reg, a) ∈ S.own) (w : Wf A rt' (spillS a it S)) (k : Keep A rt S rt' (spillS a it S) (lcan B V T)) : LI A top (i + 1) m rt' (spillS a it S) B V T := by
  obtain ⟨k1, k2, k3⟩ := spill_keep (v := a) (iv := it) (S := S)
  have b := h.bd
  have er : (spillS a it S).rows = S.rows ++ [⟨"STR", it.reg, 11, (tempS S).1⟩] := spill_rows
  refine ⟨h.l.of w k, inv_spill h.I ha ho, h.ma.app er, ⟨by have := b.t; omega, ?_, ?_, ?_⟩, h.wa, h.ws0, h.ws1, h.cs0, h.cs1, by rw [k1]; exact h.ro, h.rl, by rw [k2]; exact h.ou, h.ty, h.it⟩
  · have e1 : (spillS a it S).spilled.length = S.spilled.length + 1 := by show (S.spilled ++ [_]).length = _; simp
    have e2 : (spillS a it S).temps.length ≤ S.temps.length := by rw [spill_temps]; exact tempS_len S
    have := b.u; omega
  · rw [er, List.length_append]; have := b.r; simp; omega
  · rw [k3]; have := b.m; omega
theorem LI.spillAll (h : LI A top i m rt S B V T) (hi : i ≤ 60) (w : Wf A rt' (spillL (S.own.map (·.2)) S)) (k : Keep A rt S rt' (spillL (S.own.map (·.2)) S) (lcan B V T)) : LI A top (i + 1) m rt' (spillL (S.own.map (·.2)) S) B V T := by
  have b := h.bd
  have z := h.sz hi
  have ho := h.own
  have bt := b.t
  have bu := b.u
  have br := b.r
  have bm := b.m
  obtain ⟨z1, z2, z3, z4, z5, z6, z7, z8⟩ := spill_all_inv (words := V.words) z.temps S.own S rfl h.I (by omega) (by omega) z.temps
  obtain ⟨new, n1, n2⟩ := spillL_rows (S.own.map (·.2)) S
  have hc := z2.cnt
  rw [z3, List.length_map] at hc
  simp only [List.length_nil, Nat.zero_add] at hc
  refine ⟨h.l.of w k, z2, h.ma.app n1, ⟨by omega, ?_, ?_, ?_⟩, h.wa, h.ws0, h.ws1, h.cs0, h.cs1, by rw [z6]; exact h.ro, h.rl, by rw [z7]; exact h.ou, h.ty, h.it⟩
  · omega
  · omega
  · rw [z8]; omega
theorem LI.unspill (h : LI A top i m rt S B V T) {a : Addr} {it : It} {r : Int} {S1 : St} (ha : S.items a = some it) (hs : (it.slot, a) ∈ S.spilled) (tk : TakeR A S a it [] r S1) (w : Wf A rt' (unspillS a it r S1)) (k : Keep A rt S rt' (unspillS a it r S1) (lcan B V T)) : LI A top (i + 1) m rt' (unspillS a it r S1) B V T := by
  have b := h.bd
  obtain ⟨k1, k2, k3, k4⟩ := take_keep tk
  obtain ⟨new, n1, n2⟩ := take_rows tk
  have er : (unspillS a it r S1).rows = S.rows ++ (new ++ [⟨"LDR", r, 11, it.slot⟩]) := by show S1.rows ++ [_] = _; rw [n1, List.append_assoc]
  refine ⟨h.l.of w k, inv_unspillR h.I ha hs tk, h.ma.app er, ⟨by have := b.t; omega, ?_, ?_, ?_⟩, h.wa, h.ws0, h.ws1, h.cs0, h.cs1, ?_, h.rl, ?_, h.ty, h.it⟩
  · have e1 : (unspillS a it r S1).spilled.length ≤ S1.spilled.length := List.length_filter_le ..
    have e2 : (unspillS a it r S1).temps.length = S1.temps.length + 1 := by show (S1.temps ++ [_]).length = _; simp
    have := b.u; omega
  · rw [er, List.length_append, List.length_append]; have := b.r; simp; omega
  · show S1.maps.length ≤ _; rw [k3]; have := b.m; omega
  · show S1.roots = _; rw [k1]; exact h.ro
  · show 0 ≤ S1.out ∧ S1.out ≤ 7; rw [k2]; exact h.ou
theorem LI.temp (h : LI A top i m rt S B V T) : LI A top (i + 1) m rt (tempS S).2 B { V with words := V.words ++ [(tempS S).1] } T := by
  have b := h.bd
  have I2 := inv_temp h.I
  have hl := tempS_len S
  obtain ⟨t, l, l', e⟩ := tempS_eq S
  generalize (tempS S).1 = x at *
  rw [e] at I2 hl ⊢
  refine ⟨h.l.of (V := V) h.l.w.of fun b _ o => o.of, I2, ⟨h.ma.lo, h.ma.hi, h.ma.run⟩, ⟨by have := b.t; omega, ?_, by have := b.r; show S.rows.length ≤ _; omega, by have := b.m; show S.maps.length ≤ _; omega⟩, h.wa, h.ws0, h.ws1, h.cs0, h.cs1, h.ro, h.rl, h.ou, h.ty, h.it⟩
  have := b.u
  have hl : t.length ≤ S.temps.length := hl
  show (V.words ++ [x]).length + S.spilled.length + t.length ≤ _
  rw [List.length_append, List.length_singleton]; omega
theorem LI.free (h : LI A top i m rt S B V T) {k : Nat} {x : Int} (hk : V.words[k]? = some x) : LI A top (i + 1) m rt { S with temps := S.temps ++ [x] } B { V with words := V.words.eraseIdx k } T := by
  have b := h.bd
  refine ⟨h.l.of (V := V) h.l.w.of fun b _ o => o.of, inv_free h.I hk, ⟨h.ma.lo, h.ma.hi, h.ma.run⟩, ⟨by have := b.t; omega, ?_, by have := b.r; show S.rows.length ≤ _; omega, by have := b.m; show S.maps.length ≤ _; omega⟩, h.wa, h.ws0, h.ws1, h.cs0, h.cs1, h.ro, h.rl, h.ou, h.ty, h.it⟩
  have := b.u
  have e := List.length_eraseIdx_le V.words k
  show (V.words.eraseIdx k).length + S.spilled.length + (S.temps ++ [x]).length ≤ _
  rw [List.length_append, List.length_singleton]; omega
theorem LI.out (h : LI A top i m rt S B V T) {x : Int} (h0 : 0 ≤ x) (h1 : x ≤ 7) : LI A top i m rt { S with out := max S.out x } B V T := by
  have := h.ou
  exact ⟨h.l.of (V := V) h.l.w.of fun b _ o => o.of, inv_out h.I, ⟨h.ma.lo, h.ma.hi, h.ma.run⟩, ⟨h.bd.t, h.bd.u, h.bd.r, h.bd.m⟩, h.wa, h.ws0, h.ws1, h.cs0, h.cs1, h.ro, h.rl, ⟨by show 0 ≤ max S.out x; omega, by show max S.out x ≤ 7; omega⟩, h.ty, h.it⟩
theorem LI.maps (h : LI A top i m rt S B V T) {row : Int} {v : AV} : LI A top (i + 1) m rt { S with maps := putAt S.maps row v } B V T := by
  have b := h.bd
  refine ⟨h.l.of (V := V) h.l.w.of fun b _ o => o.of, inv_maps h.I, ⟨h.ma.lo, h.ma.hi, h.ma.run⟩, ⟨by have := b.t; omega, by have := b.u; show V.words.length + S.spilled.length + S.temps.length ≤ _; omega, by have := b.r; show S.rows.length ≤ _; omega, ?_⟩, h.wa, h.ws0, h.ws1, h.cs0, h.cs1, h.ro, h.rl, h.ou, h.ty, h.it⟩
  have := b.m
  have := putAt_len (xs := S.maps) (k := row) (v := v)
  show (putAt S.maps row v).length ≤ _; omega
theorem LI.take (h : LI A top i m rt S B V T) {rt2 : List Addr} {S2 : St} {t x : Addr} {number : Int} (l2 : LW A rt2 S2 B (T ++ [(t, (x, number))])) (I2 : Inv A.count top S2 ((T ++ [(t, (x, number))]).map (·.2)) V.words) (ke : S2.roots = S.roots ∧ S2.out = S.out ∧ S2.maps = S.maps)
    (hu : S2.spilled.length + S2.temps.length ≤ S.spilled.length + S.temps.length + 1) (hr : ∃ new, S2.rows = S.rows ++ new ∧ new.length ≤ 2) : LI A top (i + 1) m rt2 S2 B V (T ++ [(t, (x, number))]) := by
  have b := h.bd
  obtain ⟨new, n1, n2⟩ := hr
  refine ⟨l2, I2, h.ma.app n1, ⟨by have := b.t; rw [List.length_append]; simp; omega, by have := b.u; omega, by have := b.r; rw [n1, List.length_append]; omega, by rw [ke.2.2]; have := b.m; omega⟩, h.wa, h.ws0, h.ws1, h.cs0, h.cs1, by rw [ke.1]; exact h.ro, h.rl, by rw [ke.2.1]; exact h.ou, h.ty, h.it⟩

/-- the live ones behind a release -/
noncomputable def dropT (a : Addr) (T : Live) : Live := T.filter fun e => decide (e.2.1 ≠ a)
theorem dropT_map {a : Addr} : (dropT a T).map (·.2) = (T.map (·.2)).filter fun e => decide (e.1 ≠ a) := by
  unfold dropT; rw [List.filter_map]; rfl
noncomputable def setB (B : Nat → Addr) (l5 : Addr) : Nat → Addr := fun j => if j = 5 then l5 else B j
theorem setB_5 {l5 : Addr} : setB B l5 5 = l5 := if_pos rfl
theorem setB_ne {l5 : Addr} {j : Nat} (h : j ≠ 5) : setB B l5 j = B j := if_neg h
theorem LW.release {S' : St} {l5 a : Addr} (l : LW A rt S B T) (w : Wf A rt S') (ko : ∀ b, Off A rt S b → Off A rt S' b) (o5 : Off A rt S' l5) (h5 : lcan B V T l5 = none) : LW A rt S' (setB B l5) (dropT a T) := by
  have n5 : ∀ j, j < 9 → B j ≠ l5 := fun j hj e => by have := l.some_B (V := V) j hj; rw [e, h5] at this; cases this
  have hT : ∀ e ∈ dropT a T, e ∈ T := fun e he => (List.mem_filter.mp he).1
  refine ⟨w, fun i j hi hj e => ?_, fun i hi => ?_, fun e he i hi => ?_, fun e he => ko _ (l.ot e (hT e he)), l.tn.sublist ((List.filter_sublist).map _)⟩
  · by_cases q : i = 5 <;> by_cases q' : j = 5
    · rw [q, q']
    · rw [q, setB_5, setB_ne q'] at e; exact absurd e.symm (n5 j hj)
    · rw [q', setB_5, setB_ne q] at e; exact absurd e (n5 i hi)
    · rw [setB_ne q, setB_ne q'] at e; exact l.inj i j hi hj e
  · by_cases q : i = 5
    · rw [q, setB_5]; exact o5
    · rw [setB_ne q]; exact ko _ (l.ob i hi)
  · by_cases q : i = 5
    · rw [q, setB_5]
      intro z
      have := lcan_ent (V := V) l (hT e he)
      rw [← z, h5] at this; cases this
    · rw [setB_ne q]; exact l.tb e (hT e he) i hi
theorem lcan_release {S' : St} {l5 a : Addr} (l : LW A rt S B T) (l2 : LW A rt S' (setB B l5) (dropT a T)) (h5 : lcan B V T l5 = none) : Sup (lcan (setB B l5) V (dropT a T)) ((lcan B V T).set l5 (.list ((dropT a T).map fun e => .ref e.1))) := fun b o h => by
  rcases lcan_cases l2 h with ⟨i, hi, rfl, rfl⟩ | ⟨e, he, rfl, rfl⟩
  · by_cases q : i = 5
    · subst q; rw [setB_5, Hp.set_self]; rfl
    · rw [setB_ne q, Hp.set_ne (fun e => by have := l.some_B (V := V) i hi; rw [e, h5] at this; cases this), lcan_at l i hi]
      have : i = 0 ∨ i = 1 ∨ i = 2 ∨ i = 3 ∨ i = 4 ∨ i = 6 ∨ i = 7 ∨ i = 8 := by omega
      rcases this with rfl | rfl | rfl | rfl | rfl | rfl | rfl | rfl <;> rfl
  · exact Sup.set h5 _ _ (lcan_ent l (List.mem_filter.mp he).1)
theorem LI.release (h : LI A top i m rt S B V T) {a : Addr} {it : It} {l5 : Addr} (ha : S.items a = some it) (haT : a ∈ (T.map (·.2)).map (·.1)) (l2 : LW A rt (releaseS a it S) (setB B l5) (dropT a T)) : LI A top (i + 1) m rt (releaseS a it S) (setB B l5) V (dropT a T) := by
  have b := h.bd
  have er : (releaseS a it S).rows = S.rows ++ [] := by rw [List.append_nil]; unfold releaseS; split <;> rfl
  have e1 : (releaseS a it S).roots = S.roots ∧ (releaseS a it S).out = S.out ∧ (releaseS a it S).maps = S.maps ∧ (releaseS a it S).spilled.length + (releaseS a it S).temps.length ≤ S.spilled.length + S.temps.length + 1 := by
    unfold releaseS
    split
    · refine ⟨rfl, rfl, rfl, ?_⟩
      show (S.spilled.filter _).length + (S.temps ++ [_]).length ≤ _
      have := List.length_filter_le (fun p : Int × Addr => decide (p.1 ≠ it.slot)) S.spilled
      rw [List.length_append, List.length_singleton]; omega
    · exact ⟨rfl, rfl, rfl, Nat.le_succ _⟩
  refine ⟨l2, ?_, h.ma.app er, ⟨?_, by have := b.u; omega, by rw [er, List.append_nil]; have := b.r; omega, by rw [e1.2.2.1]; have := b.m; omega⟩, h.wa, h.ws0, h.ws1, h.cs0, h.cs1, by rw [e1.1]; exact h.ro, h.rl, by rw [e1.2.1]; exact h.ou, by rw [setB_ne (by decide)]; exact h.ty, h.it⟩
  · rw [dropT_map]; exact inv_release h.I ha haT
  · have := b.t
    have : (dropT a T).length ≤ T.length := List.length_filter_le ..
    omega
end

/-- the law's locals -/
structure ML (A : Ad) (B : Nat → Addr) (top out : Int) (μ : Loc) : Prop where
  we : HasL μ "well" (.ref (B 0))
  cn : HasL μ "count" (.int A.count)
  co : HasL μ "coder" (.ref (A.at_ 0))
  tp : HasL μ "top" (.int top)
  ro : HasL μ "roots" (.ref (B 7))
  ma : HasL μ "machine" (.ref (B 2))
  li : HasL μ "live" (.ref (B 5))
  wo : HasL μ "words" (.ref (B 6))
  ou : HasL μ "out" (.int out)
theorem ML.upd {A : Ad} {B : Nat → Addr} {top out : Int} {μ : Loc} {x : Str} {v : AV} (f : ML A B top out μ) (h : "well" ≠ x ∧ "count" ≠ x ∧ "coder" ≠ x ∧ "top" ≠ x ∧ "roots" ≠ x ∧ "machine" ≠ x ∧ "live" ≠ x ∧ "words" ≠ x ∧ "out" ≠ x := by decide) : ML A B top out (upd x v μ) :=
  ⟨upd_ne f.we h.1, upd_ne f.cn h.2.1, upd_ne f.co h.2.2.1, upd_ne f.tp h.2.2.2.1, upd_ne f.ro h.2.2.2.2.1, upd_ne f.ma h.2.2.2.2.2.1, upd_ne f.li h.2.2.2.2.2.2.1, upd_ne f.wo h.2.2.2.2.2.2.2.1, upd_ne f.ou h.2.2.2.2.2.2.2.2⟩
theorem ML.live {A : Ad} {B : Nat → Addr} {top out : Int} {μ : Loc} {l5 : Addr} (f : ML A B top out μ) : ML A (setB B l5) top out (Mine.upd "live" (.ref l5) μ) :=
  ⟨upd_ne f.we (by decide), upd_ne f.cn (by decide), upd_ne f.co (by decide), upd_ne f.tp (by decide), upd_ne f.ro (by decide), upd_ne f.ma (by decide), upd_self _ _ _, upd_ne f.wo (by decide), upd_ne f.ou (by decide)⟩
theorem ML.out {A : Ad} {B : Nat → Addr} {top out out' : Int} {μ : Loc} (f : ML A B top out μ) : ML A B top out' (Mine.upd "out" (.int out') μ) :=
  ⟨upd_ne f.we (by decide), upd_ne f.cn (by decide), upd_ne f.co (by decide), upd_ne f.tp (by decide), upd_ne f.ro (by decide), upd_ne f.ma (by decide), upd_ne f.li (by decide), upd_ne f.wo (by decide), upd_self _ _ _⟩

/-! addresses that are told apart -/
structure Trk (σ : Hp) (xs : List (Addr × AObj)) : Prop where
  nd : (xs.map (·.1)).Nodup
  at_ : ∀ p ∈ xs, σ p.1 = some p.2
section
variable {σ σ' : Hp} {xs : List (Addr × AObj)} {a : Addr} {o o' : AObj} {p q : Addr × AObj}
theorem Trk.nil : Trk σ [] := ⟨List.nodup_nil, fun _ h => (nomatch h)⟩
theorem Trk.sup (t : Trk σ xs) (s : Sup σ σ') : Trk σ' xs := ⟨t.nd, fun p hp => s _ _ (t.at_ p hp)⟩
theorem Trk.out (t : Trk σ xs) (h : σ a = none) : a ∉ xs.map (·.1) := fun z => by
  obtain ⟨p, hp, rfl⟩ := List.mem_map.mp z
  rw [t.at_ p hp] at h; cases h
theorem Trk.new (t : Trk σ xs) (h : σ a = none) : Trk (σ.set a o) ((a, o) :: xs) :=
  ⟨List.nodup_cons.mpr ⟨t.out h, t.nd⟩, fun p hp => by
    rcases List.mem_cons.mp hp with rfl | hp
    · exact Hp.set_self _ _ _
    · exact Sup.set h _ _ (t.at_ p hp)⟩
theorem Trk.upd (t : Trk σ ((a, o) :: xs)) : Trk (σ.set a o') ((a, o') :: xs) := by
  obtain ⟨nd, h⟩ := t
  rw [List.map_cons, List.nodup_cons] at nd
  refine ⟨List.nodup_cons.mpr nd, fun p hp => ?_⟩
  rcases List.mem_cons.mp hp with rfl | hp
  · exact Hp.set_self _ _ _
  · rw [Hp.set_ne (fun (e : p.1 = a) => nd.1 (e ▸ List.mem_map_of_mem (f := (·.1)) hp))]
    exact h p (.tail _ hp)
theorem Trk.swap (t : Trk σ (p :: q :: xs)) : Trk σ (q :: p :: xs) := by
  refine ⟨?_, fun r hr => t.at_ r ?_⟩
  · have := t.nd
    simp only [List.map_cons, List.nodup_cons, List.mem_cons, not_or] at this ⊢
    exact ⟨⟨Ne.symm this.1.1, this.2.1⟩, this.1.2, this.2.2⟩
  · simp only [List.mem_cons] at hr ⊢
    rcases hr with h | h | h
    · exact .inr (.inl h)
    · exact .inl h
    · exact .inr (.inr h)
theorem Trk.drop (t : Trk σ (p :: xs)) : Trk σ xs := ⟨(List.nodup_cons.mp t.nd).2, fun r hr => t.at_ r (.tail _ hr)⟩
theorem Trk.cons (t : Trk σ xs) (h : a ∉ xs.map (·.1)) (e : σ a = some o) : Trk σ ((a, o) :: xs) := ⟨List.nodup_cons.mpr ⟨h, t.nd⟩, fun p hp => by
  rcases List.mem_cons.mp hp with rfl | hp
  · exact e
  · exact t.at_ p hp⟩
/-- a new one behind the first -/
theorem Trk.new2 (t : Trk σ (p :: xs)) (h : σ a = none) : Trk (σ.set a o) (p :: (a, o) :: xs) := (t.new h).swap
/-- a new one behind the first two -/
theorem Trk.new3 (t : Trk σ (p :: q :: xs)) (h : σ a = none) : Trk (σ.set a o) (p :: q :: (a, o) :: xs) := by
  have t2 := t.new (o := o) h
  have t3 := t2.swap
  refine ⟨?_, fun r hr => t3.at_ r ?_⟩
  · have := t3.nd
    simp only [List.map_cons, List.nodup_cons, List.mem_cons, not_or] at this ⊢
    exact ⟨⟨this.1.2.1, this.1.1, this.1.2.2⟩, ⟨Ne.symm this.2.1.1, this.2.2.1⟩, this.2.1.2, this.2.2.2⟩
  · simp only [List.mem_cons] at hr ⊢
    rcases hr with h | h | h | h
    · exact .inl h
    · exact .inr (.inr (.inl h))
    · exact .inr (.inl h)
    · exact .inr (.inr (.inr h))
theorem Trk.upd2 (t : Trk σ (p :: (a, o) :: xs)) : Trk (σ.set a o') (p :: (a, o') :: xs) := t.swap.upd.swap
end
end Mine
end

section
open PySem PySem.W PySem.Calls PyProof.Rows
namespace Mine

noncomputable def Hp.emp : Hp := fun _ => none
theorem same_fn {d : Option (Str × List Stmt × Scope)} {qual qual' : Str} {body body' : List Stmt} {scope scope' : Scope} (h1 : d = some (qual, body, scope)) (h2 : d = some (qual', body', scope'))
    {P : Str → List Stmt → Scope → Prop} (p : P qual' body' scope') : P qual body scope := by
  cases h1.symm.trans h2
  exact p
theorem W.toNone {G : Gx} {c : Cx G} {α : Type} {t : Sem α} {μ : Loc} {σ : Hp} {Q : α → Loc → Hp → Prop} (h : W c t μ σ Q) : W c t μ σ Q := h

/-! the setting of the law's objects -/
noncomputable def bIdx : Nat → Nat := fun i => [5, 19, 2, 4, 3, 1, 0, 10, 18].getD i 0
noncomputable def aIdx : Nat → Nat := fun i => [6, 16, 17, 13, 15, 14, 12, 8, 7, 9, 11].getD i 0
theorem b_inj : ∀ i j, i < 9 → j < 9 → bIdx i = bIdx j → i = j := by
  have : ∀ i : Fin 9, ∀ j : Fin 9, bIdx i = bIdx j → i = j := by decide
  intro i j hi hj h
  exact congrArg Fin.val (this ⟨i, hi⟩ ⟨j, hj⟩ h)
theorem a_inj : ∀ i j, i < 11 → j < 11 → aIdx i = aIdx j → i = j := by
  have : ∀ i : Fin 11, ∀ j : Fin 11, aIdx i = aIdx j → i = j := by decide
  intro i j hi hj h
  exact congrArg Fin.val (this ⟨i, hi⟩ ⟨j, hj⟩ h)
theorem ab_ne : ∀ i j, i < 11 → j < 9 → aIdx i ≠ bIdx j := by
  have : ∀ i : Fin 11, ∀ j : Fin 9, aIdx i ≠ bIdx j := by decide
  intro i j hi hj
  exact this ⟨i, hi⟩ ⟨j, hj⟩
theorem b_lt : ∀ i, i < 9 → bIdx i < 20 := by
  have : ∀ i : Fin 9, bIdx i < 20 := by decide
  intro i hi
  exact this ⟨i, hi⟩
theorem a_lt : ∀ i, i < 11 → aIdx i < 20 := by
  have : ∀ i : Fin 11, aIdx i < 20 := by decide
  intro i hi
  exact this ⟨i, hi⟩
theorem getD_inj {xs : List Addr} (nd : xs.Nodup) {i j : Nat} (hi : i < xs.length) (hj : j < xs.length) (e : xs.getD i 0 = xs.getD j 0) : i = j := by
  rw [List.getD_eq_getElem?_getD, List.getD_eq_getElem?_getD, List.getElem?_eq_getElem hi, List.getElem?_eq_getElem hj] at e
  refine (List.getElem?_inj hi nd).mp ?_
  rw [List.getElem?_eq_getElem hi, List.getElem?_eq_getElem hj]
  exact congrArg some e
noncomputable def startA (xs : List Addr) (ty : Addr) (p : CR) (count : Int) : Ad := { at_ := fun i => xs.getD (aIdx i) 0, types := ty, keys := p.keys, imports := p.imports, fixups := p.fixups, entries := p.entries, starts := p.starts, calls := p.calls, count := count }
noncomputable def startS (top : Int) (ys : List Int) : St := { own := [], order := [], low := top, lowest := top, out := 0, temps := [], spilled := [], roots := ys, rows := [], maps := [], items := fun _ => none }
noncomputable def startB (xs : List Addr) : Nat → Addr := fun i => xs.getD (bIdx i) 0
noncomputable def startV (wa ws : Int) (cs ys : List Int) (ty : Loc) : LV := { wa := wa, ws := ws, cs := cs, at_ := 0, R := [], W := [], words := [], roots := ys, ty := ty }
theorem start_LW {xs : List Addr} {ty : Addr} {p : CR} {count top : Int} {ys : List Int} (nd : xs.Nodup) (hl : xs.length = 20) : LW (startA xs ty p count) [] (startS top ys) (startB xs) [] := by
  refine ⟨⟨fun i j hi hj e => a_inj i j hi hj (getD_inj nd (by rw [hl]; exact a_lt i hi) (by rw [hl]; exact a_lt j hj) e), fun _ _ => rfl, fun _ z => (nomatch z), List.nodup_nil, rfl⟩, fun i j hi hj e => b_inj i j hi hj (getD_inj nd (by rw [hl]; exact b_lt i hi) (by rw [hl]; exact b_lt j hj) e), fun i hi => ⟨fun j hj e => ab_ne j i hj hi (getD_inj nd (by rw [hl]; exact a_lt j hj) (by rw [hl]; exact b_lt i hi) e), rfl, rfl⟩, fun _ z => (nomatch z), fun _ z => (nomatch z), List.nodup_nil⟩
theorem start_LI {xs : List Addr} {ty ity : Addr} {p : CR} {count top wa ws m : Int} {cs ys : List Int} {tya : Loc} (nd : xs.Nodup) (hl : xs.length = 20) (h0 : 0 ≤ wa) (h1 : 0 ≤ ws) (h2 : ws ≤ m) (hc0 : cs ≠ []) (hc1 : cs.length ≤ 40) (hy : ys.length ≤ 3) (ht : top % 4 = 0) (hty : ty = startB xs 8) (hi : HasL tya "integer" (.ref ity)) :
    LI (startA xs ty p count) top 0 m [] (startS top ys) (startB xs) (startV wa ws cs ys tya) [] := by
  refine ⟨start_LW nd hl, ⟨rfl, fun _ z => (nomatch z), List.nodup_nil, fun _ z => (nomatch z), fun _ z => (nomatch z), fun _ z => (nomatch z), List.nodup_nil, ⟨List.nodup_nil, fun _ z => (nomatch z)⟩, ⟨rfl, Int.le_refl _, ht⟩, rfl, fun _ z => (nomatch z)⟩, ⟨Int.le_refl _, Int.le_refl _, rfl⟩, ⟨Nat.le_refl _, Nat.le_refl _, Nat.le_refl _, Nat.le_refl _⟩, h0, h1, h2, hc0, hc1, rfl, hy, ⟨Int.le_refl _, by show (0 : Int) ≤ 7; decide⟩, hty, ⟨_, hi⟩⟩
theorem canon_cases0 {A : Ad} {S : St} {ρ : Hp} {b : Addr} {o : AObj} (hi : S.items = fun _ => none) (h : canon A [] S ρ b = some o) : (∃ i, i < 11 ∧ b = A.at_ i ∧ o = objOf A [] S i) ∨ ρ b = some o := by
  unfold canon at h
  split at h
  · rename_i i hi'
    have h1 := List.find?_some hi'
    have h2 := List.mem_of_find?_eq_some hi'
    simp only [beq_iff_eq] at h1
    exact .inl ⟨i, by simpa using h2, h1.symm, (Option.some.inj h).symm⟩
  · rw [hi] at h
    exact .inr h
/-- the places of pairs told apart, as one list -/
theorem Trk.addr {σ : Hp} {xs : List (Addr × AObj)} (t : Trk σ xs) : (xs.map (·.1)).Nodup := t.nd

theorem Sup.under {σ σ' : Hp} {a : Addr} {o : AObj} (h : Sup σ σ') : Sup (σ.set a o) (σ'.set a o) := fun b x e => by
  by_cases z : b = a
  · subst z; rw [Hp.set_self] at e ⊢; exact e
  · rw [Hp.set_ne z] at e ⊢; exact h b x e
noncomputable def keepOf (S : St) (e : Addr × (Addr × Int)) : Option Addr := match S.items e.2.1 with
  | some i => if i.mode = "reg" then some e.2.1 else none
  | none => none
theorem keep_some {S : St} {e : Addr × (Addr × Int)} {k : Addr} (h : keepOf S e = some k) : k = e.2.1 ∧ ∃ i, S.items k = some i ∧ i.mode = "reg" := by
  unfold keepOf at h
  split at h
  · rename_i i hi
    split at h
    · rename_i q; cases h; exact ⟨rfl, i, hi, q⟩
    · cases h
  · cases h
theorem release_items {S : St} {a b : Addr} {it : It} : (releaseS a it S).items b = if b = a then some { it with mode := "none" } else S.items b := by
  unfold releaseS; split <;> rfl

variable {G : Gx} (hK : KG G)
include hK
set_option maxHeartbeats 4000000 in
theorem law_turn {qual : Str} {body : List Stmt} {scope : Scope} (hb : topAt 24 "law" = some (qual, body, scope))
    {target iter : Expr} {fbody : List Stmt} {fpos : Pos} (hfor : body[10]? = some (.For target iter fbody [] fpos))
    (c : Cx G) (hn : 40 ≤ c.n) (f : Addr) (cdv0 : Value) {A : Ad} {top i : Int} (i0 : 0 ≤ i) (i1 : i ≤ 40) (hcnt : 4 ≤ A.count ∧ A.count < 1000) {rt : List Addr} {S : St} {B : Nat → Addr} {V : LV} {T : Live} {μ1 : Loc} {P : AF → Loc → Hp → Prop}
    (h : LI A top i.toNat (4 + 2 * i) rt S B V T) (f0 : ML A B top S.out μ1) (fnum : HasL μ1 "number" (.int i)) :
    SV c (execs fbody (envOf qual scope c.L f cdv0)) μ1 (canon A rt S (lcan B V T)) (TurnP (fun μ σ => ∃ rt S B V T, Sup (canon A rt S (lcan B V T)) σ ∧ LI A top (i + 1).toNat (4 + 2 * (i + 1)) rt S B V T ∧ ML A B top S.out μ) P) := by
  revert hfor
  refine' same_fn hb ?ho (P := fun q b s => b[10]? = some (.For target iter fbody [] fpos) → SV c (execs fbody (envOf q s c.L f cdv0)) μ1 (canon A rt S (lcan B V T)) (TurnP (fun μ σ => ∃ rt S B V T, Sup (canon A rt S (lcan B V T)) σ ∧ LI A top (i + 1).toNat (4 + 2 * (i + 1)) rt S B V T ∧ ML A B top S.out μ) P)) ?_
  case ho => rfl
  intro hfor
  cases hfor
  refine SV.post fun PT hPT => ?_
  have ne01 : ∀ {i : Nat} {m : Int} {rt : List Addr} {S : St} {B : Nat → Addr} {V : LV} {T : Live}, LI A top i m rt S B V T → B 0 ≠ B 1 := fun h e => absurd (h.l.inj 0 1 (by decide) (by decide) e) (by decide)
  have hiN : i.toNat ≤ 40 := by omega
  have hws := h.ws1
  have hws0 := h.ws0
  -- kind
  refine S_cons <| S_AssignName <| E_Call1 <| E_glob (n_pull hK).1 rfl <| EVs_cons <| E_loc f0.we <| EVs_cons <| E_int <| EVs_nil ⟨.inl (n_pull hK).2, C_fn (n := 1) (show 1 ≤ c.n by omega) <| F_pull hK (n := 0) (h.l.get 0) (h.l.get 1) (ne01 h) h.wa h.ws0 (by omega) h.cs0 (by have := h.cs1; omega) (by decide) (by decide) fun kd wa5 s5 k0 k1 k2 k3 k4 => ?_⟩
  rw [h.l.set_well wa5 s5]
  have h1 := h.well (m' := 5 + 2 * i) k2 (by omega) (by omega : s5 ≤ 5 + 2 * i)
  clear h hws hws0
  generalize ({ V with wa := wa5, ws := s5 } : LV) = V1 at *
  have f1 : ML A B top S.out (upd "kind" (.int kd) μ1) := f0.upd
  have fk1 : HasL (upd "kind" (.int kd) μ1) "kind" (.int kd) := upd_self _ _ _
  have fn1 : HasL (upd "kind" (.int kd) μ1) "number" (.int i) := upd_ne fnum (by decide)
  generalize upd "kind" (.int kd) μ1 = μ2 at *
  have hws := h1.ws1
  have hws0 := h1.ws0
  -- pick
  refine S_cons <| S_AssignName <| E_Call1 <| E_glob (n_pull hK).1 rfl <| EVs_cons <| E_loc f1.we <| EVs_cons <| E_int <| EVs_nil ⟨.inl (n_pull hK).2, C_fn (n := 1) (show 1 ≤ c.n by omega) <| F_pull hK (n := 0) (h1.l.get 0) (h1.l.get 1) (ne01 h1) h1.wa h1.ws0 (by omega) h1.cs0 (by have := h1.cs1; omega) (by decide) (by decide) fun pk wa6 s6 j0 j1 j2 j3 j4 => ?_⟩
  rw [h1.l.set_well wa6 s6]
  have h2 := h1.well (m' := 4 + 2 * (i + 1)) j2 (by omega) (by omega : s6 ≤ 4 + 2 * (i + 1))
  clear h1 hws hws0
  generalize ({ V1 with wa := wa6, ws := s6 } : LV) = V2 at *
  have f2 : ML A B top S.out (upd "pick" (.int pk) μ2) := f1.upd
  have fk2 : HasL (upd "pick" (.int pk) μ2) "kind" (.int kd) := upd_ne fk1 (by decide)
  have fn2 : HasL (upd "pick" (.int pk) μ2) "number" (.int i) := upd_ne fn1 (by decide)
  have fp2 : HasL (upd "pick" (.int pk) μ2) "pick" (.int pk) := upd_self _ _ _
  generalize upd "pick" (.int pk) μ2 = μ3 at *
  have hTl : T.length ≤ 60 := by have := h2.bd.t; omega
  have esz : (i + 1).toNat = i.toNat + 1 := by omega
  -- picked_one
  refine S_cons <| SV.mono (Q := fun fl μ' σ' => fl = .next ∧ σ' = canon A rt S (lcan B V2 T) ∧ ∃ pv, μ' = upd "picked_one" pv μ3 ∧ ((pv = .none ∧ T = []) ∨ ∃ e ∈ T, pv = .ref e.2.1)) ?_ ?_
  · refine S_AssignName <| E_IfExp <| T_Compare <| E_loc f2.li <| E_List <| EVs_nil ⟨by simp, fun e1 he1 => O_neNil (Sup.set he1 _ _ (h2.l.get 5)) (Hp.set_self _ _ _) <| T_bool ?_⟩
    cases T with
    | nil => exact W.forget (σ' := canon A rt S (lcan B V2 [])) (E_none ⟨rfl, rfl, _, rfl, .inl ⟨rfl, rfl⟩⟩) (Sup.set he1)
    | cons e0 T' =>
      have hpos : 0 < (e0 :: T').length := by simp
      generalize hT' : e0 :: T' = T at *
      rw [show (!(List.map (fun e => AV.ref e.fst) T).isEmpty) = true by rw [← hT']; rfl]
      have hr := fmod_rng (a := pk) (b := (T.length : Int)) (by omega)
      have hj : (pk.fmod (T.length : Int)).toNat < T.length := by omega
      refine W.forget (σ' := canon A rt S (lcan B V2 T)) ?_ (Sup.set he1)
      refine E_Sub <| E_Sub <| E_loc f2.li <| E_BinOp <| E_loc fp2 <| E_Call1 <| E_built (n_len hK) rfl rfl <| EVs_cons <| E_loc f2.li <| EVs_nil ⟨trivial, C_len (h2.l.get 5) (O_mod (by rw [List.length_map]; omega) <| I_list (x := .ref (T[(pk.fmod (T.length : Int)).toNat]).1) (h2.l.get 5) (by simpa using hr.1) (by simp [List.getElem?_map, List.getElem?_eq_getElem hj]) (E_int <| I_tup (h2.l.ent (List.getElem_mem hj)) (by decide) rfl ⟨rfl, rfl, _, rfl, .inr ⟨_, List.getElem_mem hj, rfl⟩⟩) (by have := hr.2; simp; omega)) (by simp; omega)⟩
  rintro fl μ' σ' ⟨rfl, rfl, pv, rfl, hpv⟩
  have f3 : ML A B top S.out (upd "picked_one" pv μ3) := f2.upd
  have fk3 : HasL (upd "picked_one" pv μ3) "kind" (.int kd) := upd_ne fk2 (by decide)
  have fn3 : HasL (upd "picked_one" pv μ3) "number" (.int i) := upd_ne fn2 (by decide)
  have fp3 : HasL (upd "picked_one" pv μ3) "pick" (.int pk) := upd_ne fp2 (by decide)
  have fo3 : HasL (upd "picked_one" pv μ3) "picked_one" pv := upd_self _ _ _
  generalize upd "picked_one" pv μ3 = μ4 at *
  show SV _ _ _ _ _
  refine S_cons <| SV.mono (Q := fun fl μ' σ' => fl = .next ∧ ∃ rt S B V T, σ' = canon A rt S (lcan B V T) ∧ LI A top (i.toNat + 1) (4 + 2 * (i + 1)) rt S B V T ∧ ML A B top S.out μ') ?_ ?_
  rotate_left
  · rintro fl μ' σ' ⟨rfl, rt, S, B, V, T, rfl, h, f⟩
    have := h.bd.t
    have := h.bd.u
    refine S_cons <| S_If <| T_Not <| T_val <| E_Call1 <| E_glob (n_allRight hK).1 rfl <| EVs_cons <| E_loc f.co <| EVs_cons <| E_loc f.ma <| EVs_cons <| E_loc f.li <| EVs_cons <| E_loc f.wo <| EVs_cons <| E_loc f.cn <| EVs_cons <| E_loc f.tp <| EVs_nil ⟨.inl (n_allRight hK).2, C_fn (n := 10) (show 10 ≤ c.n by omega) <| F_allRight hK (n := 7) h.l h.I (h.sz (by omega)) h.ma (by omega) (by omega) (.of_left (by decide)) fun R' W' e => T_bool <| S_nil <| S_nil ?_⟩
    exact hPT .next _ _ ⟨_, _, _, _, _, Sup.re, by rw [esz]; exact h.followed e, f⟩
  refine SV.post fun PD hPD => ?_
  have fin : ∀ {rt S B V T μ}, LI A top (i.toNat + 1) (4 + 2 * (i + 1)) rt S B V T → ML A B top S.out μ → PD .next μ (canon A rt S (lcan B V T)) := fun h f => hPD .next _ _ ⟨rfl, _, _, _, _, _, rfl, h, f⟩
  have w := h2.l.w
  have hsz := h2.sz (by omega : i.toNat ≤ 60)
  have bu := h2.bd.u
  have bm := h2.bd.m
  refine S_If <| W.mono (Q := fun z μ σ => μ = μ4 ∧ σ = canon A rt S (lcan B V2 T) ∧ (z = false → pv ≠ .none)) ?_ ?_
  · refine T_Or2 <| T_Compare <| E_loc fk3 <| E_int <| O_lt <| T_bool ?_
    by_cases q : kd < 3
    · rw [decide_eq_true q]; exact ⟨rfl, rfl, fun z => nomatch z⟩
    · rw [decide_eq_false q]
      refine T_Compare <| E_loc fo3 <| E_none <| O_is_none <| T_bool ⟨rfl, rfl, fun z e => ?_⟩
      rw [e] at z; cases z
  rintro z μ σ ⟨rfl, rfl, hz⟩
  cases z with
  | true =>
    -- a register is taken
    have hj := fmod_rng (a := pk) (b := 3) (by decide)
    refine S_cons <| S_AssignComp (by rfl) (E_SliceTo <| E_loc f3.li ⟨B 5, T.map fun e => .ref e.1, rfl, E_BinOp <| E_loc fp3 <| E_int <| O_mod (by decide) ⟨_, rfl, h2.l.get 5, hj.1, by simp; omega, fun sl hsl => ?_⟩⟩) (by decide) (by decide) (by decide)
    rw [← List.map_take]
    have htl : (T.take (pk.fmod 3).toNat).length ≤ 2 := by rw [List.length_take]; omega
    have htm : ∀ e ∈ T.take (pk.fmod 3).toNat, e ∈ T := fun e he => List.mem_of_mem_take he
    generalize T.take (pk.fmod 3).toNat = TT at *
    refine .inl ⟨sl, TT.map fun e => .ref e.1, fun r acc σ => ∃ rs done, TT = done ++ rs ∧ r = rs.map (fun e => AV.ref e.1) ∧ acc = (done.filterMap (keepOf S)).map AV.ref ∧ σ = (canon A rt S (lcan B V2 T)).set sl (.list (TT.map fun e => .ref e.1)), rfl, ⟨TT, [], rfl, rfl, rfl, rfl⟩, ?_, by simp; omega, ?_, ?_⟩
    · rintro r acc σ ⟨rs, done, -, -, -, rfl⟩
      exact Hp.set_self _ _ _
    · rintro c' hn' hb' x r acc μ σ hlen ⟨rs, done, q1, q2, q3, rfl⟩
      cases rs with
      | nil => cases q2
      | cons e rs =>
        cases q2
        have he : e ∈ T := htm e (by rw [q1]; simp)
        obtain ⟨it, hit⟩ := h2.I.it (a := e.2.1) (List.mem_map.mpr ⟨e.2, List.mem_map_of_mem he, rfl⟩)
        refine ⟨.inr ⟨_, _, _, _, rfl, rfl⟩, A_Tuple (ns := [(_, _), (_, _)]) (Sup.set hsl _ _ (h2.l.ent he)) rfl (by simp) (fun p hp => by simp only [List.mem_cons, List.not_mem_nil, or_false] at hp; rcases hp with rfl | rfl <;> rfl) ?_⟩
        show Tests _ _ _ (upd "value" (.int e.2.2) (upd "item" (.ref e.2.1) μ)) _ _
        show TV _ _ _ _ _ _
        refine T_Compare <| E_Attr <| E_loc (upd_ne (upd_self _ _ _) (by decide)) <| A_data (Sup.set hsl _ _ (canon_it w hit)) rfl <| E_str <| O_eq_str <| T_bool ?_
        cases z : (it.mode == ("reg" : Str)) with
        | true =>
          refine E_loc (upd_ne (upd_self _ _ _) (by decide)) ⟨rs, done ++ [e], by rw [q1]; simp, rfl, ?_, rfl⟩
          have : keepOf S e = some e.2.1 := by unfold keepOf; rw [hit]; exact if_pos (eq_of_beq z)
          rw [List.filterMap_append, List.filterMap_cons, this, q3]; simp
        | false =>
          refine ⟨rs, done ++ [e], by rw [q1]; simp, rfl, ?_, rfl⟩
          have : keepOf S e = none := by unfold keepOf; rw [hit]; exact if_neg (fun y => by rw [y] at z; cases z)
          rw [List.filterMap_append, List.filterMap_cons, this, q3]; simp
    rintro acc σ ⟨rs, done, q1, q2, q3, rfl⟩ kl hkl
    cases rs with
    | cons _ _ => cases q2
    | nil =>
    rw [List.append_nil] at q1
    subst q1
    rw [q3]
    have hkl0 := (Sup.set hsl).no hkl
    have hks : ∀ k ∈ TT.filterMap (keepOf S), ∃ i, S.items k = some i ∧ i.mode = "reg" := fun k hk => by
      obtain ⟨e, he, hke⟩ := List.mem_filterMap.mp hk
      exact (keep_some hke).2
    have hkl2 : (TT.filterMap (keepOf S)).length ≤ 2 := Nat.le_trans (List.length_filterMap_le _ _) htl
    generalize TT.filterMap (keepOf S) = ks at *
    refine W.forget ?_ (Sup.under (Sup.set hsl))
    have f4 : ML A B top S.out (upd "keep" (.ref kl) μ) := f3.upd
    obtain ⟨ity, hity⟩ := h2.it
    refine S_cons <| S_If <| T_Not <| T_val <| E_Call1 <| E_glob (n_taken hK).1 rfl <| EVs_cons <| E_loc f4.co <| EVs_cons <| E_loc f4.li <| EVs_cons <| E_BinOp <| E_int <| E_loc (upd_ne fn3 (by decide)) <| O_add <| EVs_cons <| E_Compare <| E_loc (upd_ne fk3 (by decide)) <| E_int <| O_eq <| EVs_cons <| E_loc (upd_self _ _ _) <| EVs_nil ⟨.inl (n_taken hK).2, C_fn (n := 10) (by omega) <| F_taken hK (n := 5) (ks := ks) h2.l h2.I hsz hcnt.1 hcnt.2 h2.ty hity hkl0 hkl2 hks (by omega) fun rt2 S2 t x l2 I2 ke hu hr hx => T_bool ?_⟩
    refine S_nil <| S_nil <| ?_
    exact fin (h2.take l2 I2 ke hu hr) (by rw [ke.2.1]; exact f4)
  | false =>
  obtain ⟨e, he, hpe⟩ : ∃ e ∈ T, pv = .ref e.2.1 := by
    rcases hpv with ⟨q, _⟩ | q
    · exact absurd q (hz rfl)
    · exact q
  subst hpe
  have heL : e.2 ∈ T.map (·.2) := List.mem_map_of_mem he
  have haL : e.2.1 ∈ (T.map (·.2)).map (·.1) := List.mem_map.mpr ⟨e.2, heL, rfl⟩
  obtain ⟨it, hit⟩ := h2.I.it haL
  have hcase := h2.I.of_mem hit haL
  generalize e.2.1 = a at *
  -- one is spilled
  refine S_cons <| S_If <| W.mono (Q := fun z μ' σ => μ' = μ ∧ σ = canon A rt S (lcan B V2 T) ∧ (z = true → it.mode = "reg")) ?_ ?_
  · refine T_And2 <| T_Compare <| E_loc fk3 <| E_int <| O_eq <| T_bool ?_
    by_cases q : kd = 3
    · rw [show (kd == 3) = true by simp [q]]
      exact T_Compare <| E_Attr <| E_loc fo3 <| R_item w hit rfl <| E_str <| O_eq_str <| T_bool ⟨rfl, rfl, fun z => eq_of_beq z⟩
    · rw [beq_false_of_ne q]; exact ⟨rfl, rfl, fun z => nomatch z⟩
  rintro z μ' σ ⟨rfl, rfl, hz3⟩
  cases z with
  | true =>
    have hm := hz3 rfl
    have ho : (it.reg, a) ∈ S.own := by
      rcases hcase with ⟨_, ho⟩ | ⟨q, _⟩
      · exact ho
      · rw [hm] at q; exact absurd q sne
    refine S_cons <| S_Expr <| E_Meth1 <| E_loc f3.co <| M_cls (canon_at w 0) (mc_spill hK).fi (mc_spill hK).fn <| EVs_cons <| E_loc fo3 <| EVs_nil ⟨.inl (mc_spill hK).kp, C_fn (n := 2) (by omega) <| F_spill hK (n := 0) w hsz hit ⟨_, ho, rfl⟩ (h2.I.inOrder ho) h2.I.slotN fun rt' w' kp => ⟨trivial, ?_⟩⟩
    refine S_cons <| S_If <| T_Or2 <| T_Compare <| E_Attr <| E_loc fo3 <| R_item w' spill_self rfl <| E_str <| O_ne_str <| T_bool <| T_Compare <| E_Attr <| E_loc fo3 <| R_item w' spill_self rfl <| E_str <| O_ne_str <| T_bool ?_
    rw [hm]
    refine S_nil <| S_nil <| S_nil ?_
    exact fin (h2.spill hit ho w' kp) (by rw [spill_keep.2.1]; exact f3)
  | false =>
  -- all are spilled
  refine S_cons <| S_If <| W.mono (Q := fun z μ'' σ => μ'' = μ' ∧ σ = canon A rt S (lcan B V2 T)) ?_ ?_
  · refine T_And2 <| T_Compare <| E_loc fk3 <| E_int <| O_eq <| T_bool ?_
    cases (kd == 4) with
    | true => exact T_Compare <| E_BinOp <| E_loc fp3 <| E_int <| O_mod (by decide) <| E_int <| O_eq <| T_bool ⟨rfl, rfl⟩
    | false => exact ⟨rfl, rfl⟩
  rintro z μ'' σ ⟨rfl, rfl⟩
  cases z with
  | true =>
    have ho := h2.own
    have hz1 := hsz.rows
    have hz2 := hsz.own
    have br := h2.bd.r
    obtain ⟨z1, z2, z3, -⟩ := spill_all_inv (words := V2.words) hsz.temps S.own S rfl h2.I (by omega) (by omega) hsz.temps
    refine S_cons <| S_Expr <| E_Meth0 <| E_loc f3.co <| M_cls (canon_at w 0) (mc_spill_all hK).fi (mc_spill_all hK).fn ⟨.inl (mc_spill_all hK).kp, C_fn (n := 3) (by omega) <| F_spillAll hK (n := 0) w h2.I.ord h2.I.nd hsz.own z1 fun rt' w' kp => ⟨trivial, ?_⟩⟩
    have h3 := h2.spillAll (by omega) w' kp
    have hout : (spillL (S.own.map (·.2)) S).out = S.out := by
      obtain ⟨-, -, -, -, -, -, z7, -⟩ := spill_all_inv (words := V2.words) hsz.temps S.own S rfl h2.I (by omega) (by omega) hsz.temps
      exact z7
    generalize spillL (S.own.map (·.2)) S = S2 at *
    refine S_cons <| S_If <| T_Compare <| E_Meth0 <| E_Attr <| E_loc f3.co <| R_coder w' "pool" rfl <| M_cls (canon_at w' 3) (mp_held hK).fi (mp_held hK).fn ⟨.inl (mp_held hK).kp, C_fn (n := 1) (by omega) <| F_held hK (n := 0) w' z2.ord z2.nd (by rw [z3]; simp) fun hl hhl => E_List <| EVs_nil ⟨by simp, fun e1 he1 => O_neNil (Sup.set he1 _ _ (Hp.set_self _ _ _)) (Hp.set_self _ _ _) <| T_bool ?_⟩⟩
    rw [z3]
    refine W.forget (σ' := canon A rt' S2 (lcan B V2 T)) ?_ ((Sup.set hhl).trans (by rw [z3] at he1; exact Sup.set he1))
    refine S_nil <| S_nil <| S_nil <| S_nil ?_
    exact fin h3 (by rw [hout]; exact f3)
  | false =>
  -- one is brought back
  refine S_cons <| S_If <| W.mono (Q := fun z μ3 σ => μ3 = μ'' ∧ σ = canon A rt S (lcan B V2 T) ∧ (z = true → it.mode = "spill")) ?_ ?_
  · refine T_And2 <| T_Compare <| E_loc fk3 <| E_int <| O_lt <| T_bool ?_
    cases (decide (kd < 6)) with
    | true => exact T_Compare <| E_Attr <| E_loc fo3 <| R_item w hit rfl <| E_str <| O_eq_str <| T_bool ⟨rfl, rfl, fun z => eq_of_beq z⟩
    | false => exact ⟨rfl, rfl, fun z => nomatch z⟩
  rintro z μ3 σ ⟨rfl, rfl, hz5⟩
  cases z with
  | true =>
    have hm := hz5 rfl
    obtain ⟨hwas, hs⟩ : it.was = "reg" ∧ (it.slot, a) ∈ S.spilled := by
      rcases hcase with ⟨q, _⟩ | ⟨_, q⟩
      · rw [hm] at q; exact absurd q.symm sne
      · exact q
    refine S_cons <| S_Expr <| E_Meth1 <| E_loc f3.co <| M_cls (canon_at w 0) (mc_unspill hK).fi (mc_unspill hK).fn <| EVs_cons <| E_loc fo3 <| EVs_nil ⟨.inl (mc_unspill hK).kp, C_fn (n := 5) (by omega) <| F_unspill hK (n := 0) w hsz h2.I.co (by omega) hcnt.2 hit (fun p hp q => by
        obtain ⟨_, j, hj, _, hmj⟩ := h2.I.own p hp
        rw [q, hit] at hj; cases hj
        rw [hm] at hmj; exact sne hmj.symm) ⟨_, hs, rfl⟩ (fun hall => let ⟨r, hr, _⟩ := victim_there h2.I hcnt.1 (ks := []) (by simp) hall; ⟨r, hr⟩) fun r S1 rt' tk w' kp => ⟨trivial, ?_⟩⟩
    have h3 := h2.unspill hit hs tk w' kp
    have hout : (unspillS a it r S1).out = S.out := (take_keep tk).2.1
    have hi3 : (unspillS a it r S1).items a = some { it with reg := r, mode := it.was } := put1_self
    generalize unspillS a it r S1 = S2 at *
    refine S_cons <| S_If <| T_Compare <| E_Attr <| E_loc fo3 <| R_item w' hi3 rfl <| E_str <| O_ne_str <| T_bool ?_
    rw [hwas]
    refine S_nil <| S_nil <| S_nil <| S_nil <| S_nil ?_
    exact fin h3 (by rw [hout]; exact f3)
  | false =>
  -- one is released
  refine S_cons <| S_If <| T_Compare <| E_loc fk3 <| E_int <| O_eq <| T_bool ?_
  cases (kd == 6) with
  | true =>
    refine S_cons <| S_Expr <| E_Meth1 <| E_loc f3.co <| M_cls (canon_at w 0) (mc_release hK).fi (mc_release hK).fn <| EVs_cons <| E_loc fo3 <| EVs_nil ⟨.inl (mc_release hK).kp, C_fn (n := 2) (by omega) <| F_release hK (n := 0) w hsz hit (by
        rcases hcase with ⟨q, ho⟩ | ⟨q, _, hs⟩
        · exact .inr ⟨q, ⟨_, ho, rfl⟩, h2.I.inOrder ho⟩
        · exact .inl ⟨q, _, hs, rfl⟩) fun w' ko => ⟨trivial, ?_⟩⟩
    have l' : LW A rt (releaseS a it S) B T := h2.l.of (V := V2) w' fun b _ o => ko b o
    have hmode : ∀ b j, b ∈ (T.map (·.2)).map (·.1) → b ≠ a → S.items b = some j → j.mode ≠ "none" := fun b j hb hne hj => by
      rcases h2.I.of_mem hj hb with ⟨q, _⟩ | ⟨q, _⟩ <;> rw [q] <;> decide
    refine S_cons <| S_AssignComp (by rfl) (E_loc f3.li <| .inl ⟨B 5, T.map fun e => .ref e.1, fun r acc σ => ∃ rs done, T = done ++ rs ∧ r = rs.map (fun e => AV.ref e.1) ∧ acc = (dropT a done).map (fun e => AV.ref e.1) ∧ σ = canon A rt (releaseS a it S) (lcan B V2 T), rfl, ⟨T, [], rfl, rfl, rfl, rfl⟩, ?_, by simp; omega, ?_, ?_⟩) (by decide) (by decide) (by decide)
    · rintro r acc σ ⟨rs, done, -, -, -, rfl⟩
      exact l'.get 5
    · rintro c' hn' hb' x r acc μ σ hlen ⟨rs, done, q1, q2, q3, rfl⟩
      cases rs with
      | nil => cases q2
      | cons e rs =>
        cases q2
        have he : e ∈ T := by rw [q1]; simp
        have heL : e.2.1 ∈ (T.map (·.2)).map (·.1) := List.mem_map.mpr ⟨e.2, List.mem_map_of_mem he, rfl⟩
        obtain ⟨j, hj⟩ := h2.I.it heL
        refine ⟨.inl ⟨_, _, rfl⟩, fun v hv => A_Name hv ?_⟩
        show TV _ _ _ _ _ _
        refine T_Compare <| E_Attr <| E_Sub <| E_loc (upd_self _ _ _) <| E_int <| I_tup (l'.ent he) (by decide) rfl ?_
        by_cases q : e.2.1 = a
        · refine R_item (i := { it with mode := "none" }) w' (by rw [release_items, if_pos q]) rfl <| E_str <| O_ne_str <| T_bool ⟨rs, done ++ [e], by rw [q1]; simp, rfl, ?_, rfl⟩
          have : dropT a (done ++ [e]) = dropT a done := by unfold dropT; rw [List.filter_append, List.filter_cons]; simp [q]
          rw [this]; exact q3
        · refine R_item (i := j) w' (by rw [release_items, if_neg q]; exact hj) rfl <| E_str <| O_ne_str <| T_bool ?_
          rw [show (j.mode != ("none" : Str)) = true from bne_iff_ne.mpr (hmode _ _ heL q hj)]
          refine E_loc (upd_self _ _ _) ⟨rs, done ++ [e], by rw [q1]; simp, rfl, ?_, rfl⟩
          have : dropT a (done ++ [e]) = dropT a done ++ [e] := by unfold dropT; rw [List.filter_append, List.filter_cons]; simp [q]
          rw [this, q3]; simp
    rintro acc σ ⟨rs, done, q1, q2, q3, rfl⟩ l5 hl5
    cases rs with
    | cons _ _ => cases q2
    | nil =>
    rw [List.append_nil] at q1
    rw [q3, ← q1]
    obtain ⟨o5, h5⟩ := Off.of_none hl5
    have l2 := h2.l.release (a := a) w' ko o5 h5
    rw [o5.set]
    refine W.forget (σ' := canon A rt (releaseS a it S) (lcan (setB B l5) V2 (dropT a T))) ?_ (canon_sup (lcan_release h2.l l2 h5))
    have h3 := h2.release hit haL l2
    have hout : (releaseS a it S).out = S.out := by unfold releaseS; split <;> rfl
    refine S_nil <| S_nil <| S_nil <| S_nil <| S_nil ?_
    exact fin h3 (by rw [hout]; exact f3.live)
  | false =>
  -- a word is taken
  refine S_cons <| S_If <| T_Compare <| E_loc fk3 <| E_int <| O_eq <| T_bool ?_
  cases (kd == 7) with
  | true =>
    have h3 := h2.temp
    have hout : (tempS S).2.out = S.out := by obtain ⟨t, l, l', e⟩ := tempS_eq S; rw [e]
    refine S_cons <| S_Expr <| E_Meth1 <| E_loc f3.wo <| M_list (h2.l.get 6) PySem.slot_list_append rfl <| EVs_cons <| E_Meth0 <| E_loc f3.co <| M_cls (canon_at w 0) (mc_temp hK).fi (mc_temp hK).fn ⟨.inl (mc_temp hK).kp, C_fn (n := 1) (by omega) <| F_temp hK (n := 0) w hsz <| EVs_nil ⟨trivial, C_append (xs := V2.words.map .int) (h3.l.get (V := V2) 6) (by simp; omega) ⟨trivial, ?_⟩⟩⟩
    rw [show V2.words.map AV.int ++ [AV.int (tempS S).1] = (V2.words ++ [(tempS S).1]).map AV.int by simp, h3.l.set_words]
    refine S_nil <| S_nil <| S_nil <| S_nil <| S_nil <| S_nil ?_
    exact fin h3 (by rw [hout]; exact f3)
  | false =>
  -- a word is freed
  refine S_cons <| S_If <| W.mono (Q := fun z μ4 σ => μ4 = μ3 ∧ σ = canon A rt S (lcan B V2 T) ∧ (z = true → V2.words ≠ [])) ?_ ?_
  · refine W.sup <| T_And2 <| T_Compare <| E_loc fk3 <| E_int <| O_eq <| T_bool ?_
    cases (kd == 8) with
    | true =>
      refine T_Compare <| E_loc f3.wo <| E_List <| EVs_nil ⟨by simp, fun e1 he1 => O_neNil (xs := V2.words.map .int) (Sup.set he1 _ _ (h2.l.get 6)) (Hp.set_self _ _ _) <| T_bool ⟨_, Sup.set he1, rfl, rfl, fun z e => ?_⟩⟩
      rw [e] at z; cases z
    | false => exact ⟨_, Sup.re, rfl, rfl, fun z => nomatch z⟩
  rintro z μ4 σ ⟨rfl, rfl, hz8⟩
  cases z with
  | true =>
    have hwn := hz8 rfl
    have hwp : 0 < V2.words.length := List.length_pos_iff.mpr hwn
    have hr := fmod_rng (a := pk) (b := (V2.words.length : Int)) (by omega)
    have hjl : (pk.fmod (V2.words.length : Int)).toNat < V2.words.length := by omega
    have hget : V2.words[(pk.fmod (V2.words.length : Int)).toNat]? = some (V2.words[(pk.fmod (V2.words.length : Int)).toNat]) := List.getElem?_eq_getElem hjl
    have h3 := h2.free hget
    generalize V2.words[(pk.fmod (V2.words.length : Int)).toNat] = x at *
    refine S_cons <| S_Expr <| E_Meth1 <| E_loc f3.co <| M_cls (canon_at w 0) (mc_free_temp hK).fi (mc_free_temp hK).fn <| EVs_cons <| E_Meth1 <| E_loc f3.wo <| M_list (h2.l.get 6) PySem.F.slot_list_pop rfl <| EVs_cons <| E_BinOp <| E_loc fp3 <| E_Call1 <| E_built (n_len hK) rfl rfl <| EVs_cons <| E_loc f3.wo <| EVs_nil ⟨trivial, C_len (xs := V2.words.map .int) (h2.l.get 6) (O_mod (by rw [List.length_map]; omega) <| EVs_nil ⟨trivial, C_popAt (xs := V2.words.map .int) (x := .int x) (h2.l.get 6) (by rw [List.length_map]; exact hr.1) (by rw [List.length_map, List.getElem?_map, hget]; rfl) (by simp; omega) ?_⟩) (by simp; omega)⟩
    rw [map_eraseI, List.length_map, h2.l.set_words]
    refine EVs_nil ⟨.inl (mc_free_temp hK).kp, C_fn (n := 1) (by omega) <| F_freeTemp hK (n := 0) w (by omega) ⟨trivial, ?_⟩⟩
    refine S_nil <| S_nil <| S_nil <| S_nil <| S_nil <| S_nil <| S_nil ?_
    exact fin h3 f3
  | false =>
  -- reaching out, and a map
  refine S_cons <| S_If <| T_Compare <| E_loc fk3 <| E_int <| O_eq <| T_bool ?_
  cases (kd == 9) with
  | true =>
    have hr := fmod_rng (a := pk) (b := 7) (by decide)
    refine S_cons <| S_AssignName <| E_Call1 <| E_built (n_max hK) rfl rfl <| EVs_cons <| E_loc f3.ou <| EVs_cons <| E_BinOp <| E_loc fp3 <| E_int <| O_mod (by decide) <| EVs_nil ⟨trivial, C_max ?_⟩
    have f4 : ML A B top (max S.out (pk.fmod 7)) (upd "out" (.int (max S.out (pk.fmod 7))) μ4) := f3.out
    have fp4 : HasL (upd "out" (.int (max S.out (pk.fmod 7))) μ4) "pick" (.int pk) := upd_ne fp3 (by decide)
    have fn4 : HasL (upd "out" (.int (max S.out (pk.fmod 7))) μ4) "number" (.int i) := upd_ne fn3 (by decide)
    generalize upd "out" (.int (max S.out (pk.fmod 7))) μ4 = μ5 at *
    have h3 := h2.out hr.1 (by omega : pk.fmod 7 ≤ 7)
    refine S_cons <| S_Expr <| E_Meth1 <| E_loc f4.co <| M_cls (canon_at w 0) (mc_reach_out hK).fi (mc_reach_out hK).fn <| EVs_cons <| E_BinOp <| E_loc fp4 <| E_int <| O_mod (by decide) <| EVs_nil ⟨.inl (mc_reach_out hK).kp, C_fn (n := 1) (by omega) <| F_reach hK (n := 0) w ⟨trivial, ?_⟩⟩
    have eS : ({ S with out := max S.out (pk.fmod 7) } : St).out = max S.out (pk.fmod 7) := rfl
    have em : ({ S with out := max S.out (pk.fmod 7) } : St).maps = S.maps := rfl
    rw [← eS] at f4
    generalize ({ S with out := max S.out (pk.fmod 7) } : St) = S2 at *
    have hrl := h3.rl
    refine S_cons <| S_If <| T_Or2 <| T_Compare <| E_Attr <| E_loc f4.co <| R_coder h3.l.w "out_words" rfl <| E_loc f4.ou <| O_ne <| T_bool ?_
    rw [bne_self_eq_false]
    refine T_Not <| T_val <| E_Call1 <| E_glob (n_mapRight hK).1 rfl <| EVs_cons <| E_loc f4.co <| EVs_cons <| E_loc f4.li <| EVs_cons <| E_loc f4.ro <| EVs_cons <| E_loc fn4 <| EVs_nil ⟨.inl (n_mapRight hK).2, C_fn (n := 10) (by omega) <| F_mapRight hK (n := 7) h3.l h3.I (h3.sz (by omega)) (by rw [em]; omega) (by omega) h3.ro fun m => T_bool ?_⟩
    refine S_nil <| S_nil <| S_nil <| S_nil <| S_nil <| S_nil <| S_nil <| S_nil <| S_nil ?_
    exact fin h3.maps f4
  | false =>
    refine S_nil <| S_nil <| S_nil <| S_nil <| S_nil <| S_nil <| S_nil <| S_nil ?_
    exact fin h2.skip f3
end Mine
end

section
open PySem PySem.W PySem.Calls PyProof.Rows
namespace Mine
theorem all11 {P : Nat → Prop} (h0 : P 0) (h1 : P 1) (h2 : P 2) (h3 : P 3) (h4 : P 4) (h5 : P 5) (h6 : P 6) (h7 : P 7) (h8 : P 8) (h9 : P 9) (h10 : P 10) : ∀ i, i < 11 → P i := fun i hi => by
  have : i = 0 ∨ i = 1 ∨ i = 2 ∨ i = 3 ∨ i = 4 ∨ i = 5 ∨ i = 6 ∨ i = 7 ∨ i = 8 ∨ i = 9 ∨ i = 10 := by omega
  rcases this with rfl | rfl | rfl | rfl | rfl | rfl | rfl | rfl | rfl | rfl | rfl <;> assumption
theorem all9 {P : Nat → Prop} (h0 : P 0) (h1 : P 1) (h2 : P 2) (h3 : P 3) (h4 : P 4) (h5 : P 5) (h6 : P 6) (h7 : P 7) (h8 : P 8) : ∀ i, i < 9 → P i := fun i hi => by
  have : i = 0 ∨ i = 1 ∨ i = 2 ∨ i = 3 ∨ i = 4 ∨ i = 5 ∨ i = 6 ∨ i = 7 ∨ i = 8 := by omega
  rcases this with rfl | rfl | rfl | rfl | rfl | rfl | rfl | rfl | rfl <;> assumption
theorem start_sup {σ : Hp} {zs : List (Addr × AObj)} (t : Trk σ zs) {A : Ad} {S : St} {B : Nat → Addr} {V : LV} (l : LW A [] S B []) (hi : S.items = fun _ => none)
    (hA : ∀ i, i < 11 → zs[aIdx i]? = some (A.at_ i, objOf A [] S i)) (hB : ∀ i, i < 9 → zs[bIdx i]? = some (B i, lobj B V [] i)) : Sup (canon A [] S (lcan B V [])) σ := fun b o ho => by
  rcases canon_cases0 hi ho with ⟨i, hi, rfl, rfl⟩ | ho
  · exact t.at_ (_, _) (List.mem_iff_getElem?.mpr ⟨_, hA i hi⟩)
  · rcases lcan_cases l ho with ⟨i, hi, rfl, rfl⟩ | ⟨e, he, _⟩
    · exact t.at_ (_, _) (List.mem_iff_getElem?.mpr ⟨_, hB i hi⟩)
    · cases he
variable {G : Gx} (hK : KG G)
include hK
set_option maxHeartbeats 4000000 in
theorem law_rest {qual : Str} {body : List Stmt} {scope : Scope} (hb : topAt 24 "law" = some (qual, body, scope))
    (c : Cx G) (hn : 40 ≤ c.n) (f : Addr) (cdv0 : Value) {A : Ad} {top : Int} {S0 : St} {B0 : Nat → Addr} {V0 : LV} {μ0 : Loc} (hL : LI A top 0 3 [] S0 B0 V0 []) (hM : ML A B0 top S0.out μ0) (hcnt : 4 ≤ A.count ∧ A.count < 1000) :
    SV c (execs (body.drop 10) (envOf qual scope c.L f cdv0)) μ0 (canon A [] S0 (lcan B0 V0 [])) (fun fl _ _ => fl = .ret (.bool true)) := by
  refine' same_fn hb ?ho (P := fun q b s => SV c (execs (b.drop 10) (envOf q s c.L f cdv0)) μ0 (canon A [] S0 (lcan B0 V0 [])) (fun fl _ _ => fl = .ret (.bool true))) ?_
  case ho => rfl
  have ne01 : ∀ {i : Nat} {m : Int} {rt : List Addr} {S : St} {B : Nat → Addr} {V : LV} {T : Live}, LI A top i m rt S B V T → B 0 ≠ B 1 := fun h e => absurd (h.l.inj 0 1 (by decide) (by decide) e) (by decide)
  -- the deeds
  refine S_cons <| S_ForRange <| E_Call1 <| E_built (n_range hK) rfl rfl <| EVs_cons <| E_BinOp <| E_int <| E_Call1 <| E_glob (n_pull hK).1 rfl <| EVs_cons <| E_loc hM.we <| EVs_cons <| E_int <| EVs_nil ⟨.inl (n_pull hK).2, C_fn (n := 1) (by omega) <| F_pull hK (n := 0) (hL.l.get 0) (hL.l.get 1) (ne01 hL) hL.wa hL.ws0 (by have := hL.ws1; omega) hL.cs0 (by have := hL.cs1; omega) (by decide) (by decide) fun cnt wa4 s4 y1 y2 y3 y4 y5 => O_add <| EVs_nil ⟨trivial, C_range fun rg2 hrg2 => ?_⟩⟩
  have hws := hL.ws1
  have hws0 := hL.ws0
  rw [hL.l.set_well wa4 s4] at hrg2 ⊢
  have hL1 := hL.well (m' := 4) y3 (by omega) (by omega : s4 ≤ 4)
  refine ⟨rg2, 6 + cnt, fun i μ σ => ∃ rt S B V T, Sup (canon A rt S (lcan B V T)) σ ∧ LI A top i.toNat (4 + 2 * i) rt S B V T ∧ ML A B top S.out μ, rfl, Hp.set_self _ _ _, by omega, by omega, ⟨_, _, _, _, _, Sup.set hrg2, by simpa using hL1, hM⟩, ?_, ?_⟩
  · rintro b hbs i μ σ i0 i1 ⟨rt, S, B, V, T, hsup, h, hMu⟩
    refine ⟨⟨_, _, rfl⟩, fun v hv => A_Name hv ?_⟩
    refine W.forget ?_ hsup
    clear hsup
    have f0 : ML A B top S.out (upd "number" (.int i) μ) := hMu.upd
    have fnum : HasL (upd "number" (.int i) μ) "number" (.int i) := upd_self _ _ _
    generalize upd "number" (.int i) μ = μ1 at *
    refine' law_turn hK ?hbx ?hfx (c.rebase b hbs) hn f cdv0 i0 (by omega) hcnt h f0 fnum
    case hbx => rfl
    case hfx => rfl
  rintro μ σ ⟨rt, S, B, V, T, hsup, h, f0⟩
  refine W.forget ?_ hsup
  clear hsup
  have hN : (6 + cnt).toNat ≤ 30 := by omega
  generalize (6 + cnt).toNat = N at *
  generalize 4 + 2 * (6 + cnt) = m at *
  have hTl := h.bd.t
  obtain ⟨ity2, hity2⟩ := h.it
  -- one more is taken
  refine S_cons <| S_If <| T_Not <| T_val <| E_Call1 <| E_glob (n_taken hK).1 rfl <| EVs_cons <| E_loc f0.co <| EVs_cons <| E_loc f0.li <| EVs_cons <| E_int <| EVs_cons <| E_bool <| EVs_cons <| E_List <| EVs_nil ⟨by simp, fun kl hkl => EVs_nil ⟨.inl (n_taken hK).2, C_fn (n := 10) (by omega) <| F_taken hK (n := 5) (ks := []) h.l h.I (h.sz (by omega)) hcnt.1 hcnt.2 h.ty hity2 hkl (by simp) (fun _ z => nomatch z) (by omega) fun rt2 S2 t x l2 I2 ke hu hr hx => T_bool ?_⟩⟩
  have h2 := h.take l2 I2 ke hu hr
  have f2 : ML A B top S2.out μ := by rw [ke.2.1]; exact f0
  obtain ⟨ix, hix, hmx⟩ := hx
  clear h hu hr ke I2 l2
  have hxm : (t, (x, (77 : Int))) ∈ T ++ [(t, (x, 77))] := by simp
  have hxL : x ∈ ((T ++ [(t, (x, (77 : Int)))]).map (·.2)).map (·.1) := List.mem_map.mpr ⟨(x, 77), List.mem_map_of_mem (f := (·.2)) hxm, rfl⟩
  have hlast : ((T ++ [(t, (x, (77 : Int)))]).map fun e => AV.ref e.1)[T.length]? = some (.ref t) := by simp
  have hlen : (T ++ [(t, (x, (77 : Int)))]).length = T.length + 1 := by simp
  have eent := h2.l.ent (V := V) hxm
  generalize T ++ [(t, (x, (77 : Int)))] = T2 at *
  refine S_nil <| S_cons <| S_AssignName <| E_Sub <| E_Sub <| E_loc f2.li <| E_BinOp <| E_Call1 <| E_built (n_len hK) rfl rfl <| EVs_cons <| E_loc f2.li <| EVs_nil ⟨trivial, C_len (h2.l.get 5) (E_int <| O_sub <| I_list (x := .ref t) (h2.l.get 5) (by simp; omega) (by rw [List.length_map, hlen, show (((T.length + 1 : Nat) : Int) - 1).toNat = T.length by omega]; exact hlast) (E_int <| I_tup eent (by decide) rfl ?_) (by rw [List.length_map, hlen]; omega)) (by rw [List.length_map]; omega)⟩
  have f3 : ML A B top S2.out (upd "last" (.ref x) μ) := f2.upd
  have fx : HasL (upd "last" (.ref x) μ) "last" (.ref x) := upd_self _ _ _
  show SV _ _ (upd "last" (.ref x) μ) _ _
  generalize upd "last" (.ref x) μ = μ2 at *
  have hown : (ix.reg, x) ∈ S2.own := by
    rcases h2.I.of_mem hix hxL with ⟨_, q⟩ | ⟨q, _⟩
    · exact q
    · rw [hmx] at q; exact absurd q sne
  have hsz2 := h2.sz (by omega)
  refine S_cons <| S_Expr <| E_Meth1 <| E_loc f3.co <| M_cls (canon_at h2.l.w 0) (mc_spill hK).fi (mc_spill hK).fn <| EVs_cons <| E_loc fx <| EVs_nil ⟨.inl (mc_spill hK).kp, C_fn (n := 2) (by omega) <| F_spill hK (n := 0) h2.l.w hsz2 hix ⟨_, hown, rfl⟩ (h2.I.inOrder hown) h2.I.slotN fun rt3 w3 kp3 => ⟨trivial, ?_⟩⟩
  have h3 := h2.spill hix hown w3 kp3
  have hi3 : (spillS x ix S2).items x = some { ix with mode := "spill", was := ix.mode, slot := (tempS S2).1, reg := -1 } := spill_self
  have hs3 : ((tempS S2).1, x) ∈ (spillS x ix S2).spilled := by show _ ∈ S2.spilled ++ [_]; simp
  have hm3 : (spillS x ix S2).maps = S2.maps := spill_keep.2.2
  have bm := h2.bd.m
  have hrl := h3.rl
  refine S_cons <| S_If <| T_Not <| T_val <| E_Call1 <| E_glob (n_mapRight hK).1 rfl <| EVs_cons <| E_loc f3.co <| EVs_cons <| E_loc f3.li <| EVs_cons <| E_loc f3.ro <| EVs_cons <| E_int <| EVs_nil ⟨.inl (n_mapRight hK).2, C_fn (n := 10) (by omega) <| F_mapRight hK (n := 7) h3.l h3.I (h3.sz (by omega)) (by rw [hm3]; omega) (by omega) h3.ro fun mm => T_bool ?_⟩
  have h4 := h3.maps (row := 500) (v := .ref mm)
  have hi4 : ({ spillS x ix S2 with maps := putAt (spillS x ix S2).maps 500 (.ref mm) } : St).items x = some { ix with mode := "spill", was := ix.mode, slot := (tempS S2).1, reg := -1 } := hi3
  have hs4 : ((tempS S2).1, x) ∈ ({ spillS x ix S2 with maps := putAt (spillS x ix S2).maps 500 (.ref mm) } : St).spilled := hs3
  generalize ({ spillS x ix S2 with maps := putAt (spillS x ix S2).maps 500 (.ref mm) } : St) = S4 at *
  refine S_nil <| S_cons <| S_Expr <| E_Meth1 <| E_loc f3.co <| M_cls (canon_at h4.l.w 0) (mc_unspill hK).fi (mc_unspill hK).fn <| EVs_cons <| E_loc fx <| EVs_nil ⟨.inl (mc_unspill hK).kp, C_fn (n := 5) (by omega) <| F_unspill hK (n := 0) h4.l.w (h4.sz (by omega)) h4.I.co (by omega) hcnt.2 hi4 (fun p hp q => by
      obtain ⟨_, j, hj, _, hmj⟩ := h4.I.own p hp
      rw [q, hi4] at hj; cases hj
      exact sne hmj.symm) ⟨_, hs4, rfl⟩ (fun hall => let ⟨r, hr, _⟩ := victim_there h4.I hcnt.1 (ks := []) (by simp) hall; ⟨r, hr⟩) fun r S5 rt5 tk w5 kp5 => ⟨trivial, ?_⟩⟩
  have h5 := h4.unspill hi4 hs4 tk w5 kp5
  have b5t := h5.bd.t
  have b5u := h5.bd.u
  exact S_cons <| S_Return <| E_Call1 <| E_glob (n_allRight hK).1 rfl <| EVs_cons <| E_loc f3.co <| EVs_cons <| E_loc f3.ma <| EVs_cons <| E_loc f3.li <| EVs_cons <| E_loc f3.wo <| EVs_cons <| E_loc f3.cn <| EVs_cons <| E_loc f3.tp <| EVs_nil ⟨.inl (n_allRight hK).2, C_fn (n := 10) (by omega) <| F_allRight hK (n := 7) h5.l h5.I (h5.sz (by omega)) h5.ma (by omega) (by omega) (.of_left (by decide)) fun R' W' e => rfl⟩
set_option maxHeartbeats 4000000 in
theorem law_sv {qual : Str} {body : List Stmt} {scope : Scope} (hb : topAt 24 "law" = some (qual, body, scope))
    (c : Cx G) (hn : 40 ≤ c.n) {l : Addr} {us : List Value} {k : Nat} {script : List Int} {lo0 : Obj} (hl : c.base.get? l = some lo0) (hlc : lo0.cls = .type "list") (hld : lo0.data = .seq us.toArray k) (hu : avs us (script.map .int)) (hz : script.length ≤ 63) (f : Addr) (cdv0 : Value) :
    SV c (execs body (envOf qual scope c.L f cdv0)) [("script", .ref l)] Hp.emp (fun fl _ _ => fl = .ret (.bool true)) := by
  refine' same_fn hb ?ho (P := fun q b s => SV c (execs b (envOf q s c.L f cdv0)) [("script", .ref l)] Hp.emp (fun fl _ _ => fl = .ret (.bool true))) ?_
  case ho => rfl
  -- well
  refine S_cons <| S_AssignName <| E_List <| EVs_cons <| E_int <| EVs_cons <| E_SliceTo <| E_BinOp <| E_Call1 <| E_built (n_list hK) rfl rfl <| EVs_cons <| E_loc rfl <| EVs_nil ⟨trivial, C_listB hl hlc hld hu (by simp; omega) fun a1 h1 => E_List <| EVs_cons <| E_int <| EVs_nil ⟨by simp, fun a2 h2 => O_addl (Sup.set h2 _ _ (Hp.set_self _ _ _)) (Hp.set_self _ _ _) (by simp; omega) fun a3 h3 => ⟨a3, _, rfl, E_int ⟨40, rfl, Hp.set_self _ _ _, by decide, by simp; omega, fun cl hcl => ?_⟩⟩⟩⟩
  have T0 := (Trk.nil (σ := ((Hp.emp.set a1 (.list (script.map .int))).set a2 (.list [.int 0])).set a3 (.list (script.map .int ++ [.int 0])))).new (o := .list ((script.map AV.int ++ [AV.int 0]).take (40 : Int).toNat)) hcl
  have ecs : (script.map AV.int ++ [AV.int 0]).take (40 : Int).toNat = ((script ++ [0]).take 40).map AV.int := by rw [List.map_take, List.map_append]; rfl
  have cs0 : (script ++ [0]).take 40 ≠ [] := fun e => by
    have := congrArg List.length e
    rw [List.length_take, List.length_append] at this; simp at this
  have cs1 : ((script ++ [0]).take 40).length ≤ 40 := by rw [List.length_take]; omega
  rw [ecs] at T0 ⊢
  generalize (script ++ [0]).take 40 = cs at *
  generalize ((Hp.emp.set a1 (.list (script.map .int))).set a2 (.list [.int 0])).set a3 (.list (script.map .int ++ [.int 0])) = σ0 at *
  refine EVs_cons <| E_int <| EVs_nil ⟨by simp, fun wl hwl => ?_⟩
  have T1 := T0.new (o := .list [.int 0, .ref cl, .int 0]) hwl
  have hwc : wl ≠ cl := fun e => by have := T1.nd; simp [e] at this
  clear T0
  generalize (σ0.set cl (.list (cs.map .int))).set wl (.list [.int 0, .ref cl, .int 0]) = σ1 at *
  -- count
  refine S_cons <| S_AssignName <| E_BinOp <| E_int <| E_Call1 <| E_glob (n_pull hK).1 rfl <| EVs_cons <| E_loc rfl <| EVs_cons <| E_int <| EVs_nil ⟨.inl (n_pull hK).2, C_fn (n := 1) (by omega) <| F_pull hK (n := 0) (T1.at_ _ (.head _)) (T1.at_ _ (.tail _ (.head _))) hwc (Int.le_refl _) (Int.le_refl _) (by decide) cs0 (by omega) (by decide) (by decide) fun r1 wa1 s1 p1 p2 p3 p4 p5 => O_add ?_⟩
  have T2 := T1.upd (o' := .list [.int wa1, .ref cl, .int s1])
  clear T1
  generalize σ1.set wl (.list [.int wa1, .ref cl, .int s1]) = σ2 at *
  -- the coder
  refine S_cons <| S_AssignName <| E_Call1 <| E_glob (n_Coder hK) rfl <| EVs_cons <| E_Call0 <| E_glob (n_Types hK) rfl ⟨.inl (k_types hK).kp, C_make (n := 10) (k_types hK).cf (k_types hK).mkI (k_types hK).ini (k_types hK).fn (by omega) fun ty hty => F_typesInit hK (n := 6) fun tya ity hity => ⟨rfl, ?_⟩⟩
  have T3 := T2.new2 (o := .inst 408 tya) hty
  clear T2
  generalize σ2.set ty (.inst 408 tya) = σ3 at *
  refine EVs_cons <| E_str <| EVs_cons <| E_loc rfl <| EVs_nil ⟨.inl (k_coder hK).kp, C_make (n := 10) (k_coder hK).cf (k_coder hK).mkI (k_coder hK).ini (k_coder hK).fn (by omega) fun cd hcd => F_coderInit hK (n := 7) hcd fun rows buf d lo pool sp maps p nd non pt pm' pb pp pma => ⟨rfl, ?_⟩⟩
  simp only [List.nodup_cons, List.mem_cons, List.not_mem_nil, or_false, not_or, List.nodup_nil, and_true, not_false_eq_true] at nd
  obtain ⟨⟨n1, n2, n3, n4, n5, n6, n7⟩, ⟨n8, n9, n10, n11, n12, n13⟩, ⟨n14, n15, n16, n17, n18⟩, ⟨n19, n20, n21, n22⟩, ⟨n23, n24, n25⟩, ⟨n26, n27⟩, n28⟩ := nd
  have nr := non rows (.head _)
  have nb := non buf (.tail _ (.head _))
  have nd' := non d (.tail _ (.tail _ (.head _)))
  have nl := non lo (.tail _ (.tail _ (.tail _ (.head _))))
  have np := non pool (.tail _ (.tail _ (.tail _ (.tail _ (.head _)))))
  have ns := non sp (.tail _ (.tail _ (.tail _ (.tail _ (.tail _ (.head _))))))
  have nm := non maps (.tail _ (.tail _ (.tail _ (.tail _ (.tail _ (.tail _ (.head _)))))))
  have set2 : ∀ {σ : Hp} {x y : Addr} {o : AObj}, σ x = none → x ≠ y → (σ.set y o) x = none := fun h hne => by rw [Hp.set_ne hne]; exact h
  have T4 := T3.new2 (o := .list []) nr
  have T5 := T4.new2 (o := .inst 87 [("rows", .ref rows)]) (set2 nb (Ne.symm n8))
  have T6 := T5.new2 (o := .idict []) (set2 (set2 nd' (Ne.symm n9)) (Ne.symm n14))
  have T7 := T6.new2 (o := .list []) (set2 (set2 (set2 nl (Ne.symm n10)) (Ne.symm n15)) (Ne.symm n19))
  have T8 := T7.new2 (o := .inst 209 (poolL (4 + r1) d lo (.ref sp))) (set2 (set2 (set2 (set2 np (Ne.symm n11)) (Ne.symm n16)) (Ne.symm n20)) (Ne.symm n23))
  have T9 := T8.new2 (o := .meth 277 cd) (set2 (set2 (set2 (set2 (set2 ns (Ne.symm n12)) (Ne.symm n17)) (Ne.symm n21)) (Ne.symm n24)) (Ne.symm n26))
  have T10 := T9.new2 (o := .idict []) (set2 (set2 (set2 (set2 (set2 (set2 nm (Ne.symm n13)) (Ne.symm n18)) (Ne.symm n22)) (Ne.symm n25)) (Ne.symm n27)) (Ne.symm n28))
  have T11 := T10.new2 (o := .inst 351 p.loc) (set2 (set2 (set2 (set2 (set2 (set2 (set2 hcd n1) n2) n3) n4) n5) n6) n7)
  clear T3 T4 T5 T6 T7 T8 T9 T10
  generalize (((((((σ3.set rows (.list [])).set buf (.inst 87 [("rows", .ref rows)])).set d (.idict [])).set lo (.list [])).set pool (.inst 209 (poolL (4 + r1) d lo (.ref sp)))).set sp (.meth 277 cd)).set maps (.idict [])).set cd (.inst 351 p.loc) = σ4 at *
  -- top
  refine S_cons <| S_AssignName <| E_BinOp <| E_UnaryOp <| E_int <| O_neg <| E_BinOp <| E_int <| E_Call1 <| E_glob (n_pull hK).1 rfl <| EVs_cons <| E_loc rfl <| EVs_cons <| E_int <| EVs_nil ⟨.inl (n_pull hK).2, C_fn (n := 1) (by omega) <| F_pull hK (n := 0) (T11.at_ _ (.head _)) (T11.at_ (cl, _) (List.mem_iff_getElem?.mpr ⟨10, rfl⟩)) hwc p3 (by omega) (by omega) cs0 (by omega) (by decide) (by decide) fun r2 wa2 s2 q1 q2 q3 q4 q5 => O_mul (.of_left (by decide)) <| O_sub ?_⟩
  have T12 := T11.upd (o' := .list [.int wa2, .ref cl, .int s2])
  clear T11
  generalize σ4.set wl (.list [.int wa2, .ref cl, .int s2]) = σ5 at *
  -- roots
  refine S_cons <| S_AssignComp (by rfl) (E_Call1 <| E_built (n_range hK) rfl rfl <| EVs_cons <| E_Call1 <| E_glob (n_pull hK).1 rfl <| EVs_cons <| E_loc rfl <| EVs_cons <| E_int <| EVs_nil ⟨.inl (n_pull hK).2, C_fn (n := 1) (by omega) <| F_pull hK (n := 0) (T12.at_ _ (.head _)) (T12.at_ (cl, _) (List.mem_iff_getElem?.mpr ⟨10, rfl⟩)) hwc q3 (by omega) (by omega) cs0 (by omega) (by decide) (by decide) fun r3 wa3 s3 z1 z2 z3 z4 z5 => EVs_nil ⟨trivial, C_range fun rg hrg => .inr ⟨rg, r3, fun i acc σ => σ = (σ5.set wl (.list [.int wa3, .ref cl, .int s3])).set rg (.rng r3) ∧ ∃ ys : List Int, acc = ys.map .int ∧ (ys.length : Int) = i, rfl, Hp.set_self _ _ _, z1, by omega, ⟨rfl, [], rfl, rfl⟩, ?_, ?_⟩⟩⟩) (by decide) (by decide) (by decide)
  · rintro c' hn' hb' i acc μ σ i0 i1 hlen ⟨rfl, ys, e1, e2⟩
    refine ⟨⟨_, _, rfl⟩, fun v hv => A_Name hv ?_⟩
    exact E_BinOp <| E_UnaryOp <| E_int <| O_neg <| E_BinOp <| E_int <| E_loc (upd_self _ _ _) <| O_mul (.of_left (by decide)) <| O_sub ⟨rfl, ys ++ [_], by rw [e1, List.map_append]; rfl, by rw [List.length_append]; simp; omega⟩
  rintro acc σ ⟨rfl, ys, rfl, hys⟩ rl hrl
  have T13 := (T12.upd (o' := .list [.int wa3, .ref cl, .int s3])).sup (Sup.set (o := .rng r3) hrg)
  have T14 := T13.new3 (o := .list (ys.map .int)) hrl
  clear T12 T13
  generalize ((σ5.set wl (.list [.int wa3, .ref cl, .int s3])).set rg (.rng r3)).set rl (.list (ys.map .int)) = σ6 at *
  -- enter
  have ecd : σ6 cd = some (.inst 351 p.loc) := T14.at_ (cd, .inst 351 p.loc) (List.mem_iff_getElem?.mpr ⟨1, rfl⟩)
  have erl : σ6 rl = some (.list (ys.map .int)) := T14.at_ (rl, .list (ys.map .int)) (List.mem_iff_getElem?.mpr ⟨2, rfl⟩)
  refine S_cons <| S_Expr <| E_Meth1 <| E_loc rfl <| M_cls ecd (mc_enter hK).fi (mc_enter hK).fn <| EVs_cons <| E_none <| EVs_cons <| E_int <| EVs_cons <| E_BinOp <| E_UnaryOp <| E_int <| O_neg <| E_loc rfl <| O_sub <| EVs_cons <| E_loc rfl <| EVs_nil ⟨.inl (mc_enter hK).kp, C_fn (n := 1) (by omega) <| F_enter hK (n := 0) ecd erl (by omega) fun ro te sd g1 g2 g3 g4 g5 g6 g7 g8 g9 => ⟨trivial, ?_⟩⟩
  have T15 := T14.new3 (o := .list (ys.map .int)) g2
  have T16 := T15.new3 (o := .list []) (set2 g5 g4)
  have T17 := (T16.new3 (o := .idict []) (set2 (set2 g9 g8) g7)).upd2 (o' := .inst 351 ({ p with level := 1, roots := .ref ro, low := 0 - 8 - (-8 - (-8 - 4 * r2)), lowest := 0 - 8 - (-8 - (-8 - 4 * r2)), temps := .ref te, spilled := .ref sd, out := 0 } : CR).loc)
  clear T14 T15 T16
  generalize (((σ6.set ro (.list (ys.map .int))).set te (.list [])).set sd (.idict [])).set cd _ = σ7 at *
  -- machine
  refine S_cons <| S_AssignName <| E_DictS fun md hmd => EVp_cons <| E_str ⟨_, rfl, E_int <| EVp_cons <| E_str ⟨_, rfl, E_Dict0i fun rd hrd => EVp_cons <| E_str ⟨_, rfl, E_Dict0i fun wd hwd => EVp_nil ?_⟩⟩⟩
  have T18 := T17.new (o := .sdict []) hmd
  have T19 := T18.new2 (o := .idict []) hrd
  have T20 := T19.new2 (o := .idict []) hwd
  refine ⟨T20.at_ _ (.head _), (show (["at", "regs", "words"] : List Str).Nodup by decide), ?_⟩
  have T21 := T20.upd (o' := .sdict [("at", .int 0), ("regs", .ref rd), ("words", .ref wd)])
  clear T17 T18 T19 T20
  generalize (((σ7.set md (.sdict [])).set rd (.idict [])).set wd (.idict [])).set md (.sdict [("at", .int 0), ("regs", .ref rd), ("words", .ref wd)]) = σ8 at *
  refine S_cons <| S_AssignName <| E_List <| EVs_nil ⟨by simp, fun lv hlv => ?_⟩
  have T22 := T21.new (o := .list []) hlv
  clear T21
  generalize σ8.set lv (.list []) = σ9 at *
  refine S_cons <| S_AssignName <| E_List <| EVs_nil ⟨by simp, fun ww hww => ?_⟩
  have T23 := T22.new (o := .list []) hww
  clear T22
  generalize σ9.set ww (.list []) = σ10 at *
  refine S_cons <| S_AssignName <| E_int ?_
  obtain ⟨p1', p2', p3', p4', p5', p6', p7', p8', p9', p10', p11', p12', p13', p14', p15', p16', p17', p18'⟩ := p
  cases pt
  cases pm'
  cases pb
  cases pp
  cases pma
  have nd : [ww, lv, md, wd, rd, wl, cd, sd, te, ro, rl, maps, sp, pool, lo, d, buf, rows, ty, cl].Nodup := T23.nd
  have htop : (-8 - 4 * r2) % 4 = 0 := by omega
  have elb : 0 - 8 - (-8 - (-8 - 4 * r2)) = -8 - 4 * r2 := by omega
  rw [elb] at T23
  have hL := start_LI (xs := [ww, lv, md, wd, rd, wl, cd, sd, te, ro, rl, maps, sp, pool, lo, d, buf, rows, ty, cl]) (ty := ty) (p := ⟨.ref ty, .str "M", .ref buf, .ref pool, p5', p6', p7', .ref maps, p9', p10', p11', p12', p13', p14', p15', p16', p17', p18'⟩) (count := 4 + r1) (m := 3) nd rfl z3 (by omega) (by omega : s3 ≤ 3) cs0 cs1 (ys := ys) (by omega) htop rfl hity
  have hS := start_sup (V := startV wa3 s3 cs ys tya) T23 hL.l rfl (all11 rfl rfl rfl rfl rfl rfl rfl rfl rfl rfl rfl) (all9 rfl rfl rfl rfl rfl rfl rfl rfl rfl)
  refine W.forget ?_ hS
  -- what the law's locals are
  have hM : ML (startA [ww, lv, md, wd, rd, wl, cd, sd, te, ro, rl, maps, sp, pool, lo, d, buf, rows, ty, cl] ty ⟨.ref ty, .str "M", .ref buf, .ref pool, p5', p6', p7', .ref maps, p9', p10', p11', p12', p13', p14', p15', p16', p17', p18'⟩ (4 + r1)) (startB [ww, lv, md, wd, rd, wl, cd, sd, te, ro, rl, maps, sp, pool, lo, d, buf, rows, ty, cl]) (-8 - 4 * r2) (startS (-8 - 4 * r2) ys).out (upd "out" (AV.int 0) (upd "words" (AV.ref ww) (upd "live" (AV.ref lv) (upd "machine" (AV.ref md) (upd "roots" (AV.ref rl) (upd "top" (AV.int (-8 - 4 * r2)) (upd "coder" (AV.ref cd) (upd "count" (AV.int (4 + r1)) (upd "well" (AV.ref wl) [("script", .ref l)]))))))))) := ⟨rfl, rfl, rfl, rfl, rfl, rfl, rfl, rfl, rfl⟩
  have hcnt : 4 ≤ (startA [ww, lv, md, wd, rd, wl, cd, sd, te, ro, rl, maps, sp, pool, lo, d, buf, rows, ty, cl] ty ⟨.ref ty, .str "M", .ref buf, .ref pool, p5', p6', p7', .ref maps, p9', p10', p11', p12', p13', p14', p15', p16', p17', p18'⟩ (4 + r1)).count ∧ (startA [ww, lv, md, wd, rd, wl, cd, sd, te, ro, rl, maps, sp, pool, lo, d, buf, rows, ty, cl] ty ⟨.ref ty, .str "M", .ref buf, .ref pool, p5', p6', p7', .ref maps, p9', p10', p11', p12', p13', p14', p15', p16', p17', p18'⟩ (4 + r1)).count < 1000 := ⟨by show 4 ≤ 4 + r1; omega, by show 4 + r1 < 1000; omega⟩
  clear hS T23 nd nr nb nd' nl np ns nm non
  have hR := law_rest hK (rfl : topAt 24 "law" = some (_, _, _)) c hn f cdv0 hL hM hcnt
  exact hR
end Mine
end

section
open PySem PySem.W PySem.Calls PyProof.Rows
namespace Mine

theorem emp_lay {G : Gx} {base h : Heap} : Lay G base Hp.emp h (fun b => b) :=
  ⟨fun _ _ e => (nomatch e), fun _ _ e => (nomatch e), fun _ _ _ e => (nomatch e), fun _ _ e => (nomatch e), fun _ _ _ _ e => (nomatch e)⟩
theorem law_walk {prog : Program} {w : World} {p : Program} {loose : List Str} {mg mb : Str → Option Value} {h0 : Heap} {K : Frag} (kf : KF K) (KX : K.In h0) (T : TopRead p loose mg mb h0)
    {qual : Str} {body : List Stmt} {scope : Scope} (hb : topAt 24 "law" = some (qual, body, scope))
    (A : Around) (ok : AOk A 40) {l : Addr} {lo0 : Obj} {us : List Value} {k : Nat} {script : List Int} (hl : h0.get? l = some lo0) (hlc : lo0.cls = .type "list") (hld : lo0.data = .seq us.toArray k) (hu : avs us (script.map .int)) (hz : script.length ≤ 63) (f : Addr) (cdv0 : Value)
    (s : Shared) (F : Fr h0 h0.objs.size s.heap fun x => ([("script", Value.ref l)] : List (Str × Value)).lookup x) (hg : s.gens = #[]) :
    wpAny (model prog w) A (execs body (envOf qual scope h0.objs.size f cdv0)) (fun fl s' => fl = .ret (.bool true) ∧ s'.gens = #[] ∧ s'.os = s.os ∧ ∃ m, Fr h0 h0.objs.size s'.heap m) (fun _ _ => False) s := by
  have hbase : BaseOk (⟨prog, w, K, p, loose, mg, mb, s.os⟩ : Gx) h0 := ⟨KX, T⟩
  have hoff : h0.get? h0.objs.size = none := by
    cases q : h0.get? h0.objs.size with
    | none => rfl
    | some o => exact absurd (Heap.lt_size q) (Nat.lt_irrefl _)
  let c : Cx (⟨prog, w, K, p, loose, mg, mb, s.os⟩ : Gx) := ⟨A, h0, h0.objs.size, 40, ok, hbase, h0, hbase, Nat.le_refl _, fun _ _ e => e⟩
  have Fx : FRep (⟨prog, w, K, p, loose, mg, mb, s.os⟩ : Gx) c.base c.L [("script", .ref l)] Hp.emp s.heap := by
    refine ⟨F.keep, hoff, ⟨_, F.ns, fun x => ?_⟩, _, emp_lay, fun _ _ e => (nomatch e)⟩
    simp only [List.lookup_cons, List.lookup_nil]
    cases (x == ("script" : Str)) <;> rfl
  refine wpAny_mono (law_sv (G := ⟨prog, w, K, p, loose, mg, mb, s.os⟩) kf hb c (Nat.le_refl _) hl hlc hld hu hz f cdv0 s Fx ⟨hg, rfl⟩) (fun fl s' z => ?_) fun _ _ z => z
  obtain ⟨μ', σ', F', S', x, e, rfl⟩ := z
  obtain ⟨m, hn, _⟩ := F'.loc
  refine ⟨?_, S'.1, S'.2, m, hn, F'.keep, Nat.le_refl _⟩
  cases fl with
  | ret v =>
    have e' : (av v).map AF.ret = some (.ret (.bool true)) := e
    cases q : av v with
    | none => rw [q] at e'; cases e'
    | some y => rw [q] at e'; cases e'; rw [av_bool q]
  | next => cases e
  | brk => cases e
  | cont => cases e
theorem caller_ok {e : Env} : AOk (callerA.deeper e) 40 := ⟨rfl, by show 1 + claimMargin + 1 + 2 * 40 < 900; decide +kernel, by show 4 + 3 + 12 * 40 < 9000; decide⟩
end Mine
end

open PySem PySem.W PySem.Calls PyProof.Rows
namespace Mine
theorem len_cons {n : Nat} {vs : List Value} (h : vs.length = n + 1) : ∃ a r, vs = a :: r ∧ r.length = n := by
  cases vs with
  | nil => cases h
  | cons a r => exact ⟨a, r, rfl, Nat.succ.inj h⟩
theorem len_nil {vs : List Value} (h : vs.length = 0) : vs = [] := List.length_eq_zero_iff.mp h
theorem EntOk.mk {K : Frag} {f : Addr} {d : Option (Str × List Stmt × Scope)} {m : Nat} {ps : List Str} {ds : List AV} {name qual : Str} {params : Arguments} {body : List Stmt} {scope : Scope} {dV kV doc pm cdv ct oc : Value} {an od : Option Addr} {osl : Array (Option Value)}
    (ho : K.lookup f = some ⟨oc, od, .func (fnOf name qual params body scope dV kV doc pm an cdv ct), osl⟩) (hd : d = some (qual, body, scope)) (hcd : codeIn K cdv qual = true)
    (hb : ∀ vs : List Value, vs.length = m → ∀ s : Shared, K.In s.heap → ∃ us, avs us ds ∧ BindsTo s (fnOf name qual params body scope dV kV doc pm an cdv ct) ⟨vs, []⟩ (ps.zip (vs ++ us)))
    (g1 : ps.all (fun y => scope.names.lookup y == some .local) = true) (g2 : ∀ x ∈ scope.names, x.2 ≠ .cell) (g3 : scope.isCoroutine = false) (g4 : scope.isGenerator = false) (g5 : scope.kind = .function) : EntOk K f d m ps ds :=
  ⟨_, _, _, _, _, _, _, _, _, _, _, _, _, _, _, hd, ho, hcd, hb, g1, g2, g3, g4, g5⟩
theorem EntC.mk {K : Frag} {f : Addr} {d : Option (Str × List Stmt × Scope)} {p : Str} {name qual : Str} {params : Arguments} {body : List Stmt} {scope : Scope} {dV kV doc pm cdv ct oc : Value} {an od : Option Addr} {osl : Array (Option Value)}
    (ho : K.lookup f = some ⟨oc, od, .func (fnOf name qual params body scope dV kV doc pm an cdv ct), osl⟩) (hd : d = some (qual, body, scope)) (hcd : codeIn K cdv qual = true)
    (hb : ∀ v : Value, ∀ s : Shared, BindsTo s (fnOf name qual params body scope dV kV doc pm an cdv ct) ⟨[v], []⟩ [(p, v)])
    (g1 : scope.names.lookup p = some .cell) (g2 : ∀ n, cellsFrom n scope.names [] = [(p, n)]) (g3 : scope.isCoroutine = false) (g4 : scope.isGenerator = false) (g5 : scope.kind = .function) : EntC K f d p :=
  ⟨_, _, _, _, _, _, _, _, _, _, _, _, _, _, _, hd, ho, hcd, hb, g1, g2, g3, g4, g5⟩
end Mine
namespace Mine
theorem fin.tw17512474026176034454 : True := trivial
theorem fin.tw2503846163805864124 : True := trivial
theorem fin.tw8577089030196625639 : True := trivial
theorem fin.tw17628183408451194143 : True := trivial
theorem fin.tw8269367382603917829 : True := trivial
theorem fin.tw11575174756993882273 : True := trivial
theorem fin.tw11960621293216590010 : True := trivial
theorem fin.tw452842511749404161 : True := trivial
theorem fin.tw5011121235533021005 : True := trivial
theorem fin.tw2321816554428607280 : True := trivial
theorem fin.tw8119881530291889089 : True := trivial
theorem fin.tw9712136527352899355 : True := trivial
theorem fin.tw12292906935544458286 : True := trivial
theorem fin.tw1422313219903470601 : True := trivial
theorem fin.tw17425937995043322649 : True := trivial
theorem fin.tw16109372258727991565 : True := trivial
theorem fin.tw18105942590061964161 : True := trivial
theorem fin.tw14560573928864763818 : True := trivial
theorem fin.tw16570786720924097770 : True := trivial
theorem fin.tw17132207802985990308 : True := trivial
theorem fin.tw5555312102172926907 : True := trivial
theorem fin.tw16448676403291746579 : True := trivial
theorem fin.tw16269368082590959529 : True := trivial
theorem fin.tw12780881840741157306 : True := trivial
theorem fin.tw2565351972500760935 : True := trivial
theorem fin.tw6956187926921108005 : True := trivial
theorem fin.tw3810338749695602999 : True := trivial
theorem fin.tw14075178694198228753 : True := trivial
theorem fin.tw1976505206021243879 : True := trivial
theorem fin.tw10939691994893167182 : True := trivial
theorem fin.tw12118000046449163591 : True := trivial
theorem fin.tw3211687289105081006 : True := trivial
theorem fin.tw15149952090015108872 : True := trivial
theorem fin.tw11061592194353771069 : True := trivial
theorem fin.tw12649782002744950493 : True := trivial
theorem fin.tw6498334528663615478 : True := trivial
theorem fin.tw7000300075881102575 : True := trivial
theorem fin.tw17861066769153400444 : True := trivial
theorem fin.tw8947099994592609211 : True := trivial
theorem fin.tw3459265974087741279 : True := trivial
theorem fin.tw9001875181463519149 : True := trivial
theorem fin.tw3268265519342814607 : True := trivial
theorem fin.tw2086631506510373192 : True := trivial
theorem fin.tw9608244354432385207 : True := trivial
theorem fin.tw18295790063311454060 : True := trivial
theorem fin.tw11414119711712004833 : True := trivial
theorem fin.tw10196768644732416780 : True := trivial
theorem fin.tw12612204703400128841 : True := trivial
theorem fin.tw12740692763255036000 : True := trivial
theorem fin.tw3767311804947220896 : True := trivial
theorem fin.tw15741700470354863883 : True := trivial
theorem fin.tw16854768282035348493 : True := trivial
theorem fin.tw7675655780812522254 : True := trivial
theorem fin.tw15590172107835277464 : True := trivial
theorem fin.tw16926796629830329345 : True := trivial
theorem fin.tw11466478281803324712 : True := trivial
theorem fin.tw13700621096757390547 : True := trivial
theorem fin.tw6385529401280152062 : True := trivial
theorem fin.tw3810570522144960214 : True := trivial
theorem fin.tw13925877587632400325 : True := trivial
theorem fin.tw14578271805448956485 : True := trivial
theorem fin.tw17717364068325071970 : True := trivial
theorem fin.tw9610726530385051774 : True := trivial
theorem fin.tw4868334931027891882 : True := trivial
theorem fin.tw9059937348426287209 : True := trivial
theorem fin.tw12876064707754696378 : True := trivial
theorem fin.tw9247658263007524724 : True := trivial
theorem fin.tw7439575562449295702 : True := trivial
theorem fin.tw8399098705505230059 : True := trivial
theorem fin.tw3314143786362844604 : True := trivial
theorem fin.tw16510490156224867327 : True := trivial
theorem fin.tw4040260094072895976 : True := trivial
theorem fin.tw2051409578822353534 : True := trivial
theorem fin.tw6718411051458867188 : True := trivial
theorem fin.tw1397303283331804279 : True := trivial
theorem fin.tw3506512066687448480 : True := trivial
theorem fin.tw5776136370200156792 : True := trivial
theorem fin.tw4723787954990577340 : True := trivial
theorem fin.tw17164383140453370395 : True := trivial
theorem fin.tw848606289541702500 : True := trivial
theorem fin.tw12751662967071866640 : True := trivial
theorem fin.tw828056024939588000 : True := trivial
theorem fin.tw8569027658895312972 : True := trivial
theorem fin.tw12135189313929291683 : True := trivial
theorem fin.tw13724452099449386491 : True := trivial
theorem fin.tw5678346346211369953 : True := trivial
theorem fin.tw13898374239775968522 : True := trivial
theorem fin.tw6878024787957991413 : True := trivial
theorem fin.tw11936995450923721628 : True := trivial
theorem fin.tw12718612220689870738 : True := trivial
theorem fin.tw10895054467252067526 : True := trivial
theorem fin.tw15309079848183770524 : True := trivial
theorem fin.tw14345562132136545540 : True := trivial
theorem fin.tw14679806638718605512 : True := trivial
theorem fin.tw6388184931127306564 : True := trivial
theorem fin.tw16502652511500755 : True := trivial
theorem fin.tw17362494058136835672 : True := trivial
theorem fin.tw15583698165555649274 : True := trivial
theorem fin.tw7890596953891613788 : True := trivial
theorem fin.tw1080700006314346644 : True := trivial
theorem fin.tw12237877928780879103 : True := trivial
theorem fin.tw9659716664097621076 : True := trivial
theorem fin.tw6058378993454661626 : True := trivial
theorem fin.tw15815952407149668801 : True := trivial
theorem fin.tw6712194924023145494 : True := trivial
theorem fin.tw7451905468542833597 : True := trivial
theorem fin.tw12847644182280273618 : True := trivial
theorem fin.tw4769821431679368130 : True := trivial
theorem fin.tw16503470079419688546 : True := trivial
theorem fin.tw11039862389202566683 : True := trivial
theorem fin.tw11897717083992391400 : True := trivial
theorem fin.tw6323506392446703087 : True := trivial
theorem fin.tw16958243865122950064 : True := trivial
theorem fin.tw18082680734076937219 : True := trivial
theorem fin.tw4719063310657182621 : True := trivial
theorem fin.tw15832999045522443761 : True := trivial
theorem fin.tw1105837973531982728 : True := trivial
theorem fin.tw18195182924450695511 : True := trivial
theorem fin.tw6485783843944922600 : True := trivial
theorem fin.tw2824846461999071874 : True := trivial
theorem fin.tw11209750170652599755 : True := trivial
theorem fin.tw13815853411582834384 : True := trivial
theorem fin.tw14728723275428758510 : True := trivial
theorem fin.tw10567028658651823492 : True := trivial
theorem fin.tw11485842864857543043 : True := trivial
theorem fin.tw7177338460636591580 : True := trivial
theorem fin.tw12946824338688289833 : True := trivial
theorem fin.tw7070210977369740762 : True := trivial
theorem fin.tw8643116662766533202 : True := trivial
theorem fin.tw17719728818120068181 : True := trivial
theorem fin.tw9544026089342320630 : True := trivial
theorem fin.tw6455845175183424153 : True := trivial
theorem fin.tw9221430085559818832 : True := trivial
theorem fin.tw7929640520542984453 : True := trivial
theorem fin.tw12962497063298326498 : True := trivial
theorem fin.tw13294311002278339166 : True := trivial
theorem fin.tw18105285910621931680 : True := trivial
theorem fin.tw12567809125941998234 : True := trivial
theorem fin.tw16205109500356779066 : True := trivial
theorem fin.tw12932903420030652473 : True := trivial
theorem fin.tw7613945582906998725 : True := trivial
theorem fin.tw9746901515087519452 : True := trivial
theorem fin.tw1560641971993327685 : True := trivial
theorem fin.tw14856888987745899463 : True := trivial
theorem fin.tw17923595913812447142 : True := trivial
theorem fin.tw17933470926392208243 : True := trivial
theorem fin.tw480829909506669009 : True := trivial
theorem fin.tw4162185377826839926 : True := trivial
theorem fin.tw8559517257967667466 : True := trivial
theorem fin.tw17570509445847580414 : True := trivial
theorem fin.tw4265850918314828415 : True := trivial
theorem fin.tw11151619158091525091 : True := trivial
theorem fin.tw2316539691658765527 : True := trivial
theorem fin.tw7380833856163905736 : True := trivial
theorem fin.tw10829458402184033698 : True := trivial
theorem fin.tw5734618986648460908 : True := trivial
theorem fin.tw10818889477481085253 : True := trivial
theorem fin.tw2775396313129547428 : True := trivial
theorem fin.tw10279692637995926009 : True := trivial
theorem fin.tw3812028171767442716 : True := trivial
theorem fin.tw12876116671307685997 : True := trivial
theorem fin.tw2789213428527533208 : True := trivial
theorem fin.tw982560976839675504 : True := trivial
theorem fin.tw8281523328739849912 : True := trivial
theorem fin.tw14166196953294261902 : True := trivial
theorem fin.tw670465573061467203 : True := trivial
theorem fin.tw5106123347721008290 : True := trivial
theorem fin.tw15225332579556243176 : True := trivial
theorem fin.tw17197158672614542318 : True := trivial
theorem fin.tw2866121171748074186 : True := trivial
theorem fin.tw8352470293576582857 : True := trivial
theorem fin.tw7845872953664198349 : True := trivial
theorem fin.tw8331973007464152698 : True := trivial
theorem fin.tw18255404467826089762 : True := trivial
theorem fin.tw17067295170570645592 : True := trivial
theorem fin.tw16285329926789087883 : True := trivial
theorem fin.tw10147658903529517814 : True := trivial
theorem fin.tw13790858721211988464 : True := trivial
theorem fin.tw2462912638960843985 : True := trivial
theorem fin.tw15373703851562958014 : True := trivial
theorem fin.tw16229209127682248589 : True := trivial
theorem fin.tw3112429581023547943 : True := trivial
theorem fin.tw13066358836101814915 : True := trivial
theorem fin.tw14838103818555229697 : True := trivial
theorem fin.tw1014637456484912126 : True := trivial
theorem fin.tw11953781441336167498 : True := trivial
theorem fin.tw1625080806587739848 : True := trivial
theorem fin.tw8261031787919469916 : True := trivial
theorem fin.tw3599858809825778643 : True := trivial
theorem fin.tw14254621764821748828 : True := trivial
theorem fin.tw14855157385224911753 : True := trivial
theorem fin.tw16798467561266328274 : True := trivial
theorem fin.tw2103456241558337223 : True := trivial
theorem fin.tw323577088877891139 : True := trivial
theorem fin.tw5962627729488381771 : True := trivial
theorem fin.tw12557769604369416430 : True := trivial
theorem fin.tw16237762584071213788 : True := trivial
theorem fin.tw3974152918291533672 : True := trivial
theorem fin.tw17260493314774615805 : True := trivial
theorem fin.tw12221555665107904926 : True := trivial
theorem fin.tw5679570950571409650 : True := trivial
theorem fin.tw8289400949097046189 : True := trivial
theorem fin.tw4180101509539245183 : True := trivial
theorem fin.tw3598329298470268980 : True := trivial
theorem fin.tw11587955951900863698 : True := trivial
theorem fin.tw12829507556594621215 : True := trivial
theorem fin.tw16708323118627637049 : True := trivial
theorem fin.tw7278507554335971580 : True := trivial
theorem fin.tw4950403968356008110 : True := trivial
theorem fin.tw6435670951450185984 : True := trivial
theorem fin.tw11192643925408225281 : True := trivial
theorem fin.tw16488607150827929282 : True := trivial
theorem fin.tw428092273266315144 : True := trivial
theorem fin.tw16934629359412608497 : True := trivial
theorem fin.tw7028063314416541132 : True := trivial
theorem fin.tw6577878126316647860 : True := trivial
theorem fin.tw9218923581257491847 : True := trivial
theorem fin.tw13021059552284102479 : True := trivial
theorem fin.tw9260378047223084069 : True := trivial
theorem fin.tw8408514402456403777 : True := trivial
theorem fin.tw17801579834951734752 : True := trivial
theorem fin.tw7661832156752021035 : True := trivial
theorem fin.tw17108682257543074861 : True := trivial
theorem fin.tw6474043946942992101 : True := trivial
theorem fin.tw14574801432027512755 : True := trivial
theorem fin.tw14814673180317915700 : True := trivial
theorem fin.tw1209720653154232198 : True := trivial
theorem fin.tw5486226609284752418 : True := trivial
theorem fin.tw15533503492667675913 : True := trivial
theorem fin.tw14517287926952318261 : True := trivial
theorem fin.tw7930893340574950883 : True := trivial
theorem fin.tw111200028466390044 : True := trivial
theorem fin.tw8272817396058243321 : True := trivial
theorem fin.tw16496857829328116044 : True := trivial
theorem fin.tw3762306804915933987 : True := trivial
theorem fin.tw11577218112901026713 : True := trivial
theorem fin.tw6144012678527597917 : True := trivial
theorem fin.tw14245171486683049214 : True := trivial
theorem fin.tw11227884535216515135 : True := trivial
theorem fin.tw6846200578177281708 : True := trivial
theorem fin.tw1982079694162106894 : True := trivial
theorem fin.tw13199158710529813207 : True := trivial
theorem fin.tw16275787546110486726 : True := trivial
theorem fin.tw14497727239971306367 : True := trivial
theorem fin.tw8614737586434602478 : True := trivial
theorem fin.tw799341379326975648 : True := trivial
theorem fin.tw13337293482115323266 : True := trivial
theorem fin.tw11277574374343807151 : True := trivial
theorem fin.tw10925335251469727208 : True := trivial
theorem fin.tw6650461044873433052 : True := trivial
theorem fin.tw12291753297600562012 : True := trivial
theorem fin.tw14239432107786713131 : True := trivial
theorem fin.tw6232080684201472732 : True := trivial
theorem fin.tw17416127249078093707 : True := trivial
theorem fin.tw16530489862217454893 : True := trivial
theorem fin.tw3029852977388229646 : True := trivial
theorem fin.tw3885313090954376144 : True := trivial
theorem fin.tw17123178472405020103 : True := trivial
theorem fin.tw17974384156558142227 : True := trivial
theorem fin.tw5115476493328737885 : True := trivial
theorem fin.tw6567050819087999508 : True := trivial
theorem fin.tw7163653591271443685 : True := trivial
theorem fin.tw15688172546075569117 : True := trivial
theorem fin.tw891787732878383699 : True := trivial
theorem fin.tw5647864574477489665 : True := trivial
theorem fin.tw16656299143469825513 : True := trivial
theorem fin.tw12669758225909598566 : True := trivial
theorem fin.tw12105171945263650130 : True := trivial
theorem fin.tw895571856199123645 : True := trivial
theorem fin.tw3788772014149755174 : True := trivial
theorem fin.tw11293339424137598113 : True := trivial
theorem fin.tw10874316729293906858 : True := trivial
theorem fin.tw1535588207084551279 : True := trivial
theorem fin.tw3955986520655104412 : True := trivial
theorem fin.tw7259804445196553303 : True := trivial
theorem fin.tw17662344363894024548 : True := trivial
theorem fin.tw13870153662132920491 : True := trivial
theorem fin.tw7830629276484211593 : True := trivial
theorem fin.tw4013537778516871869 : True := trivial
theorem fin.tw807531904560671035 : True := trivial
theorem fin.tw15205425988870721313 : True := trivial
theorem fin.tw9297318355482256503 : True := trivial
theorem fin.tw1202912048536075021 : True := trivial
theorem fin.tw17743408960866722510 : True := trivial
theorem fin.tw7716820226725407877 : True := trivial
theorem fin.tw15532269165342780932 : True := trivial
theorem fin.tw12868640280835112553 : True := trivial
theorem fin.tw4806268862455609328 : True := trivial
theorem fin.tw3199103547748192838 : True := trivial
theorem fin.tw876206183137641144 : True := trivial
theorem fin.tw13423622936843584764 : True := trivial
theorem fin.tw10329872625359487480 : True := trivial
theorem fin.tw11147117730913898307 : True := trivial
theorem fin.tw7779959011674639804 : True := trivial
theorem fin.tw216489041496292469 : True := trivial
theorem fin.tw11298980531735778240 : True := trivial
theorem fin.tw7547296005191728479 : True := trivial
theorem fin.tw12869217540446652890 : True := trivial
theorem fin.tw15201286185872193147 : True := trivial
theorem fin.tw7803649310394182010 : True := trivial
theorem fin.tw13360279666012451719 : True := trivial
theorem fin.tw15476544859757588837 : True := trivial
theorem fin.tw13814004702073501669 : True := trivial
theorem fin.tw3404873503106905745 : True := trivial
theorem fin.tw7468727024169554154 : True := trivial
theorem fin.tw5320702786494000081 : True := trivial
theorem fin.tw6454446336052903152 : True := trivial
theorem fin.tw14959412447673286447 : True := trivial
theorem fin.tw9113340658982188547 : True := trivial
theorem fin.tw6566618420281934 : True := trivial
theorem fin.tw4312942655851389009 : True := trivial
theorem fin.tw4759752924163587094 : True := trivial
theorem fin.tw884059145510264010 : True := trivial
theorem fin.tw4424551920762525699 : True := trivial
theorem fin.tw9757074474933493440 : True := trivial
theorem fin.tw17430205856086898164 : True := trivial
theorem fin.tw7077020645477063223 : True := trivial
theorem fin.tw14279960228734115912 : True := trivial
theorem fin.tw13158425560686309300 : True := trivial
theorem fin.tw6667815254911646788 : True := trivial
theorem fin.tw9735714214384596553 : True := trivial
theorem fin.tw4924110625330727750 : True := trivial
theorem fin.tw14431720936831517352 : True := trivial
theorem fin.tw6515953530934532768 : True := trivial
theorem fin.tw544173102793226557 : True := trivial
theorem fin.tw12809788781938459499 : True := trivial
theorem fin.tw15621619335703214680 : True := trivial
theorem fin.tw9524518906428321964 : True := trivial
theorem fin.tw3794220679723124481 : True := trivial
theorem fin.tw10007411396671696613 : True := trivial
theorem fin.tw15566928917628492161 : True := trivial
theorem fin.tw2090205506522743130 : True := trivial
theorem fin.tw15523922138108190246 : True := trivial
theorem fin.tw10751089155417173751 : True := trivial
theorem fin.tw10696652717036330658 : True := trivial
theorem fin.tw9825859731914700964 : True := trivial
theorem fin.tw3975253019698251321 : True := trivial
theorem fin.tw7844069586390513008 : True := trivial
theorem fin.tw13929302177132474383 : True := trivial
theorem fin.tw3998398428148030388 : True := trivial
theorem fin.tw17821466097196317003 : True := trivial
theorem fin.tw17311274769643918242 : True := trivial
theorem fin.tw3683778510129048087 : True := trivial
theorem fin.tw999798209818781672 : True := trivial
theorem fin.tw9997704412844104603 : True := trivial
theorem fin.tw4100293265295638779 : True := trivial
theorem fin.tw4395496475954998127 : True := trivial
theorem fin.tw12347537446847802165 : True := trivial
theorem fin.tw15942684835789789487 : True := trivial
theorem fin.tw1613116972386908190 : True := trivial
theorem fin.tw11336253725339858928 : True := trivial
theorem fin.tw15234240111613058569 : True := trivial
theorem fin.tw8919302590299486024 : True := trivial
theorem fin.tw6207176494656529804 : True := trivial
theorem fin.tw10511823565363050587 : True := trivial
theorem fin.tw8472697214298850164 : True := trivial
theorem fin.tw5102460946473063141 : True := trivial
theorem fin.tw16867096813858660809 : True := trivial
theorem fin.tw13697716360113635143 : True := trivial
theorem fin.tw10936777179133785780 : True := trivial
theorem fin.tw1544503264643628384 : True := trivial
theorem fin.tw10070804522480449196 : True := trivial
theorem fin.tw3432132637015033673 : True := trivial
theorem fin.tw17637551073024348614 : True := trivial
theorem fin.tw8383268338085895543 : True := trivial
theorem fin.tw1921391257341544841 : True := trivial
theorem fin.tw1635022588487117616 : True := trivial
theorem fin.tw12629903358213643309 : True := trivial
theorem fin.tw15399907426655090358 : True := trivial
theorem fin.tw6531376189190222733 : True := trivial
theorem fin.tw14139026862911339306 : True := trivial
theorem fin.tw12409915417874342407 : True := trivial
theorem fin.tw1012361349325877821 : True := trivial
theorem fin.tw15344004072050561172 : True := trivial
theorem fin.tw4443050520305737185 : True := trivial
theorem fin.tw500868675978126160 : True := trivial
theorem fin.tw12494888245299231016 : True := trivial
theorem fin.tw12711679700452659978 : True := trivial
theorem fin.tw7684487725183542926 : True := trivial
theorem fin.tw6634307039904815820 : True := trivial
theorem fin.tw8896352889252549814 : True := trivial
theorem fin.tw11079828417688620724 : True := trivial
theorem fin.tw7055459427971326715 : True := trivial
theorem fin.tw6815667921103612162 : True := trivial
theorem fin.tw15094949803261831281 : True := trivial
theorem fin.tw2976117146107443816 : True := trivial
theorem fin.tw10875463905939285979 : True := trivial
theorem fin.tw612862322836996645 : True := trivial
theorem fin.tw15564276425815640635 : True := trivial
theorem fin.tw7470013935711676318 : True := trivial
theorem fin.tw4928979718650693569 : True := trivial
theorem fin.tw17087244250289142419 : True := trivial
theorem fin.tw17449020081951674710 : True := trivial
theorem fin.tw10580198807604790814 : True := trivial
theorem fin.tw15734922763202457661 : True := trivial
theorem fin.tw3222278782482380304 : True := trivial
theorem fin.tw1951045429614898598 : True := trivial
theorem fin.tw16115155874713506467 : True := trivial
theorem fin.tw333583748066197110 : True := trivial
theorem fin.tw15675102808854859970 : True := trivial
theorem fin.tw1887099378405440850 : True := trivial
theorem fin.tw8668149382578428375 : True := trivial
theorem fin.tw7282745182861764756 : True := trivial
theorem fin.tw17896612028031085017 : True := trivial
theorem fin.tw13177410634674063896 : True := trivial
theorem fin.tw3857263333814641470 : True := trivial
theorem fin.tw17784850919643140607 : True := trivial
theorem fin.tw2617349483901765261 : True := trivial
theorem fin.tw5227809002895711924 : True := trivial
theorem fin.tw11154830654865731599 : True := trivial
theorem fin.tw3302319216010004292 : True := trivial
theorem fin.tw14541005305830221311 : True := trivial
theorem fin.tw11273041486466551846 : True := trivial
theorem fin.tw10234915967203826555 : True := trivial
theorem fin.tw12550770813317053977 : True := trivial
theorem fin.tw1128348596072947701 : True := trivial
theorem fin.tw9917203430921899224 : True := trivial
theorem fin.tw4640724917100965312 : True := trivial
theorem fin.tw4326780796455107134 : True := trivial
theorem fin.tw12149302876761508202 : True := trivial
theorem fin.tw9839346839192117915 : True := trivial
theorem fin.tw1252854909445205041 : True := trivial
theorem fin.tw4329306826757983850 : True := trivial
theorem fin.tw11615019562542576733 : True := trivial
theorem fin.tw16401934584784274106 : True := trivial
theorem fin.tw16540275574145912595 : True := trivial
theorem fin.tw4754365596532378047 : True := trivial
theorem fin.tw2910385600587045654 : True := trivial
theorem fin.tw4588413851689716618 : True := trivial
theorem fin.tw6449190631224713292 : True := trivial
theorem fin.tw8018989035897545986 : True := trivial
theorem fin.tw803859442106103436 : True := trivial
theorem fin.tw4171678462856256454 : True := trivial
theorem fin.tw3456623496861543869 : True := trivial
theorem fin.tw18387650150990424433 : True := trivial
theorem fin.tw6068950659093879613 : True := trivial
theorem fin.tw10393886385942881009 : True := trivial
theorem fin.tw4878226113927451544 : True := trivial
theorem fin.tw4218790737952374519 : True := trivial
theorem fin.tw33945428997975154 : True := trivial
theorem fin.tw17495881415371897999 : True := trivial
theorem fin.tw6400248389586479577 : True := trivial
theorem fin.tw12696600883282566439 : True := trivial
theorem fin.tw8648030909004020460 : True := trivial
theorem fin.tw18436533439404975701 : True := trivial
theorem fin.tw4613182775407389354 : True := trivial
theorem fin.tw4898026214463823928 : True := trivial
theorem fin.tw3787236866625580758 : True := trivial
theorem fin.tw2377308710366028375 : True := trivial
theorem fin.tw17656766251404061198 : True := trivial
theorem fin.tw16256441300576474876 : True := trivial
theorem fin.tw13249466497337379595 : True := trivial
theorem fin.tw857469055436470443 : True := trivial
theorem fin.tw17130245016438642246 : True := trivial
theorem fin.tw6381419901266130222 : True := trivial
theorem fin.tw3105451386036433885 : True := trivial
theorem fin.tw13383306551100868464 : True := trivial
theorem fin.tw5098551885099359569 : True := trivial
theorem fin.tw17570709534508481193 : True := trivial
theorem fin.tw5897612983314593646 : True := trivial
theorem fin.tw13574545013463194659 : True := trivial
theorem fin.tw7995362448368537469 : True := trivial
theorem fin.tw12977279227502587607 : True := trivial
theorem fin.tw18373065035072037172 : True := trivial
theorem fin.tw5266742908149448401 : True := trivial
theorem fin.tw17516069096293509179 : True := trivial
theorem fin.tw2656788454239962097 : True := trivial
theorem fin.tw2236755162388048479 : True := trivial
theorem fin.tw9659783329406020206 : True := trivial
theorem fin.tw2896703901015224195 : True := trivial
theorem fin.tw5402249366112354979 : True := trivial
theorem fin.tw1713156846745171867 : True := trivial
theorem fin.tw3173534031939492945 : True := trivial
theorem fin.tw7522001649326652513 : True := trivial
theorem fin.tw13295704053362595847 : True := trivial
theorem fin.tw2608567993692976607 : True := trivial
theorem fin.tw7786677914034681988 : True := trivial
theorem fin.tw5073790198343104882 : True := trivial
theorem fin.tw17041991840579044601 : True := trivial
theorem fin.tw2304379251839397102 : True := trivial
theorem fin.tw15989303212955285315 : True := trivial
theorem fin.tw17701328389417463424 : True := trivial
theorem fin.tw1819255440876223710 : True := trivial
theorem fin.tw6127190174262240918 : True := trivial
theorem fin.tw6766580051018981234 : True := trivial
theorem fin.tw1088692219920020602 : True := trivial
theorem fin.tw2537931557510868981 : True := trivial
theorem fin.tw3837020019201816242 : True := trivial
theorem fin.tw12996517811204074000 : True := trivial
theorem fin.tw15459455144867644326 : True := trivial
theorem fin.tw846297522682114974 : True := trivial
theorem fin.tw12180539936304867106 : True := trivial
theorem fin.tw10599938827571368224 : True := trivial
theorem fin.tw9509447333196811905 : True := trivial
theorem fin.tw17869975865946814897 : True := trivial
theorem fin.tw7249652514872940865 : True := trivial
theorem fin.tw744865244796547220 : True := trivial
theorem fin.tw5071919506433949198 : True := trivial
theorem fin.tw3343445320678177929 : True := trivial
theorem fin.tw14347400895652799225 : True := trivial
theorem fin.tw5805905742469029177 : True := trivial
theorem fin.tw5250828734511838712 : True := trivial
theorem fin.tw13093503161671486093 : True := trivial
theorem fin.tw7976502392129159676 : True := trivial
theorem fin.tw6766378078585498003 : True := trivial
end Mine
set_option Elab.async true in
set_option maxHeartbeats 8000000 in
theorem Mine.fin : PySem.Challenge.rw_nu0339_01.Holds := by
  w_on; o_law; k_head; (case hw => w_witness2)
  k_go0
  rename_i w s₀ s₁ mg mb Gr Y fa o pm doc kV ho hg KX X V GL T B TE TW a1 b1 M a2 a3 hcd script hs hlay0 hL2 hr1 hl2 b3 b4 l us b5 hL ra w1 r0 hI hr hc1 hc2 K0 hD h₁ F N0
  obtain ⟨o1, e1, e2, n1, e3⟩ := id hL
  have hlen : script.length ≤ 63 := by omega
  have hu := Mine.IntsAre_avs hI
  refine' wpAny_mono (Mine.law_walk ?kf KX (topRead_of T) ?hbx _ Mine.caller_ok (l := l) (us := us) (script := script) e1 e2 e3 hu hlen fa (.ref a2) _ F hg) ?fin (fun _ _ z => z.elim)
  case hbx => rfl
  case fin =>
    rintro f s' ⟨rfl, hg', hos', m', F'⟩
    clear F N0 hg
    refine goodW_bool F' hg' (raisesW_false ?_) ?_ hos'
    · wrow_none_raised
    · kc_post
  case kf =>
    constructor
    case f42 => (refine' Mine.EntOk.mk ?kfl ?kfd ?kfc ?kfb ?kf1 ?kf2 ?kf3 ?kf4 ?kf5; (case kfl => k_is); (case kfd => rfl); (case kfc => k_is); (case kfb => (intro vs hv0 s X; obtain ⟨a1, r1, e, hv1⟩ := Mine.len_cons hv0; subst e; obtain ⟨a2, r2, e, hv2⟩ := Mine.len_cons hv1; subst e; obtain ⟨a3, r3, e, hv3⟩ := Mine.len_cons hv2; subst e; obtain ⟨a4, r4, e, hv4⟩ := Mine.len_cons hv3; subst e; obtain ⟨a5, r5, e, hv5⟩ := Mine.len_cons hv4; subst e; have e := Mine.len_nil hv5; subst e; exact ⟨[], rfl, BindsTo.of_eq rfl⟩)); (case kf1 => rfl); (case kf2 => decide); (case kf3 => rfl); (case kf4 => rfl); (case kf5 => rfl))
    case cf_buf => exact ⟨by k_is, by k_is, by k_is, by k_is, by k_is⟩
    case n_len => k_is
    case n_range => k_is
    case n_min => k_is
    case n_max => k_is
    case n_list => k_is
    case n_sorted => k_is
    case f172 => (refine' Mine.EntOk.mk ?kfl ?kfd ?kfc ?kfb ?kf1 ?kf2 ?kf3 ?kf4 ?kf5; (case kfl => k_is); (case kfd => rfl); (case kfc => k_is); (case kfb => (intro vs hv0 s X; obtain ⟨a1, r1, e, hv1⟩ := Mine.len_cons hv0; subst e; have e := Mine.len_nil hv1; subst e; exact ⟨[], rfl, BindsTo.of_eq rfl⟩)); (case kf1 => rfl); (case kf2 => decide); (case kf3 => rfl); (case kf4 => rfl); (case kf5 => rfl))
    case f179 => (refine' Mine.EntOk.mk ?kfl ?kfd ?kfc ?kfb ?kf1 ?kf2 ?kf3 ?kf4 ?kf5; (case kfl => k_is); (case kfd => rfl); (case kfc => k_is); (case kfb => (intro vs hv0 s X; obtain ⟨a1, r1, e, hv1⟩ := Mine.len_cons hv0; subst e; obtain ⟨a2, r2, e, hv2⟩ := Mine.len_cons hv1; subst e; obtain ⟨a3, r3, e, hv3⟩ := Mine.len_cons hv2; subst e; have e := Mine.len_nil hv3; subst e; exact ⟨[], rfl, BindsTo.of_eq rfl⟩)); (case kf1 => rfl); (case kf2 => decide); (case kf3 => rfl); (case kf4 => rfl); (case kf5 => rfl))
    case f201 => (refine' Mine.EntOk.mk ?kfl ?kfd ?kfc ?kfb ?kf1 ?kf2 ?kf3 ?kf4 ?kf5; (case kfl => k_is); (case kfd => rfl); (case kfc => k_is); (case kfb => (intro vs hv0 s X; obtain ⟨a1, r1, e, hv1⟩ := Mine.len_cons hv0; subst e; obtain ⟨a2, r2, e, hv2⟩ := Mine.len_cons hv1; subst e; have e := Mine.len_nil hv2; subst e; exact ⟨[], rfl, BindsTo.of_eq rfl⟩)); (case kf1 => rfl); (case kf2 => decide); (case kf3 => rfl); (case kf4 => rfl); (case kf5 => rfl))
    case f194 => (refine' Mine.EntOk.mk ?kfl ?kfd ?kfc ?kfb ?kf1 ?kf2 ?kf3 ?kf4 ?kf5; (case kfl => k_is); (case kfd => rfl); (case kfc => k_is); (case kfb => (intro vs hv0 s X; obtain ⟨a1, r1, e, hv1⟩ := Mine.len_cons hv0; subst e; obtain ⟨a2, r2, e, hv2⟩ := Mine.len_cons hv1; subst e; have e := Mine.len_nil hv2; subst e; exact ⟨[], rfl, BindsTo.of_eq rfl⟩)); (case kf1 => rfl); (case kf2 => decide); (case kf3 => rfl); (case kf4 => rfl); (case kf5 => rfl))
    case f255 => (refine' Mine.EntOk.mk ?kfl ?kfd ?kfc ?kfb ?kf1 ?kf2 ?kf3 ?kf4 ?kf5; (case kfl => k_is); (case kfd => rfl); (case kfc => k_is); (case kfb => (intro vs hv0 s X; obtain ⟨a1, r1, e, hv1⟩ := Mine.len_cons hv0; subst e; have e := Mine.len_nil hv1; subst e; exact ⟨[], rfl, BindsTo.of_eq rfl⟩)); (case kf1 => rfl); (case kf2 => decide); (case kf3 => rfl); (case kf4 => rfl); (case kf5 => rfl))
    case f262 => (refine' Mine.EntOk.mk ?kfl ?kfd ?kfc ?kfb ?kf1 ?kf2 ?kf3 ?kf4 ?kf5; (case kfl => k_is); (case kfd => rfl); (case kfc => k_is); (case kfb => (intro vs hv0 s X; obtain ⟨a1, r1, e, hv1⟩ := Mine.len_cons hv0; subst e; obtain ⟨a2, r2, e, hv2⟩ := Mine.len_cons hv1; subst e; have e := Mine.len_nil hv2; subst e; exact ⟨[], rfl, BindsTo.of_eq rfl⟩)); (case kf1 => rfl); (case kf2 => decide); (case kf3 => rfl); (case kf4 => rfl); (case kf5 => rfl))
    case f241 => (refine' Mine.EntOk.mk ?kfl ?kfd ?kfc ?kfb ?kf1 ?kf2 ?kf3 ?kf4 ?kf5; (case kfl => k_is); (case kfd => rfl); (case kfc => k_is); (case kfb => (intro vs hv0 s X; obtain ⟨a1, r1, e, hv1⟩ := Mine.len_cons hv0; subst e; have e := Mine.len_nil hv1; subst e; exact ⟨[], rfl, BindsTo.of_eq rfl⟩)); (case kf1 => rfl); (case kf2 => decide); (case kf3 => rfl); (case kf4 => rfl); (case kf5 => rfl))
    case f248 => (refine' Mine.EntOk.mk ?kfl ?kfd ?kfc ?kfb ?kf1 ?kf2 ?kf3 ?kf4 ?kf5; (case kfl => k_is); (case kfd => rfl); (case kfc => k_is); (case kfb => (intro vs hv0 s X; obtain ⟨a1, r1, e, hv1⟩ := Mine.len_cons hv0; subst e; obtain ⟨a2, r2, e, hv2⟩ := Mine.len_cons hv1; subst e; have e := Mine.len_nil hv2; subst e; exact ⟨[], rfl, BindsTo.of_eq rfl⟩)); (case kf1 => rfl); (case kf2 => decide); (case kf3 => rfl); (case kf4 => rfl); (case kf5 => rfl))
    case f277 => (refine' Mine.EntOk.mk ?kfl ?kfd ?kfc ?kfb ?kf1 ?kf2 ?kf3 ?kf4 ?kf5; (case kfl => k_is); (case kfd => rfl); (case kfc => k_is); (case kfb => (intro vs hv0 s X; obtain ⟨a1, r1, e, hv1⟩ := Mine.len_cons hv0; subst e; obtain ⟨a2, r2, e, hv2⟩ := Mine.len_cons hv1; subst e; have e := Mine.len_nil hv2; subst e; exact ⟨[], rfl, BindsTo.of_eq rfl⟩)); (case kf1 => rfl); (case kf2 => decide); (case kf3 => rfl); (case kf4 => rfl); (case kf5 => rfl))
    case mb_put => exact ⟨by k_is, by k_is, by k_is, by k_is⟩
    case mp_free => exact ⟨by k_is, by k_is, by k_is, by k_is⟩
    case mp_claim => exact ⟨by k_is, by k_is, by k_is, by k_is⟩
    case mp_take => exact ⟨by k_is, by k_is, by k_is, by k_is⟩
    case mp_victim => exact ⟨by k_is, by k_is, by k_is, by k_is⟩
    case mp_give => exact ⟨by k_is, by k_is, by k_is, by k_is⟩
    case mp_held => exact ⟨by k_is, by k_is, by k_is, by k_is⟩
    case mc_enter => exact ⟨by k_is, by k_is, by k_is, by k_is⟩
    case mc_frame_size => exact ⟨by k_is, by k_is, by k_is, by k_is⟩
    case mc_reach_out => exact ⟨by k_is, by k_is, by k_is, by k_is⟩
    case mc_temp => exact ⟨by k_is, by k_is, by k_is, by k_is⟩
    case mc_free_temp => exact ⟨by k_is, by k_is, by k_is, by k_is⟩
    case mc_take => exact ⟨by k_is, by k_is, by k_is, by k_is⟩
    case mc_spill => exact ⟨by k_is, by k_is, by k_is, by k_is⟩
    case mc_spill_all => exact ⟨by k_is, by k_is, by k_is, by k_is⟩
    case mc_unspill => exact ⟨by k_is, by k_is, by k_is, by k_is⟩
    case mc_release => exact ⟨by k_is, by k_is, by k_is, by k_is⟩
    case mc_note_map => exact ⟨by k_is, by k_is, by k_is, by k_is⟩
    case mt_new => exact ⟨by k_is, by k_is, by k_is, by k_is⟩
    case f187 => (refine' Mine.EntOk.mk ?kfl ?kfd ?kfc ?kfb ?kf1 ?kf2 ?kf3 ?kf4 ?kf5; (case kfl => k_is); (case kfd => rfl); (case kfc => k_is); (case kfb => (intro vs hv0 s X; obtain ⟨a1, r1, e, hv1⟩ := Mine.len_cons hv0; subst e; obtain ⟨a2, r2, e, hv2⟩ := Mine.len_cons hv1; subst e; obtain ⟨a3, r3, e, hv3⟩ := Mine.len_cons hv2; subst e; have e := Mine.len_nil hv3; subst e; refine ⟨[], ?kfu, binds_K (binds := [(_, a1), (_, a2), (_, a3)]) X rfl (by k_is) rfl rfl rfl⟩; case kfu => rfl)); (case kf1 => rfl); (case kf2 => decide); (case kf3 => rfl); (case kf4 => rfl); (case kf5 => rfl))
    case f270 => (refine' Mine.EntOk.mk ?kfl ?kfd ?kfc ?kfb ?kf1 ?kf2 ?kf3 ?kf4 ?kf5; (case kfl => k_is); (case kfd => rfl); (case kfc => k_is); (case kfb => (intro vs hv0 s X; obtain ⟨a1, r1, e, hv1⟩ := Mine.len_cons hv0; subst e; obtain ⟨a2, r2, e, hv2⟩ := Mine.len_cons hv1; subst e; obtain ⟨a3, r3, e, hv3⟩ := Mine.len_cons hv2; subst e; have e := Mine.len_nil hv3; subst e; refine ⟨[], ?kfu, binds_K (binds := [(_, a1), (_, a2), (_, a3)]) X rfl (by k_is) rfl rfl rfl⟩; case kfu => rfl)); (case kf1 => rfl); (case kf2 => decide); (case kf3 => rfl); (case kf4 => rfl); (case kf5 => rfl))
    case f292 => (refine' Mine.EntOk.mk ?kfl ?kfd ?kfc ?kfb ?kf1 ?kf2 ?kf3 ?kf4 ?kf5; (case kfl => k_is); (case kfd => rfl); (case kfc => k_is); (case kfb => (intro vs hv0 s X; obtain ⟨a1, r1, e, hv1⟩ := Mine.len_cons hv0; subst e; obtain ⟨a2, r2, e, hv2⟩ := Mine.len_cons hv1; subst e; have e := Mine.len_nil hv2; subst e; refine ⟨[_], ?kfu, binds_K (binds := [(_, a1), (_, a2), (_, _)]) X rfl (by k_is) rfl rfl rfl⟩; case kfu => rfl)); (case kf1 => rfl); (case kf2 => decide); (case kf3 => rfl); (case kf4 => rfl); (case kf5 => rfl))
    case f119 => (refine' Mine.EntOk.mk ?kfl ?kfd ?kfc ?kfb ?kf1 ?kf2 ?kf3 ?kf4 ?kf5; (case kfl => k_is); (case kfd => rfl); (case kfc => k_is); (case kfb => (intro vs hv0 s X; obtain ⟨a1, r1, e, hv1⟩ := Mine.len_cons hv0; subst e; have e := Mine.len_nil hv1; subst e; exact ⟨[], rfl, BindsTo.of_eq rfl⟩)); (case kf1 => rfl); (case kf2 => decide); (case kf3 => rfl); (case kf4 => rfl); (case kf5 => rfl))
    case f299 => (refine' Mine.EntOk.mk ?kfl ?kfd ?kfc ?kfb ?kf1 ?kf2 ?kf3 ?kf4 ?kf5; (case kfl => k_is); (case kfd => rfl); (case kfc => k_is); (case kfb => (intro vs hv0 s X; obtain ⟨a1, r1, e, hv1⟩ := Mine.len_cons hv0; subst e; obtain ⟨a2, r2, e, hv2⟩ := Mine.len_cons hv1; subst e; have e := Mine.len_nil hv2; subst e; exact ⟨[], rfl, BindsTo.of_eq rfl⟩)); (case kf1 => rfl); (case kf2 => decide); (case kf3 => rfl); (case kf4 => rfl); (case kf5 => rfl))
    case n_holds => exact ⟨by k_is, by k_is⟩
    case f313 => (refine' Mine.EntOk.mk ?kfl ?kfd ?kfc ?kfb ?kf1 ?kf2 ?kf3 ?kf4 ?kf5; (case kfl => k_is); (case kfd => rfl); (case kfc => k_is); (case kfb => (intro vs hv0 s X; obtain ⟨a1, r1, e, hv1⟩ := Mine.len_cons hv0; subst e; obtain ⟨a2, r2, e, hv2⟩ := Mine.len_cons hv1; subst e; have e := Mine.len_nil hv2; subst e; exact ⟨[], rfl, BindsTo.of_eq rfl⟩)); (case kf1 => rfl); (case kf2 => decide); (case kf3 => rfl); (case kf4 => rfl); (case kf5 => rfl))
    case f206 => (refine' Mine.EntC.mk ?kfl ?kfd ?kfc ?kfb ?kf1 ?kf2 ?kf3 ?kf4 ?kf5; (case kfl => k_is); (case kfd => rfl); (case kfc => k_is); (case kfb => exact fun v s => BindsTo.of_eq rfl); (case kf1 => rfl); (case kf2 => exact fun n => rfl); (case kf3 => rfl); (case kf4 => rfl); (case kf5 => rfl))
    case f284 => (refine' Mine.EntOk.mk ?kfl ?kfd ?kfc ?kfb ?kf1 ?kf2 ?kf3 ?kf4 ?kf5; (case kfl => k_is); (case kfd => rfl); (case kfc => k_is); (case kfb => (intro vs hv0 s X; obtain ⟨a1, r1, e, hv1⟩ := Mine.len_cons hv0; subst e; have e := Mine.len_nil hv1; subst e; exact ⟨[], rfl, BindsTo.of_eq rfl⟩)); (case kf1 => rfl); (case kf2 => decide); (case kf3 => rfl); (case kf4 => rfl); (case kf5 => rfl))
    case f35 => (refine' Mine.EntOk.mk ?kfl ?kfd ?kfc ?kfb ?kf1 ?kf2 ?kf3 ?kf4 ?kf5; (case kfl => k_is); (case kfd => rfl); (case kfc => k_is); (case kfb => (intro vs hv0 s X; obtain ⟨a1, r1, e, hv1⟩ := Mine.len_cons hv0; subst e; have e := Mine.len_nil hv1; subst e; exact ⟨[], rfl, BindsTo.of_eq rfl⟩)); (case kf1 => rfl); (case kf2 => decide); (case kf3 => rfl); (case kf4 => rfl); (case kf5 => rfl))
    case f165 => (refine' Mine.EntOk.mk ?kfl ?kfd ?kfc ?kfb ?kf1 ?kf2 ?kf3 ?kf4 ?kf5; (case kfl => k_is); (case kfd => rfl); (case kfc => k_is); (case kfb => (intro vs hv0 s X; obtain ⟨a1, r1, e, hv1⟩ := Mine.len_cons hv0; subst e; obtain ⟨a2, r2, e, hv2⟩ := Mine.len_cons hv1; subst e; have e := Mine.len_nil hv2; subst e; exact ⟨[], rfl, BindsTo.of_eq rfl⟩)); (case kf1 => rfl); (case kf2 => decide); (case kf3 => rfl); (case kf4 => rfl); (case kf5 => rfl))
    case f105 => (refine' Mine.EntOk.mk ?kfl ?kfd ?kfc ?kfb ?kf1 ?kf2 ?kf3 ?kf4 ?kf5; (case kfl => k_is); (case kfd => rfl); (case kfc => k_is); (case kfb => (intro vs hv0 s X; obtain ⟨a1, r1, e, hv1⟩ := Mine.len_cons hv0; subst e; obtain ⟨a2, r2, e, hv2⟩ := Mine.len_cons hv1; subst e; obtain ⟨a3, r3, e, hv3⟩ := Mine.len_cons hv2; subst e; have e := Mine.len_nil hv3; subst e; exact ⟨[], rfl, BindsTo.of_eq rfl⟩)); (case kf1 => rfl); (case kf2 => decide); (case kf3 => rfl); (case kf4 => rfl); (case kf5 => rfl))
    case f369 => (refine' Mine.EntOk.mk ?kfl ?kfd ?kfc ?kfb ?kf1 ?kf2 ?kf3 ?kf4 ?kf5; (case kfl => k_is); (case kfd => rfl); (case kfc => k_is); (case kfb => (intro vs hv0 s X; obtain ⟨a1, r1, e, hv1⟩ := Mine.len_cons hv0; subst e; obtain ⟨a2, r2, e, hv2⟩ := Mine.len_cons hv1; subst e; obtain ⟨a3, r3, e, hv3⟩ := Mine.len_cons hv2; subst e; obtain ⟨a4, r4, e, hv4⟩ := Mine.len_cons hv3; subst e; have e := Mine.len_nil hv4; subst e; exact ⟨[], rfl, BindsTo.of_eq rfl⟩)); (case kf1 => rfl); (case kf2 => decide); (case kf3 => rfl); (case kf4 => rfl); (case kf5 => rfl))
    case no_108_mode => k_is
    case no_108_t => k_is
    case no_108_value => k_is
    case no_108_reg => k_is
    case no_108_offset => k_is
    case no_108_fix => k_is
    case no_108_root => k_is
    case no_108_tag => k_is
    case no_108_length => k_is
    case no_108_cond => k_is
    case no_108_truths => k_is
    case no_108_falses => k_is
    case no_108_obj => k_is
    case no_108_place => k_is
    case no_108_slot => k_is
    case no_108_was => k_is
    case no_87_rows => k_is
    case no_209_count => k_is
    case no_209_owner => k_is
    case no_209_order => k_is
    case no_209_spiller => k_is
    case no_351_types => k_is
    case no_351_module => k_is
    case no_351_buf => k_is
    case no_351_pool => k_is
    case no_351_data => k_is
    case no_351_keys => k_is
    case no_351_imports => k_is
    case no_351_fixups => k_is
    case no_351_maps => k_is
    case no_351_entries => k_is
    case no_351_starts => k_is
    case no_351_calls => k_is
    case no_351_level => k_is
    case no_351_proc => k_is
    case no_351_roots => k_is
    case no_351_low => k_is
    case no_351_lowest => k_is
    case no_351_free_temps => k_is
    case no_351_spilled => k_is
    case no_351_out_words => k_is
    case no_372_number => k_is
    case no_372_form => k_is
    case no_372_size => k_is
    case no_372_base => k_is
    case no_372_length => k_is
    case no_372_fields => k_is
    case no_372_level => k_is
    case no_372_params => k_is
    case no_372_module => k_is
    case no_372_label => k_is
    case no_372_hidden => k_is
    case no_372_exno => k_is
    case no_408_counter => k_is
    case no_408_known => k_is
    case no_408_boolean => k_is
    case no_408_char => k_is
    case no_408_byte => k_is
    case no_408_integer => k_is
    case no_408_mask => k_is
    case no_408_nil => k_is
    case no_408_none => k_is
    case k_buf => exact ⟨⟨by k_is, by k_is, by k_is, by k_is, by k_is⟩, by k_is, by k_is, by k_is, by k_is⟩
    case k_item => exact ⟨⟨by k_is, by k_is, by k_is, by k_is, by k_is⟩, by k_is, by k_is, by k_is, by k_is⟩
    case k_pool => exact ⟨⟨by k_is, by k_is, by k_is, by k_is, by k_is⟩, by k_is, by k_is, by k_is, by k_is⟩
    case k_coder => exact ⟨⟨by k_is, by k_is, by k_is, by k_is, by k_is⟩, by k_is, by k_is, by k_is, by k_is⟩
    case k_type => exact ⟨⟨by k_is, by k_is, by k_is, by k_is, by k_is⟩, by k_is, by k_is, by k_is, by k_is⟩
    case k_types => exact ⟨⟨by k_is, by k_is, by k_is, by k_is, by k_is⟩, by k_is, by k_is, by k_is, by k_is⟩
    case f398 => (refine' Mine.EntOk.mk ?kfl ?kfd ?kfc ?kfb ?kf1 ?kf2 ?kf3 ?kf4 ?kf5; (case kfl => k_is); (case kfd => rfl); (case kfc => k_is); (case kfb => (intro vs hv0 s X; obtain ⟨a1, r1, e, hv1⟩ := Mine.len_cons hv0; subst e; obtain ⟨a2, r2, e, hv2⟩ := Mine.len_cons hv1; subst e; obtain ⟨a3, r3, e, hv3⟩ := Mine.len_cons hv2; subst e; have e := Mine.len_nil hv3; subst e; refine ⟨[_, _], ?kfu, binds_K (binds := [(_, a1), (_, a2), (_, a3), (_, _), (_, _)]) X rfl (by k_is) rfl rfl rfl⟩; case kfu => rfl)); (case kf1 => rfl); (case kf2 => decide); (case kf3 => rfl); (case kf4 => rfl); (case kf5 => rfl))
    case n_Type => k_is
    case n_Types => k_is
    case n_CodeBuffer => k_is
    case n_RegisterPool => k_is
    case n_Item => k_is
    case n_Coder => k_is
    case f234 => (refine' Mine.EntOk.mk ?kfl ?kfd ?kfc ?kfb ?kf1 ?kf2 ?kf3 ?kf4 ?kf5; (case kfl => k_is); (case kfd => rfl); (case kfc => k_is); (case kfb => (intro vs hv0 s X; obtain ⟨a1, r1, e, hv1⟩ := Mine.len_cons hv0; subst e; obtain ⟨a2, r2, e, hv2⟩ := Mine.len_cons hv1; subst e; obtain ⟨a3, r3, e, hv3⟩ := Mine.len_cons hv2; subst e; obtain ⟨a4, r4, e, hv4⟩ := Mine.len_cons hv3; subst e; obtain ⟨a5, r5, e, hv5⟩ := Mine.len_cons hv4; subst e; have e := Mine.len_nil hv5; subst e; exact ⟨[], rfl, BindsTo.of_eq rfl⟩)); (case kf1 => rfl); (case kf2 => decide); (case kf3 => rfl); (case kf4 => rfl); (case kf5 => rfl))
    case f390 => (refine' Mine.EntOk.mk ?kfl ?kfd ?kfc ?kfb ?kf1 ?kf2 ?kf3 ?kf4 ?kf5; (case kfl => k_is); (case kfd => rfl); (case kfc => k_is); (case kfb => (intro vs hv0 s X; obtain ⟨a1, r1, e, hv1⟩ := Mine.len_cons hv0; subst e; have e := Mine.len_nil hv1; subst e; exact ⟨[], rfl, BindsTo.of_eq rfl⟩)); (case kf1 => rfl); (case kf2 => decide); (case kf3 => rfl); (case kf4 => rfl); (case kf5 => rfl))
    case f227 => (refine' Mine.EntOk.mk ?kfl ?kfd ?kfc ?kfb ?kf1 ?kf2 ?kf3 ?kf4 ?kf5; (case kfl => k_is); (case kfd => rfl); (case kfc => k_is); (case kfb => (intro vs hv0 s X; obtain ⟨a1, r1, e, hv1⟩ := Mine.len_cons hv0; subst e; obtain ⟨a2, r2, e, hv2⟩ := Mine.len_cons hv1; subst e; obtain ⟨a3, r3, e, hv3⟩ := Mine.len_cons hv2; subst e; obtain ⟨a4, r4, e, hv4⟩ := Mine.len_cons hv3; subst e; have e := Mine.len_nil hv4; subst e; exact ⟨[], rfl, BindsTo.of_eq rfl⟩)); (case kf1 => rfl); (case kf2 => decide); (case kf3 => rfl); (case kf4 => rfl); (case kf5 => rfl))
    case bd_spill => exact ⟨by k_is, by k_is⟩
    case f419 => (refine' Mine.EntOk.mk ?kfl ?kfd ?kfc ?kfb ?kf1 ?kf2 ?kf3 ?kf4 ?kf5; (case kfl => k_is); (case kfd => rfl); (case kfc => k_is); (case kfb => (intro vs hv0 s X; obtain ⟨a1, r1, e, hv1⟩ := Mine.len_cons hv0; subst e; obtain ⟨a2, r2, e, hv2⟩ := Mine.len_cons hv1; subst e; have e := Mine.len_nil hv2; subst e; exact ⟨[], rfl, BindsTo.of_eq rfl⟩)); (case kf1 => rfl); (case kf2 => decide); (case kf3 => rfl); (case kf4 => rfl); (case kf5 => rfl))
    case f426 => (refine' Mine.EntOk.mk ?kfl ?kfd ?kfc ?kfb ?kf1 ?kf2 ?kf3 ?kf4 ?kf5; (case kfl => k_is); (case kfd => rfl); (case kfc => k_is); (case kfb => (intro vs hv0 s X; obtain ⟨a1, r1, e, hv1⟩ := Mine.len_cons hv0; subst e; obtain ⟨a2, r2, e, hv2⟩ := Mine.len_cons hv1; subst e; have e := Mine.len_nil hv2; subst e; exact ⟨[], rfl, BindsTo.of_eq rfl⟩)); (case kf1 => rfl); (case kf2 => decide); (case kf3 => rfl); (case kf4 => rfl); (case kf5 => rfl))
    case f433 => (refine' Mine.EntOk.mk ?kfl ?kfd ?kfc ?kfb ?kf1 ?kf2 ?kf3 ?kf4 ?kf5; (case kfl => k_is); (case kfd => rfl); (case kfc => k_is); (case kfb => (intro vs hv0 s X; obtain ⟨a1, r1, e, hv1⟩ := Mine.len_cons hv0; subst e; have e := Mine.len_nil hv1; subst e; exact ⟨[], rfl, BindsTo.of_eq rfl⟩)); (case kf1 => rfl); (case kf2 => decide); (case kf3 => rfl); (case kf4 => rfl); (case kf5 => rfl))
    case f450 => (refine' Mine.EntOk.mk ?kfl ?kfd ?kfc ?kfb ?kf1 ?kf2 ?kf3 ?kf4 ?kf5; (case kfl => k_is); (case kfd => rfl); (case kfc => k_is); (case kfb => (intro vs hv0 s X; obtain ⟨a1, r1, e, hv1⟩ := Mine.len_cons hv0; subst e; obtain ⟨a2, r2, e, hv2⟩ := Mine.len_cons hv1; subst e; obtain ⟨a3, r3, e, hv3⟩ := Mine.len_cons hv2; subst e; obtain ⟨a4, r4, e, hv4⟩ := Mine.len_cons hv3; subst e; have e := Mine.len_nil hv4; subst e; exact ⟨[], rfl, BindsTo.of_eq rfl⟩)); (case kf1 => rfl); (case kf2 => decide); (case kf3 => rfl); (case kf4 => rfl); (case kf5 => rfl))
    case n_place => exact ⟨by k_is, by k_is⟩
    case n_follow => exact ⟨by k_is, by k_is⟩
    case n_pull => exact ⟨by k_is, by k_is⟩
    case n_allRight => exact ⟨by k_is, by k_is⟩
    case n_taken => exact ⟨by k_is, by k_is⟩
    case n_mapRight => exact ⟨by k_is, by k_is⟩
    case f443 => (refine' Mine.EntOk.mk ?kfl ?kfd ?kfc ?kfb ?kf1 ?kf2 ?kf3 ?kf4 ?kf5; (case kfl => k_is); (case kfd => rfl); (case kfc => k_is); (case kfb => (intro vs hv0 s X; obtain ⟨a1, r1, e, hv1⟩ := Mine.len_cons hv0; subst e; obtain ⟨a2, r2, e, hv2⟩ := Mine.len_cons hv1; subst e; obtain ⟨a3, r3, e, hv3⟩ := Mine.len_cons hv2; subst e; obtain ⟨a4, r4, e, hv4⟩ := Mine.len_cons hv3; subst e; obtain ⟨a5, r5, e, hv5⟩ := Mine.len_cons hv4; subst e; have e := Mine.len_nil hv5; subst e; exact ⟨[], rfl, BindsTo.of_eq rfl⟩)); (case kf1 => rfl); (case kf2 => decide); (case kf3 => rfl); (case kf4 => rfl); (case kf5 => rfl))
    case f438 => (refine' Mine.EntOk.mk ?kfl ?kfd ?kfc ?kfb ?kf1 ?kf2 ?kf3 ?kf4 ?kf5; (case kfl => k_is); (case kfd => rfl); (case kfc => k_is); (case kfb => (intro vs hv0 s X; obtain ⟨a1, r1, e, hv1⟩ := Mine.len_cons hv0; subst e; obtain ⟨a2, r2, e, hv2⟩ := Mine.len_cons hv1; subst e; obtain ⟨a3, r3, e, hv3⟩ := Mine.len_cons hv2; subst e; obtain ⟨a4, r4, e, hv4⟩ := Mine.len_cons hv3; subst e; obtain ⟨a5, r5, e, hv5⟩ := Mine.len_cons hv4; subst e; obtain ⟨a6, r6, e, hv6⟩ := Mine.len_cons hv5; subst e; have e := Mine.len_nil hv6; subst e; exact ⟨[], rfl, BindsTo.of_eq rfl⟩)); (case kf1 => rfl); (case kf2 => decide); (case kf3 => rfl); (case kf4 => rfl); (case kf5 => rfl))
    case n_FP => k_is
theorem PySem.Challenge.cw_nu0339_01_holds : PySem.Challenge.rw_nu0339_01.Holds := by
  exact Mine.fin
