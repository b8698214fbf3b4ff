import PyProof.Rows.All
import Wide.All
import OpenK.AllK
import Wide.FinOn
import PySem.Challenge.RW_tg0042_01
set_option Elab.async false

-- part M1
section
open PySem PySem.Calls PyProof.Rows PySem.W
set_option maxHeartbeats 4000000
set_option maxRecDepth 100000
namespace Mine

inductive V where
  | none | bool (b : Bool) | int (i : Int) | str (k : Nat) | bytes (xs : List Int) | ref (a : Addr) | odd
noncomputable def V.same : V → V → Bool
  | .none, .none => true
  | .int i, .int j => i == j
  | _, _ => false
theorem V.same_eq {v w : V} (h : V.same v w = true) : v = w := by
  cases v <;> first | exact Bool.noConfusion (show false = true from h) | skip
  · cases w <;> first | rfl | exact Bool.noConfusion (show false = true from h)
  · cases w <;> first | exact Bool.noConfusion (show false = true from h) | exact congrArg V.int (eq_of_beq h)
noncomputable def V.sames : List V → List V → Bool
  | [], [] => true
  | v :: vs, w :: ws => V.same v w && V.sames vs ws
  | _, _ => false
theorem V.sames_eq : ∀ (vs ws : List V), V.sames vs ws = true → vs = ws := by
  intro vs
  induction vs with
  | nil => intro ws h; cases ws <;> first | rfl | exact Bool.noConfusion (show false = true from h)
  | cons v vs ih =>
    intro ws h
    cases ws with
    | nil => exact Bool.noConfusion (show false = true from h)
    | cons w ws =>
      have h' : (V.same v w && V.sames vs ws) = true := h
      rw [Bool.and_eq_true] at h'
      rw [V.same_eq h'.1, ih ws h'.2]

theorem and_el {C : Prop} {a b : Bool} (h : (a && b) = true) (k : a = true → b = true → C) : C := by cases a <;> first | exact k rfl h | exact Bool.noConfusion (show false = true from h)
theorem apart {α β : Type} {f : α → Option β} {a b : α} {o : β} (ha : f a = none) (hb : f b = some o) : b ≠ a := fun q => by rw [q, ha] at hb; cases hb
theorem clash {β : Type} {C : Prop} {x : Option β} {o : β} (ha : x = none) (hb : x = some o) : C := by rw [ha] at hb; cases hb

noncomputable def strCode (s : Str) : Nat := if s = Str.ofString "chain" then 1 else if s = Str.ofString "tree" then 2 else if s = Str.ofString "layers" then 3 else 0

noncomputable def V.of : Value → V
  | .none => .none
  | .bool b => .bool b
  | .int i _ => .int i
  | .str s _ => .str (strCode s)
  | .bytes b _ => .bytes (b.toList.map fun x => (x.toNat : Int))
  | .ref a => .ref a
  | _ => .odd

inductive MO where
  | list (xs : List V)
  | ro (xs : List V)
  | tup (xs : List V)
  | dict (n : Nat) (f : Int → Option V)
  | inst (c : Nat) (fs : List (Nat × V))

noncomputable def MO.isRO : MO → Bool
  | .ro _ | .tup _ => true
  | _ => false

noncomputable abbrev MH := Addr → Option MO

noncomputable def upd (H : MH) (a : Addr) (o : MO) : MH := fun b => if b = a then some o else H b
@[simp] theorem upd_same (H : MH) (a : Addr) (o : MO) : upd H a o a = some o := if_pos rfl
theorem upd_ne (H : MH) {a b : Addr} (o : MO) (h : b ≠ a) : upd H a o b = H b := if_neg h

noncomputable def Sub (H₂ H₁ : MH) : Prop := ∀ a o, H₂ a = some o → H₁ a = some o
theorem Sub.refl (H : MH) : Sub H H := fun _ _ h => h
theorem Sub.trans {H₁ H₂ H₃ : MH} (a : Sub H₁ H₂) (b : Sub H₂ H₃) : Sub H₁ H₃ := fun x o h => b x o (a x o h)
theorem Sub.fresh {H : MH} {a : Addr} (h : H a = none) (o : MO) : Sub H (upd H a o) := fun b x e => by
  by_cases q : b = a
  · subst q; rw [h] at e; cases e
  · rw [upd_ne _ _ q]; exact e
theorem Sub.upd {H₁ H₂ : MH} (s : Sub H₁ H₂) (a : Addr) (o : MO) : Sub (upd H₁ a o) (upd H₂ a o) := fun b x e => by
  by_cases q : b = a
  · subst q; rw [upd_same] at e ⊢; exact e
  · rw [upd_ne _ _ q] at e ⊢; exact s b x e
theorem Sub.none {H₁ H₂ : MH} (s : Sub H₂ H₁) {a : Addr} (e : H₁ a = none) : H₂ a = none := by
  cases q : H₂ a with
  | none => rfl
  | some o => rw [s a o q] at e; cases e

noncomputable def fget : List (Nat × V) → Nat → Option V
  | [], _ => none
  | (j, w) :: r, k => bif j == k then some w else fget r k
noncomputable def fput : List (Nat × V) → Nat → V → List (Nat × V)
  | [], k, v => [(k, v)]
  | (j, w) :: r, k, v => bif j == k then (j, v) :: r else (j, w) :: fput r k v
theorem fget_fput (fs : List (Nat × V)) (k : Nat) (v : V) (j : Nat) : fget (fput fs k v) j = if j = k then some v else fget fs j := by
  induction fs with
  | nil => simp only [fput, fget, cond_eq_ite, beq_iff_eq]; by_cases h : k = j
           · subst h; simp
           · have : ¬ j = k := fun e => h e.symm
             simp [h, this]
  | cons p r ih =>
    obtain ⟨i, w⟩ := p
    simp only [fput, cond_eq_ite, beq_iff_eq]
    by_cases h : i = k
    · subst h
      simp only [if_true, fget, cond_eq_ite, beq_iff_eq]
      by_cases hj : j = i
      · subst hj; simp
      · have : ¬ i = j := fun e => hj e.symm
        simp [hj, this]
    · simp only [h, if_false, fget, cond_eq_ite, beq_iff_eq, ih]
      by_cases hj : j = k
      · subst hj; simp [h]
      · simp [hj]
theorem fput_length (fs : List (Nat × V)) (k : Nat) (v : V) : (fput fs k v).length = if (fget fs k).isSome then fs.length else fs.length + 1 := by
  induction fs with
  | nil => simp [fput, fget]
  | cons p r ih =>
    obtain ⟨i, w⟩ := p
    simp only [fput, fget, cond_eq_ite, beq_iff_eq]
    by_cases h : i = k
    · simp [h]
    · simp only [h, if_false, List.length_cons, ih]
      split <;> rfl

noncomputable def nmList : List Str := ([
  "octets", "size", "last", "before",
  "least", "window", "chain", "ahead",
  "row", "roots", "smaller", "greater",
  "rows", "tree",
  "finder", "shortest", "known",
  "costs", "steps",
  "of_literal", "of_match", "of_bit",
  "LAYERS", "TREE",
  "__init__", "key", "put", "newest", "enter", "limit", "alike", "is_near", "every", "best", "candidates", "hang", "part",
  "up_to", "offer", "told", "literal", "match",
  "append", "get"] : List String).map Str.ofString
noncomputable def nm (k : Nat) : Str := nmList.getD k (Str.ofString "?")

noncomputable def cNames : List Str := (["PlaceRow", "Finder", "TreeFinder", "LayeredFinder", "Trail", "Ways", "FlatPrice", "Matcher"] : List String).map Str.ofString
noncomputable def cName (c : Nat) : Str := cNames.getD c (Str.ofString "?")

noncomputable def refOf (o : Option (Option Value)) : Addr := match o with
  | some (some (.ref a)) => a
  | _ => 0
noncomputable def onRef (o : Option (Option Value)) (q : Addr → Bool) : Bool := match o with
  | some (some (.ref a)) => q a
  | _ => false
noncomputable def onInt (o : Option (Option Value)) (q : Int → Tok → Bool) : Bool := match o with
  | some (some (.int i t)) => q i t
  | _ => false
theorem onRef_el {C : Prop} {o : Option (Option Value)} {q : Addr → Bool} (h : onRef o q = true) (k : ∀ a, o = some (some (.ref a)) → q a = true → C) : C := by
  rcases o with _ | _ | v
  · exact Bool.noConfusion (show false = true from h)
  · exact Bool.noConfusion (show false = true from h)
  · cases v <;> first | exact k _ rfl h | exact Bool.noConfusion (show false = true from h)
theorem onInt_el {C : Prop} {o : Option (Option Value)} {q : Int → Tok → Bool} (h : onInt o q = true) (k : ∀ a t, o = some (some (.int a t)) → q a t = true → C) : C := by
  rcases o with _ | _ | v
  · exact Bool.noConfusion (show false = true from h)
  · exact Bool.noConfusion (show false = true from h)
  · cases v <;> first | exact k _ _ rfl h | exact Bool.noConfusion (show false = true from h)
theorem refOf_ref {o : Option (Option Value)} {a : Addr} (h : o = some (some (.ref a))) : refOf o = a := by rw [h]; rfl
noncomputable def gl (K : Frag) (x : Str) : Addr := refOf (nsIn K mainGlobals x)
noncomputable def cAddr (K : Frag) (c : Nat) : Addr := gl K (cName c)

inductive FId where
  | top (x : Str)
  | meth (c : Nat) (k : Nat)

noncomputable def fAddr (K : Frag) : FId → Addr
  | .top x => gl K x
  | .meth c k => refOf (findIn K (.ref (cAddr K c)) (nm k))

noncomputable def ObjR (K : Frag) (h : Heap) (D : Addr → Addr) (a : Addr) : MO → Prop
  | .list xs => ∃ vs : Array Value, h.PlainList a vs ∧ vs.toList.map V.of = xs
  | .ro xs => ∃ vs : Array Value, h.IsList a vs ∧ vs.toList.map V.of = xs
  | .tup xs => ∃ vs : Array Value, IsTup h a vs ∧ vs.toList.map V.of = xs
  | .dict n f => ∃ g, (∃ o, h.get? a = some o ∧ o.dict = none) ∧ h.IntMap a g ∧ h.DictLe a n ∧ (∀ k, (g k).map V.of = f k) ∧ a ≠ sysModules
  | .inst c fs => ∃ m, h.get? a = some (instObj (cAddr K c) (D a)) ∧ h.Ns (D a) m ∧ h.DictLe (D a) fs.length ∧ ∀ k, k < nmList.length → (m (nm k)).map V.of = fget fs k

theorem ObjR.keeps {K : Frag} {h h' : Heap} {D D' : Addr → Addr} {a : Addr} {o : MO} (x : ObjR K h D a o)
    (ka : ∀ v, h.get? a = some v → h'.get? a = some v) (kd : ∀ c fs, o = .inst c fs → D' a = D a ∧ ∀ v, h.get? (D a) = some v → h'.get? (D a) = some v) : ObjR K h' D' a o := by
  cases o with
  | list xs => obtain ⟨vs, p, q⟩ := x; exact ⟨vs, p.at ka, q⟩
  | ro xs => obtain ⟨vs, ⟨o, p, r⟩, q⟩ := x; exact ⟨vs, ⟨o, ka _ p, r⟩, q⟩
  | tup xs => obtain ⟨vs, ⟨o, p, r⟩, q⟩ := x; exact ⟨vs, ⟨o, ka _ p, r⟩, q⟩
  | dict n f =>
    obtain ⟨g, ⟨o1, p1, p2⟩, ⟨o, es, ep, ho, r⟩, dl, q⟩ := x
    exact ⟨g, ⟨o1, ka _ p1, p2⟩, ⟨o, es, ep, ka _ ho, r⟩, dl.of_same ho (ka _ ho), q⟩
  | inst c fs =>
    obtain ⟨m, p, ⟨o, es, ep, ho, r⟩, dl, q⟩ := x
    obtain ⟨e, k⟩ := kd c fs rfl
    exact ⟨m, by rw [e]; exact ka _ p, ⟨o, es, ep, by rw [e]; exact k _ ho, r⟩, by rw [e]; exact dl.of_same ho (k _ ho), q⟩

theorem ObjR.at {K : Frag} {h : Heap} {D : Addr → Addr} {a : Addr} {o : MO} (x : ObjR K h D a o) : ∃ v, h.get? a = some v := by
  cases o with
  | list xs => obtain ⟨vs, ⟨n, p⟩, q⟩ := x; exact ⟨_, p⟩
  | ro xs => obtain ⟨vs, ⟨o, p, r⟩, q⟩ := x; exact ⟨_, p⟩
  | tup xs => obtain ⟨vs, ⟨o, p, r⟩, q⟩ := x; exact ⟨_, p⟩
  | dict n f => obtain ⟨g, ⟨o1, p1, p2⟩, _⟩ := x; exact ⟨_, p1⟩
  | inst c fs => obtain ⟨m, p, _⟩ := x; exact ⟨_, p⟩
theorem ObjR.atD {K : Frag} {h : Heap} {D : Addr → Addr} {a : Addr} {c : Nat} {fs : List (Nat × V)} (x : ObjR K h D a (.inst c fs)) : ∃ v, h.get? (D a) = some v := by
  obtain ⟨m, p, ⟨o, es, ep, ho, r⟩, q⟩ := x; exact ⟨_, ho⟩
theorem ObjR.seq {K : Frag} {h : Heap} {D : Addr → Addr} {a : Addr} {o : MO} (x : ObjR K h D a o) (r : o.isRO = true) : ∃ v xs n, h.get? a = some v ∧ v.data = .seq xs n := by
  cases o with
  | ro xs => obtain ⟨vs, ⟨o, p, _, n, e⟩, q⟩ := x; exact ⟨_, _, n, p, e⟩
  | tup xs => obtain ⟨vs, ⟨o, p, _, n, e⟩, q⟩ := x; exact ⟨_, _, n, p, e⟩
  | _ => cases r

noncomputable abbrev Part := Addr → Option Obj
noncomputable def Part.put (P : Part) (a : Addr) (o : Obj) : Part := fun b => if b = a then some o else P b
theorem Part.put_same (P : Part) (a : Addr) (o : Obj) : P.put a o a = some o := if_pos rfl
theorem Part.put_ne (P : Part) {a b : Addr} (o : Obj) (h : b ≠ a) : P.put a o b = P b := if_neg h

noncomputable def noSeq (o : Obj) : Prop := ∀ xs n, o.data ≠ .seq xs n

noncomputable def methOwner : Nat → Nat → Option Nat
  | 0, k => if k = 24 ∨ k = 25 ∨ k = 26 ∨ k = 27 then some 0 else none
  | 1, k => if k = 24 ∨ k = 28 ∨ k = 32 ∨ k = 34 then some 1 else if k = 26 ∨ k = 29 ∨ k = 30 ∨ k = 31 ∨ k = 33 then some 7 else none
  | 2, k => if k = 24 ∨ k = 28 ∨ k = 32 ∨ k = 35 ∨ k = 36 then some 2 else if k = 26 ∨ k = 29 ∨ k = 30 ∨ k = 31 ∨ k = 33 then some 7 else none
  | 3, k => if k = 24 ∨ k = 28 ∨ k = 32 then some 3 else if k = 26 ∨ k = 29 ∨ k = 30 ∨ k = 31 ∨ k = 33 then some 7 else none
  | 4, k => if k = 24 ∨ k = 32 ∨ k = 33 ∨ k = 37 then some 4 else none
  | 5, k => if k = 24 ∨ k = 38 ∨ k = 39 then some 5 else none
  | 6, k => if k = 24 ∨ k = 40 ∨ k = 41 then some 6 else none
  | 7, k => if k = 24 then some 7 else none
  | _, _ => none

noncomputable def layersA (K : Frag) : Addr := refOf (findIn K (.ref (cAddr K 3)) (nm 22))

noncomputable def clsOk (K : Frag) (c : Nat) : Bool :=
  makesIn K (cAddr K c) && keepIn K (.ref (cAddr K c)) && (clsIn K (cAddr K c)).any (·.hasDict) && plainOver K (cAddr K c) &&
  findIn K (.ref (cAddr K c)) "__getattribute__" == some (some (.builtin "object.__getattribute__")) &&
  findIn K (.ref (cAddr K c)) "__getattr__" == some none &&
  findIn K (.ref (cAddr K c)) "__setattr__" == some (some (.builtin "object.__setattr__")) &&
  ((List.range 22).all fun k => findIn K (.ref (cAddr K c)) (nm k) == some none && !copiedNames.contains (nm k)) &&
  ((List.range 44).all fun k => match methOwner c k with
    | none => true
    | some c' => onRef (findIn K (.ref (cAddr K c)) (nm k)) fun f => isFn K (.ref f) && keepIn K (.ref f) && findIn K (.ref (cAddr K c')) (nm k) == some (some (.ref f)))
noncomputable def valIs (o : Option CFound) (f : Addr) : Bool := match o with
  | some (.val (.ref g)) => f == g
  | _ => false
theorem valIs_of {o : Option CFound} {f : Addr} (h : valIs o f = true) : o = some (.val (.ref f)) := by
  rcases o with _ | v | _
  · exact Bool.noConfusion (show false = true from h)
  · cases v <;> first | exact Bool.noConfusion (show false = true from h) | (rw [show f = _ from eq_of_beq h])
  · exact Bool.noConfusion (show false = true from h)
noncomputable def supOk (K : Frag) : Bool := onRef (findIn K (.ref (cAddr K 7)) (nm 24)) fun f => isFn K (.ref f) && keepIn K (.ref f) && readsIn K (cAddr K 7) (.type "type") &&
  specialIn K (.ref (cAddr K 7)) "__getattribute__" == some (some (.builtin "type.__getattribute__")) && valIs (findCls K (.ref (cAddr K 7)) (.type "type") (nm 24)) f
noncomputable def factsOk (K : Frag) : Bool :=
  (List.range 7).all (clsOk K) &&
  (onRef (findIn K (.ref (cAddr K 3)) (nm 22)) fun a => specialIn K (.ref a) "__get__" == some none) &&
  (onInt (findIn K (.ref (cAddr K 3)) (nm 23)) fun i t => i == 4 && specialIn K (.int i t) "__get__" == some none) &&
  !copiedNames.contains (nm 22) && !copiedNames.contains (nm 23) && supOk K

structure Gd where
  prog : Program
  w : World
  K : Frag
  base : Heap
  os : OsState
  mg : Str → Option Value
  mb : Str → Option Value
  KI : K.In base
  g : base.Ns mainGlobals mg
  b : base.Ns builtinsNs mb
  lim : base.NoLimit
  bi : ∀ x : Str, x ≠ "__name__" → mb x = bootBuiltins x
  ok : factsOk K = true

structure St (G : Gd) (P : Part) (W : Addr → Prop) (H : MH) (s : Shared) : Prop where
  gens : s.gens = #[]
  os : s.os = G.os
  pb : ∀ a o, G.base.get? a = some o → P a = some o
  prot : ∀ a o, P a = some o → s.heap.get? a = some o
  sep : ∀ a o mo, P a = some o → H a = some mo → mo.isRO = true
  own : ∀ a, W a → P a = none ∧ H a = none ∧ ∃ o, s.heap.get? a = some o ∧ noSeq o
  lay : ∃ D : Addr → Addr, (∀ a mo, H a = some mo → ObjR G.K s.heap D a mo) ∧
    (∀ a c fs, H a = some (.inst c fs) → P (D a) = none ∧ H (D a) = none ∧ ¬ W (D a)) ∧
    (∀ a c fs b c' fs', H a = some (.inst c fs) → H b = some (.inst c' fs') → D a = D b → a = b)

section
variable {G : Gd} {P : Part} {W : Addr → Prop} {H H₂ : MH} {s s' : Shared}

theorem St.hb (x : St G P W H s) : ∀ b o, G.base.get? b = some o → s.heap.get? b = some o := fun b o e => x.prot b o (x.pb b o e)
theorem St.KI (x : St G P W H s) : G.K.In s.heap := G.KI.keeps x.hb
theorem St.lim (x : St G P W H s) : s.heap.NoLimit := G.lim.keeps x.hb

theorem St.get (x : St G P W H s) {a : Addr} {mo : MO} (e : H a = some mo) : ∃ v, s.heap.get? a = some v := by
  obtain ⟨D, d1, _⟩ := x.lay; exact (d1 a mo e).at

theorem St.sub (x : St G P W H s) (h : Sub H₂ H) : St G P W H₂ s := by
  obtain ⟨D, d1, d2, d3⟩ := x.lay
  exact ⟨x.gens, x.os, x.pb, x.prot, fun a o mo p q => x.sep a o mo p (h _ _ q), fun a w => let ⟨p, q, r⟩ := x.own a w; ⟨p, h.none q, r⟩,
    D, fun a mo e => d1 a mo (h _ _ e), fun a c fs e => let ⟨p, q, r⟩ := d2 a c fs (h _ _ e); ⟨p, h.none q, r⟩, fun a c fs b c' fs' e e' => d3 a c fs b c' fs' (h _ _ e) (h _ _ e')⟩

theorem St.keeps (x : St G P W H s) (k : ∀ b o, s.heap.get? b = some o → s'.heap.get? b = some o) (hg : s'.gens = s.gens) (ho : s'.os = s.os) : St G P W H s' := by
  obtain ⟨D, d1, d2, d3⟩ := x.lay
  exact ⟨hg.trans x.gens, ho.trans x.os, x.pb, fun a o e => k _ _ (x.prot a o e), x.sep, fun a w => let ⟨p, q, o, r, n⟩ := x.own a w; ⟨p, q, o, k _ _ r, n⟩,
    D, fun a mo e => (d1 a mo e).keeps (fun v => k _ v) (fun _ _ _ => ⟨rfl, fun v => k _ v⟩), d2, d3⟩

theorem St.toks (x : St G P W H s) {t : Nat} : St G P W H { s with toks := t } := x.keeps (fun _ _ e => e) rfl rfl
theorem St.heap (x : St G P W H s) {h' : Heap} {t : Nat} (k : ∀ b o, s.heap.get? b = some o → h'.get? b = some o) : St G P W H { s with heap := h', toks := t } := x.keeps k rfl rfl
theorem St.push (x : St G P W H s) (o : Obj) {t : Nat} : St G P W H { s with heap := s.heap.push o, toks := t } := x.heap fun _ _ e => Heap.get?_push_of_some _ e

theorem St.pNone (x : St G P W H s) : P s.heap.objs.size = none := by
  cases q : P s.heap.objs.size with
  | none => rfl
  | some o => exact absurd (Heap.lt_size (x.prot _ _ q)) (Nat.lt_irrefl _)
theorem St.hNone (x : St G P W H s) {a : Addr} (ha : s.heap.objs.size ≤ a) : H a = none := by
  cases q : H a with
  | none => rfl
  | some o => obtain ⟨v, e⟩ := x.get q; exact absurd (Heap.lt_size e) (Nat.not_lt.mpr ha)
theorem St.wNone (x : St G P W H s) {a : Addr} (ha : s.heap.objs.size ≤ a) : ¬ W a := fun w => by
  obtain ⟨_, _, o, e, _⟩ := x.own a w; exact absurd (Heap.lt_size e) (Nat.not_lt.mpr ha)
theorem St.pNone' (x : St G P W H s) {a : Addr} (ha : s.heap.objs.size ≤ a) : P a = none := by
  cases q : P a with
  | none => rfl
  | some o => exact absurd (Heap.lt_size (x.prot _ _ q)) (Nat.not_lt.mpr ha)

theorem St.noSeqNone (x : St G P W H s) {a : Addr} {o : Obj} (p : P a = some o) (n : noSeq o) : H a = none := by
  cases q : H a with
  | none => rfl
  | some mo =>
    obtain ⟨D, d1, _⟩ := x.lay
    obtain ⟨v, xs, k, e1, e2⟩ := (d1 a mo q).seq (x.sep a o mo p q)
    rw [x.prot a o p] at e1; cases e1
    exact absurd e2 (n xs k)

theorem St.newAt (x : St G P W H s) {h' : Heap} {b : Addr} {mo : MO} {t : Nat} (k : ∀ b o', s.heap.get? b = some o' → h'.get? b = some o') (hb : s.heap.objs.size ≤ b) (hi : ∀ c fs, mo ≠ .inst c fs)
    (ho : ∀ D, ObjR G.K h' D b mo) : St G P W (upd H b mo) { s with heap := h', toks := t } := by
  obtain ⟨D, d1, d2, d3⟩ := x.lay
  have nb : ∀ {a o}, s.heap.get? a = some o → a ≠ b := fun e q => by
    subst q; exact absurd (Heap.lt_size e) (Nat.not_lt.mpr hb)
  have un : ∀ {a mo'}, upd H b mo a = some mo' → (a = b ∧ mo' = mo) ∨ (a ≠ b ∧ H a = some mo') := fun {a mo'} e => by
    by_cases q : a = b
    · subst q; rw [upd_same] at e; cases e; exact .inl ⟨rfl, rfl⟩
    · rw [upd_ne _ _ q] at e; exact .inr ⟨q, e⟩
  refine ⟨x.gens, x.os, x.pb, fun a o e => k _ _ (x.prot a o e), fun a o' mo' p q => ?_, fun a w => ?_, D, fun a mo' e => ?_, fun a c fs e => ?_, fun a c fs b' c' fs' e e' => ?_⟩
  · rcases un q with ⟨rfl, rfl⟩ | ⟨_, q⟩
    · rw [x.pNone' hb] at p; cases p
    · exact x.sep a o' mo' p q
  · obtain ⟨p, q, o', r, n⟩ := x.own a w
    refine ⟨p, ?_, o', k _ _ r, n⟩
    rw [upd_ne _ _ (nb r)]; exact q
  · rcases un e with ⟨rfl, rfl⟩ | ⟨_, q⟩
    · exact ho D
    · exact (d1 a mo' q).keeps (fun v => k _ v) (fun _ _ _ => ⟨rfl, fun v => k _ v⟩)
  · rcases un e with ⟨rfl, h⟩ | ⟨_, q⟩
    · exact absurd h.symm (hi c fs)
    · obtain ⟨p, h, r⟩ := d2 a c fs q
      refine ⟨p, ?_, r⟩
      obtain ⟨v, e⟩ := (d1 a _ q).atD
      rw [upd_ne _ _ (nb e)]; exact h
  · rcases un e with ⟨rfl, h⟩ | ⟨_, q⟩
    · exact absurd h.symm (hi c fs)
    · rcases un e' with ⟨rfl, h⟩ | ⟨_, q'⟩
      · exact absurd h.symm (hi c' fs')
      · exact d3 a c fs b' c' fs' q q'
theorem St.new (x : St G P W H s) {o : Obj} {mo : MO} {t : Nat} (hf : o.isFreed = false) (hi : ∀ c fs, mo ≠ .inst c fs)
    (ho : ∀ D, ObjR G.K (s.heap.push o) D s.heap.objs.size mo) : St G P W (upd H s.heap.objs.size mo) { s with heap := s.heap.push o, toks := t } :=
  x.newAt (fun _ _ e => Heap.get?_push_of_some _ e) (Nat.le_refl _) hi ho

theorem St.turn (x : St G P W H s) {a : Addr} {mo mo' : MO} {h' : Heap} {t : Nat} (ha : H a = some mo) (hr : mo.isRO = false) (hi : ∀ c fs, mo ≠ .inst c fs) (hi' : ∀ c fs, mo' ≠ .inst c fs)
    (hs : Heap.SameBut a s.heap h') (ho : ∀ D, ObjR G.K h' D a mo') : St G P W (upd H a mo') { s with heap := h', toks := t } := by
  obtain ⟨D, d1, d2, d3⟩ := x.lay
  have un : ∀ {b mo₂}, upd H a mo' b = some mo₂ → (b = a ∧ mo₂ = mo') ∨ (b ≠ a ∧ H b = some mo₂) := fun {b mo₂} e => by
    by_cases q : b = a
    · subst q; rw [upd_same] at e; cases e; exact .inl ⟨rfl, rfl⟩
    · rw [upd_ne _ _ q] at e; exact .inr ⟨q, e⟩
  have pa : P a = none := by
    cases q : P a with
    | none => rfl
    | some o => rw [x.sep a o mo q ha] at hr; cases hr
  have ne : ∀ b o, P b = some o → b ≠ a := fun b o e q => by rw [q, pa] at e; cases e
  refine ⟨x.gens, x.os, x.pb, fun b o e => (hs.2 b (ne b o e)).trans (x.prot b o e), fun b o' mo₂ p q => ?_, fun b w => ?_, D, fun b mo₂ e => ?_, fun b c fs e => ?_, fun b c fs b' c' fs' e e' => ?_⟩
  · rcases un q with ⟨rfl, rfl⟩ | ⟨_, q⟩
    · rw [pa] at p; cases p
    · exact x.sep b o' mo₂ p q
  · obtain ⟨p, q, o', r, n⟩ := x.own b w
    have : b ≠ a := fun h => by rw [h, ha] at q; cases q
    refine ⟨p, ?_, o', (hs.2 b this).trans r, n⟩
    rw [upd_ne _ _ this]; exact q
  · rcases un e with ⟨rfl, rfl⟩ | ⟨hb, q⟩
    · exact ho D
    · refine (d1 b mo₂ q).keeps (fun v e => (hs.2 b hb).trans e) (fun c fs hc => ⟨rfl, fun v e => (hs.2 _ ?_).trans e⟩)
      subst hc
      intro h
      have := (d2 b c fs q).2.1
      rw [h, ha] at this; cases this
  · rcases un e with ⟨rfl, h⟩ | ⟨_, q⟩
    · exact absurd h.symm (hi' c fs)
    · obtain ⟨p, h, r⟩ := d2 b c fs q
      refine ⟨p, ?_, r⟩
      have : D b ≠ a := fun h' => by rw [h', ha] at h; cases h
      rw [upd_ne _ _ this]; exact h
  · rcases un e with ⟨rfl, h⟩ | ⟨_, q⟩
    · exact absurd h.symm (hi' c fs)
    · rcases un e' with ⟨rfl, h⟩ | ⟨_, q'⟩
      · exact absurd h.symm (hi' c' fs')
      · exact d3 b c fs b' c' fs' q q'

theorem St.field (x : St G P W H s) {a : Addr} {c : Nat} {fs fs' : List (Nat × V)} (ha : H a = some (.inst c fs)) :
    ∃ d m, s.heap.get? a = some (instObj (cAddr G.K c) d) ∧ s.heap.Ns d m ∧ s.heap.DictLe d fs.length ∧ (∀ k, k < nmList.length → (m (nm k)).map V.of = fget fs k) ∧
      ∀ h' m' t, Heap.SameBut d s.heap h' → h'.Ns d m' → h'.DictLe d fs'.length → (∀ k, k < nmList.length → (m' (nm k)).map V.of = fget fs' k) → St G P W (upd H a (.inst c fs')) { s with heap := h', toks := t } := by
  obtain ⟨D, d1, d2, d3⟩ := x.lay
  obtain ⟨m, p1, p2, pl, p3⟩ := d1 a _ ha
  refine ⟨D a, m, p1, p2, pl, p3, fun h' m' t hs n' l' f' => ?_⟩
  obtain ⟨q1, q2, q3⟩ := d2 a c fs ha
  have un : ∀ {b mo₂}, upd H a (.inst c fs') b = some mo₂ → (b = a ∧ mo₂ = .inst c fs') ∨ (b ≠ a ∧ H b = some mo₂) := fun {b mo₂} e => by
    by_cases q : b = a
    · subst q; rw [upd_same] at e; cases e; exact .inl ⟨rfl, rfl⟩
    · rw [upd_ne _ _ q] at e; exact .inr ⟨q, e⟩
  have nD : ∀ b, H b ≠ none → b ≠ D a := fun b e q => e (q ▸ q2)
  have aD : a ≠ D a := nD a (by rw [ha]; simp)
  have pa : P a = none := by
    cases q : P a with
    | none => rfl
    | some o => cases (x.sep a o _ q ha)
  refine ⟨x.gens, x.os, x.pb, fun b o e => (hs.2 b (fun q => by rw [q, q1] at e; cases e)).trans (x.prot b o e), fun b o' mo₂ p q => ?_, fun b w => ?_, D, fun b mo₂ e => ?_, fun b c₂ fs₂ e => ?_, fun b c₂ fs₂ b' c' fs'' e e' => ?_⟩
  · rcases un q with ⟨rfl, rfl⟩ | ⟨_, q⟩
    · rw [pa] at p; cases p
    · exact x.sep b o' mo₂ p q
  · obtain ⟨p, q, o', r, n⟩ := x.own b w
    have h1 : b ≠ a := fun h => by rw [h, ha] at q; cases q
    have h2 : b ≠ D a := fun h => q3 (h ▸ w)
    refine ⟨p, ?_, o', (hs.2 b h2).trans r, n⟩
    rw [upd_ne _ _ h1]; exact q
  · rcases un e with ⟨rfl, rfl⟩ | ⟨hb, q⟩
    · exact ⟨m', (hs.2 _ aD).trans p1, n', l', f'⟩
    · refine (d1 b mo₂ q).keeps (fun v e => (hs.2 b (nD b (by rw [q]; simp))).trans e) (fun c₂ fs₂ hc => ⟨rfl, fun v e => (hs.2 _ ?_).trans e⟩)
      subst hc
      exact fun h => hb (d3 b c₂ fs₂ a c fs q ha h)
  · rcases un e with ⟨rfl, h⟩ | ⟨_, q⟩
    · cases h
      exact ⟨q1, by rw [upd_ne _ _ aD.symm]; exact q2, q3⟩
    · obtain ⟨p, h, r⟩ := d2 b c₂ fs₂ q
      refine ⟨p, ?_, r⟩
      have : D b ≠ a := fun h' => by rw [h', ha] at h; cases h
      rw [upd_ne _ _ this]; exact h
  · have key : ∀ {b c₂ fs₂}, upd H a (.inst c fs') b = some (.inst c₂ fs₂) → ∃ c₃ fs₃, H b = some (.inst c₃ fs₃) := fun {b c₂ fs₂} e => by
      rcases un e with ⟨rfl, h⟩ | ⟨_, q⟩
      · exact ⟨_, _, ha⟩
      · exact ⟨_, _, q⟩
    obtain ⟨_, _, y⟩ := key e
    obtain ⟨_, _, z⟩ := key e'
    exact d3 _ _ _ _ _ _ y z

theorem St.newInst (x : St G P W H s) {c : Nat} {t : Nat} :
    St G P W (upd H (s.heap.objs.size + 1) (.inst c [])) { s with heap := (s.heap.push emptyDict).push (instObj (cAddr G.K c) s.heap.objs.size), toks := t } := by
  obtain ⟨D, d1, d2, d3⟩ := x.lay
  obtain ⟨n, hn⟩ : ∃ n, n = s.heap.objs.size := ⟨_, rfl⟩
  obtain ⟨D', e1, e2⟩ : ∃ D' : Addr → Addr, D' (n + 1) = n ∧ ∀ b, b ≠ n + 1 → D' b = D b := ⟨fun b => if b = n + 1 then n else D b, if_pos rfl, fun b h => if_neg h⟩
  have k : ∀ b o', s.heap.get? b = some o' → ((s.heap.push emptyDict).push (instObj (cAddr G.K c) s.heap.objs.size)).get? b = some o' := fun _ _ e => Heap.get?_push_of_some _ (Heap.get?_push_of_some _ e)
  have lt : ∀ {b mo}, H b = some mo → b < n := fun e => let ⟨v, q⟩ := x.get e; hn ▸ Heap.lt_size q
  have ltD : ∀ {b c fs}, H b = some (.inst c fs) → D b < n := fun e => let ⟨v, q⟩ := (d1 _ _ e).atD; hn ▸ Heap.lt_size q
  have h1 : ((s.heap.push emptyDict).push (instObj (cAddr G.K c) s.heap.objs.size)).get? n = some emptyDict := Heap.get?_push_of_some _ (hn ▸ Heap.get?_push_size _ rfl)
  have h2 : ((s.heap.push emptyDict).push (instObj (cAddr G.K c) s.heap.objs.size)).get? (n + 1) = some (instObj (cAddr G.K c) n) := by
    have := Heap.get?_push_size (s.heap.push emptyDict) (o := instObj (cAddr G.K c) s.heap.objs.size) rfl
    rw [Heap.size_push] at this
    rw [hn]; exact this
  rw [← hn] at k h1 h2 ⊢
  have un : ∀ {b mo₂}, upd H (n + 1) (.inst c []) b = some mo₂ → (b = n + 1 ∧ mo₂ = .inst c []) ∨ (b ≠ n + 1 ∧ H b = some mo₂) := fun {b mo₂} e => by
    by_cases q : b = n + 1
    · subst q; rw [upd_same] at e; cases e; exact .inl ⟨rfl, rfl⟩
    · rw [upd_ne _ _ q] at e; exact .inr ⟨q, e⟩
  refine ⟨x.gens, x.os, x.pb, fun b o e => k _ _ (x.prot b o e), fun b o' mo₂ p q => ?_, fun b w => ?_, D', fun b mo₂ e => ?_, fun b c₂ fs₂ e => ?_, fun b c₂ fs₂ b' c' fs' e e' => ?_⟩
  · rcases un q with ⟨rfl, rfl⟩ | ⟨_, q⟩
    · rw [x.pNone' (by lia)] at p; cases p
    · exact x.sep b o' mo₂ p q
  · obtain ⟨p, q, o', r, nn⟩ := x.own b w
    have : b < n := hn ▸ Heap.lt_size r
    refine ⟨p, ?_, o', k _ _ r, nn⟩
    rw [upd_ne _ _ (fun h => by subst h; exact absurd this (Nat.not_lt.mpr (Nat.le_succ n)))]; exact q
  · rcases un e with ⟨rfl, rfl⟩ | ⟨hb, q⟩
    · refine ⟨fun _ => none, by rw [e1]; exact h2, ?_, ?_, fun k _ => rfl⟩
      · rw [e1]
        exact ⟨_, #[], 0, h1, rfl, fun _ he => by simp at he, fun _ => rfl⟩
      · rw [e1]
        intro o es ep ho hd
        rw [h1] at ho; cases ho; cases hd; exact Nat.le_refl _
    · exact (d1 b mo₂ q).keeps (fun v => k _ v) (fun _ _ _ => ⟨e2 _ hb, fun v => k _ v⟩)
  · rcases un e with ⟨rfl, h⟩ | ⟨hb, q⟩
    · rw [e1]
      refine ⟨x.pNone' (by lia), ?_, x.wNone (by lia)⟩
      rw [upd_ne _ _ (Nat.ne_of_lt (Nat.lt_succ_self n))]; exact x.hNone (by lia)
    · rw [e2 _ hb]
      obtain ⟨p, h, r⟩ := d2 b c₂ fs₂ q
      refine ⟨p, ?_, r⟩
      have := ltD q
      rw [upd_ne _ _ (fun h => by rw [h] at this; exact absurd this (Nat.not_lt.mpr (Nat.le_succ n)))]; exact h
  · have i1 := un e
    have i2 := un e'
    intro hD
    rcases i1 with ⟨rfl, _⟩ | ⟨hb, q⟩
    · rcases i2 with ⟨rfl, _⟩ | ⟨hb', q'⟩
      · rfl
      · rw [e1, e2 _ hb'] at hD
        have := ltD q'; rw [← hD] at this; exact absurd this (Nat.lt_irrefl _)
    · rcases i2 with ⟨rfl, _⟩ | ⟨hb', q'⟩
      · rw [e1, e2 _ hb] at hD
        have := ltD q; rw [hD] at this; exact absurd this (Nat.lt_irrefl _)
      · rw [e2 _ hb, e2 _ hb'] at hD
        exact d3 _ _ _ _ _ _ q q' hD

theorem St.ownTurn (x : St G P W H s) {a : Addr} {h' : Heap} {t : Nat} (w : W a) (hs : Heap.SameBut a s.heap h') (ho : ∃ o, h'.get? a = some o ∧ noSeq o) : St G P W H { s with heap := h', toks := t } := by
  obtain ⟨D, d1, d2, d3⟩ := x.lay
  obtain ⟨pa, ha, _⟩ := x.own a w
  refine ⟨x.gens, x.os, x.pb, fun b o e => (hs.2 b (fun q => by rw [q, pa] at e; cases e)).trans (x.prot b o e), x.sep, fun b wb => ?_, D, fun b mo e => ?_, d2, d3⟩
  · obtain ⟨p, q, o, r, n⟩ := x.own b wb
    by_cases hb : b = a
    · subst hb; exact ⟨p, q, ho⟩
    · exact ⟨p, q, o, (hs.2 b hb).trans r, n⟩
  · refine (d1 b mo e).keeps (fun v q => (hs.2 b (fun h => by rw [h, ha] at e; cases e)).trans q) (fun c fs hc => ⟨rfl, fun v q => (hs.2 _ (fun h => ?_)).trans q⟩)
    subst hc
    exact (d2 b c fs e).2.2 (h ▸ w)

theorem St.keepNew (x : St G P W H s) {o : Obj} {t : Nat} (hf : o.isFreed = false) : St G (P.put s.heap.objs.size o) W H { s with heap := s.heap.push o, toks := t } := by
  have y := x.push o (t := t)
  obtain ⟨D, d1, d2, d3⟩ := x.lay
  obtain ⟨D', d1', d2', d3'⟩ := y.lay
  have pn := x.pNone
  refine ⟨x.gens, x.os, fun a o' e => ?_, fun a o' e => ?_, fun a o' mo p q => ?_, fun a w => ?_, D, fun a mo e => (d1 a mo e).keeps (fun _ q => Heap.get?_push_of_some _ q) (fun _ _ _ => ⟨rfl, fun _ q => Heap.get?_push_of_some _ q⟩), fun a c fs e => ?_, d3⟩
  · have := x.pb a o' e
    rw [Part.put_ne _ _ (fun q => by rw [q, pn] at this; cases this)]; exact this
  · by_cases q : a = s.heap.objs.size
    · subst q; rw [Part.put_same] at e; cases e; exact Heap.get?_push_size _ hf
    · rw [Part.put_ne _ _ q] at e; exact Heap.get?_push_of_some _ (x.prot a o' e)
  · by_cases h : a = s.heap.objs.size
    · subst h; rw [x.hNone (Nat.le_refl _)] at q; cases q
    · rw [Part.put_ne _ _ h] at p; exact x.sep a o' mo p q
  · obtain ⟨p, q, o', r, n⟩ := x.own a w
    exact ⟨by rw [Part.put_ne _ _ (Nat.ne_of_lt (Heap.lt_size r))]; exact p, q, o', Heap.get?_push_of_some _ r, n⟩
  · obtain ⟨p, q, r⟩ := d2 a c fs e
    obtain ⟨v, z⟩ := (d1 a _ e).atD
    exact ⟨by rw [Part.put_ne _ _ (Nat.ne_of_lt (Heap.lt_size z))]; exact p, q, r⟩

theorem St.keptTurn {a : Addr} {o o' : Obj} {h' : Heap} {t : Nat} (x : St G (P.put a o) W H s) (pa : G.base.get? a = none) (n : noSeq o) (hs : Heap.ExtBut a s.heap h') (ho : h'.get? a = some o') : St G (P.put a o') W H { s with heap := h', toks := t } := by
  obtain ⟨D, d1, d2, d3⟩ := x.lay
  have hn : H a = none := x.noSeqNone (Part.put_same _ _ _) n
  refine ⟨x.gens, x.os, fun b o₂ e => ?_, fun b o₂ e => ?_, fun b o₂ mo p q => ?_, fun b w => ?_, D, fun b mo e => ?_, fun b c fs e => ?_, d3⟩
  · have := x.pb b o₂ e
    have hb : b ≠ a := fun q => by rw [q, pa] at e; cases e
    rw [Part.put_ne _ _ hb] at this ⊢; exact this
  · by_cases q : b = a
    · subst q; rw [Part.put_same] at e; cases e; exact ho
    · rw [Part.put_ne _ _ q] at e; exact hs _ _ q (x.prot b o₂ (by rw [Part.put_ne _ _ q]; exact e))
  · by_cases h : b = a
    · subst h; rw [hn] at q; cases q
    · rw [Part.put_ne _ _ h] at p; exact x.sep b o₂ mo (by rw [Part.put_ne _ _ h]; exact p) q
  · obtain ⟨p, q, o₂, r, z⟩ := x.own b w
    have hb : b ≠ a := fun q => by rw [q, Part.put_same] at p; cases p
    exact ⟨by rw [Part.put_ne _ _ hb] at p ⊢; exact p, q, o₂, hs _ _ hb r, z⟩
  · refine (d1 b mo e).keeps (fun v q => hs _ _ (fun h => by rw [h, hn] at e; cases e) q) (fun c fs hc => ⟨rfl, fun v q => hs _ _ (fun h => ?_) q⟩)
    subst hc
    have := (d2 b c fs e).1
    rw [h, Part.put_same] at this; cases this
  · obtain ⟨p, q, r⟩ := d2 b c fs e
    have hb : D b ≠ a := fun h => by rw [h, Part.put_same] at p; cases p
    exact ⟨by rw [Part.put_ne _ _ hb] at p ⊢; exact p, q, r⟩

theorem St.lessP {P₂ : Part} (x : St G P W H s) (h : ∀ a o, P₂ a = some o → P a = some o) (hb : ∀ a o, G.base.get? a = some o → P₂ a = some o) : St G P₂ W H s := by
  obtain ⟨D, d1, d2, d3⟩ := x.lay
  have nn : ∀ {a}, P a = none → P₂ a = none := fun {a} e => by
    cases q : P₂ a with
    | none => rfl
    | some o => rw [h a o q] at e; cases e
  exact ⟨x.gens, x.os, hb, fun a o e => x.prot a o (h _ _ e), fun a o mo p q => x.sep a o mo (h _ _ p) q, fun a w => let ⟨p, q, r⟩ := x.own a w; ⟨nn p, q, r⟩,
    D, d1, fun a c fs e => let ⟨p, q, r⟩ := d2 a c fs e; ⟨nn p, q, r⟩, d3⟩

open Classical in
noncomputable def lockP (P : Part) (W : Addr → Prop) (h : Heap) : Part := fun a => if W a then h.get? a else P a

theorem St.lock (x : St G P W H s) : St G (lockP P W s.heap) (fun _ => False) H s := by
  obtain ⟨D, d1, d2, d3⟩ := x.lay
  have nw : ∀ {a}, ¬ W a → lockP P W s.heap a = P a := fun h => if_neg h
  have iw : ∀ {a}, W a → lockP P W s.heap a = s.heap.get? a := fun h => if_pos h
  refine ⟨x.gens, x.os, fun a o e => ?_, fun a o e => ?_, fun a o mo p q => ?_, fun _ w => w.elim, D, d1, fun a c fs e => ?_, d3⟩
  · have := x.pb a o e
    rw [nw (fun w => by rw [(x.own a w).1] at this; cases this)]; exact this
  · by_cases w : W a
    · rw [iw w] at e; exact e
    · rw [nw w] at e; exact x.prot a o e
  · by_cases w : W a
    · rw [(x.own a w).2.1] at q; cases q
    · rw [nw w] at p; exact x.sep a o mo p q
  · obtain ⟨p, q, r⟩ := d2 a c fs e
    exact ⟨by rw [nw r]; exact p, q, id⟩

theorem St.unlock {H' : MH} (x : St G P W H s) (y : St G (lockP P W s.heap) (fun _ => False) H' s') : St G P W H' s' := by
  obtain ⟨D, d1, d2, d3⟩ := y.lay
  have nw : ∀ {a}, ¬ W a → lockP P W s.heap a = P a := fun h => if_neg h
  have iw : ∀ {a}, W a → lockP P W s.heap a = s.heap.get? a := fun h => if_pos h
  have lp : ∀ {a o}, P a = some o → lockP P W s.heap a = some o := fun {a o} e => by
    rw [nw (fun w => by rw [(x.own a w).1] at e; cases e)]; exact e
  have own : ∀ a, W a → P a = none ∧ H' a = none ∧ ∃ o, s'.heap.get? a = some o ∧ noSeq o := fun a w => by
    obtain ⟨p, q, o, r, n⟩ := x.own a w
    have z : lockP P W s.heap a = some o := by rw [iw w]; exact r
    exact ⟨p, y.noSeqNone z n, o, y.prot _ _ z, n⟩
  refine ⟨y.gens, y.os, x.pb, fun a o e => y.prot a o (lp e), fun a o mo p q => y.sep a o mo (lp p) q, own, D, d1, fun a c fs e => ?_, d3⟩
  obtain ⟨p, q, r⟩ := d2 a c fs e
  have nwD : ¬ W (D a) := fun w => by
    obtain ⟨_, _, o, r, n⟩ := x.own _ w
    rw [iw w, r] at p; cases p
  exact ⟨by rw [nw nwD] at p; exact p, q, nwD⟩

theorem St.unlock_own {H' : MH} (x : St G P W H s) (y : St G (lockP P W s.heap) (fun _ => False) H' s') : ∀ a, W a → ∀ o, s.heap.get? a = some o → s'.heap.get? a = some o := fun a w o e =>
  y.prot a o (by show lockP P W s.heap a = some o; unfold lockP; rw [if_pos w]; exact e)
end

theorem mh_false {Q : MH → Prop} {H : MH} (h : False) : Q H := h.elim
theorem easy {a b c : Nat} (h : a ≤ b) (e : Nat.ble b c = true) : a ≤ c := Nat.le_trans h (Nat.le_of_ble_eq_true e)
theorem easy' {a b c : Nat} (h : b ≤ c) (e : Nat.ble a b = true) : a ≤ c := Nat.le_trans (Nat.le_of_ble_eq_true e) h
theorem min_cast {m L p : Nat} (h : p ≤ L) : min (m : Int) ((L : Int) - p) = ((min m (L - p) : Nat) : Int) := by
  rw [← Int.ofNat_sub h]
  rcases Nat.le_total m (L - p) with q | q
  · rw [Nat.min_eq_left q, Int.min_eq_left (Int.ofNat_le.mpr q)]
  · rw [Nat.min_eq_right q, Int.min_eq_right (Int.ofNat_le.mpr q)]
end Mine
end
-- part M2
section
open PySem PySem.Calls PyProof.Rows PySem.W
set_option maxHeartbeats 4000000
set_option maxRecDepth 100000
namespace Mine

noncomputable def Own (env : Env) (a : Addr) : Prop := a = env.locals ∨ ∃ x, env.kindOf x = some .cell ∧ env.cells.lookup x = some a

structure FrOK (ln : List Str) (env : Env) (h : Heap) (fr : List V) : Prop where
  len : fr.length = ln.length
  ns : ∃ m, h.Ns env.locals m ∧ ∀ i x, ln[i]? = some x → env.kindOf x = some .local → fr.getD i .odd ≠ .odd → ∃ v, m x = some v ∧ V.of v = fr.getD i .odd
  cells : ∀ x, env.kindOf x = some .cell → ∃ c ov, env.cells.lookup x = some c ∧ h.IsCell c ov ∧ ∀ i, ln[i]? = some x → fr.getD i .odd ≠ .odd → ∃ v, ov = some v ∧ V.of v = fr.getD i .odd
  inj : ∀ x y c, env.kindOf x = some .cell → env.kindOf y = some .cell → env.cells.lookup x = some c → env.cells.lookup y = some c → x = y
  ne : ∀ x c, env.kindOf x = some .cell → env.cells.lookup x = some c → c ≠ env.locals

theorem FrOK.keeps {ln : List Str} {env : Env} {h h' : Heap} {fr : List V} (x : FrOK ln env h fr) (k : ∀ a, Own env a → ∀ o, h.get? a = some o → h'.get? a = some o) : FrOK ln env h' fr := by
  refine ⟨x.len, ?_, fun y hy => ?_, x.inj, x.ne⟩
  · obtain ⟨m, ⟨o, es, ep, ho, r⟩, q⟩ := x.ns
    exact ⟨m, ⟨o, es, ep, k _ (.inl rfl) _ ho, r⟩, q⟩
  · obtain ⟨c, ov, e, ⟨o, ho, hd⟩, q⟩ := x.cells y hy
    exact ⟨c, ov, e, ⟨o, k _ (.inr ⟨y, hy, e⟩) _ ho, hd⟩, q⟩

theorem getD_set (fr : List V) (i j : Nat) (v : V) (h : i < fr.length) : (fr.set i v).getD j .odd = if j = i then v else fr.getD j .odd := by
  by_cases e : j = i
  · subst e; rw [if_pos rfl]; simp [List.getD_eq_getElem?_getD, h]
  · rw [if_neg e]; simp [List.getD_eq_getElem?_getD, List.getElem?_set_ne (Ne.symm e)]

theorem nodup_idx {ln : List Str} (nd : ln.Nodup) {i j : Nat} {x : Str} (h : ln[i]? = some x) (h' : ln[j]? = some x) : i = j := by
  obtain ⟨a, e⟩ := List.getElem?_eq_some_iff.mp h
  obtain ⟨b, e'⟩ := List.getElem?_eq_some_iff.mp h'
  have p := List.pairwise_iff_getElem.mp nd
  rcases Nat.lt_trichotomy i j with q | q | q
  · exact absurd (e.trans e'.symm) (p i j a b q)
  · exact q
  · exact absurd (e'.trans e.symm) (p j i b a q)

theorem FrOK.setLocal {ln : List Str} {env : Env} {h h' : Heap} {fr : List V} {m : Str → Option Value} {i : Nat} {x : Str} {v : Value} (f : FrOK ln env h fr) (nd : ln.Nodup) (hi : ln[i]? = some x) (hl : env.kindOf x = some .local)
    (hlen : i < fr.length) (hm : ∀ j y, ln[j]? = some y → env.kindOf y = some .local → fr.getD j .odd ≠ .odd → ∃ v, m y = some v ∧ V.of v = fr.getD j .odd)
    (hn : h'.Ns env.locals (fun y => if y = x then some v else m y)) (hs : Heap.SameBut env.locals h h') : FrOK ln env h' (fr.set i (V.of v)) := by
  refine ⟨by rw [List.length_set]; exact f.len, ⟨_, hn, fun j y hj hy ho => ?_⟩, fun y hy => ?_, f.inj, f.ne⟩
  · rw [getD_set _ _ _ _ hlen] at ho ⊢
    by_cases e : j = i
    · subst e
      have : y = x := by rw [hi] at hj; exact (Option.some.inj hj).symm
      subst this
      exact ⟨v, if_pos rfl, (if_pos rfl).symm⟩
    · rw [if_neg e] at ho ⊢
      have : y ≠ x := fun q => e (nodup_idx nd hj (q ▸ hi))
      obtain ⟨v', a, b⟩ := hm j y hj hy ho
      exact ⟨v', (if_neg this).trans a, b⟩
  · obtain ⟨c, ov, e, hc, q⟩ := f.cells y hy
    refine ⟨c, ov, e, hc.sameBut hs (f.ne y c hy e), fun j hj ho => ?_⟩
    have ne : j ≠ i := fun h => by
      subst h
      rw [hi] at hj; cases hj
      rw [hl] at hy; cases hy
    rw [getD_set _ _ _ _ hlen, if_neg ne] at ho ⊢
    exact q j hj ho

theorem FrOK.setCell {ln : List Str} {env : Env} {h h' : Heap} {fr : List V} {i : Nat} {x : Str} {v : Value} {c : Addr} (f : FrOK ln env h fr) (nd : ln.Nodup) (hi : ln[i]? = some x) (hl : env.kindOf x = some .cell)
    (hlen : i < fr.length) (hc : env.cells.lookup x = some c) (hv : h'.IsCell c (some v)) (hs : Heap.SameBut c h h') : FrOK ln env h' (fr.set i (V.of v)) := by
  refine ⟨by rw [List.length_set]; exact f.len, ?_, fun y hy => ?_, f.inj, f.ne⟩
  · obtain ⟨m, hn, q⟩ := f.ns
    refine ⟨m, hn.sameBut hs (f.ne x c hl hc).symm, fun j y hj hy ho => ?_⟩
    have ne : j ≠ i := fun h => by
      subst h
      rw [hi] at hj; cases hj
      rw [hl] at hy; cases hy
    rw [getD_set _ _ _ _ hlen, if_neg ne] at ho ⊢
    exact q j y hj hy ho
  · obtain ⟨c', ov, e, hc', q⟩ := f.cells y hy
    by_cases hy' : y = x
    · subst hy'
      rw [hc] at e; cases e
      refine ⟨c, some v, hc, hv, fun j hj ho => ?_⟩
      have := nodup_idx nd hj hi
      subst this
      rw [getD_set _ _ _ _ hlen, if_pos rfl] at ho ⊢
      exact ⟨v, rfl, rfl⟩
    · have hcc : c' ≠ c := fun h => hy' (f.inj y x c hy hl (h ▸ e) hc)
      refine ⟨c', ov, e, hc'.sameBut hs hcc, fun j hj ho => ?_⟩
      have ne : j ≠ i := fun h => by
        subst h
        rw [hi] at hj; cases hj
        exact hy' rfl
      rw [getD_set _ _ _ _ hlen, if_neg ne] at ho ⊢
      exact q j hj ho

structure EnvOK (sc : Scope) (env : Env) : Prop where
  hs : env.scope = sc
  gl : env.globals = mainGlobals
  bi : env.builtins = builtinsNs
  fn : sc.kind = ScopeKind.function

structure AOk (n : Nat) (A : Around) : Prop where
  hh : A.handled = none
  hd : A.depth + 4 * n + 20 < recursionLimit
  hu : A.units + 12 * n + 140 < cLine

theorem AOk.deeper {n : Nat} {A : Around} (a : AOk (n + 1) A) (env : Env) : AOk n (A.deeper env) := by
  refine ⟨a.hh, ?_, ?_⟩
  · have := a.hd; show A.depth + 1 + 4 * n + 20 < _; lia
  · have := a.hu; show A.units + 3 + 12 * n + 140 < _; lia
theorem AOk.depth {n : Nat} {A : Around} (a : AOk n A) : A.depth < recursionLimit := by have := a.hd; lia
theorem AOk.units {n : Nat} {A : Around} (a : AOk n A) : A.units < cLine := by have := a.hu; lia

structure Sit (G : Gd) (ln : List Str) (P : Part) (env : Env) (fr : List V) (H : MH) (s : Shared) : Prop where
  st : St G P (Own env) H s
  f : FrOK ln env s.heap fr

section
variable {G : Gd} {ln : List Str} {P : Part} {env : Env} {fr : List V} {H H₂ : MH} {s s' : Shared}

theorem Sit.keeps (x : Sit G ln P env fr H s) (k : ∀ b o, s.heap.get? b = some o → s'.heap.get? b = some o) (hg : s'.gens = s.gens) (ho : s'.os = s.os) : Sit G ln P env fr H s' :=
  ⟨x.st.keeps k hg ho, x.f.keeps fun a _ o => k a o⟩
theorem Sit.toks (x : Sit G ln P env fr H s) {t : Nat} : Sit G ln P env fr H { s with toks := t } := x.keeps (fun _ _ e => e) rfl rfl
theorem Sit.heap (x : Sit G ln P env fr H s) {h' : Heap} {t : Nat} (k : ∀ b o, s.heap.get? b = some o → h'.get? b = some o) : Sit G ln P env fr H { s with heap := h', toks := t } := x.keeps k rfl rfl
theorem Sit.push (x : Sit G ln P env fr H s) (o : Obj) {t : Nat} : Sit G ln P env fr H { s with heap := s.heap.push o, toks := t } := x.heap fun _ _ e => Heap.get?_push_of_some _ e
theorem Sit.sub (x : Sit G ln P env fr H s) (h : Sub H₂ H) : Sit G ln P env fr H₂ s := ⟨x.st.sub h, x.f⟩
theorem Sit.new (x : Sit G ln P env fr H s) {o : Obj} {mo : MO} {t : Nat} (hf : o.isFreed = false) (hi : ∀ c fs, mo ≠ .inst c fs)
    (ho : ∀ D, ObjR G.K (s.heap.push o) D s.heap.objs.size mo) : Sit G ln P env fr (upd H s.heap.objs.size mo) { s with heap := s.heap.push o, toks := t } :=
  ⟨x.st.new hf hi ho, x.f.keeps fun _ _ _ e => Heap.get?_push_of_some _ e⟩
theorem Sit.newAt (x : Sit G ln P env fr H s) {h' : Heap} {b : Addr} {mo : MO} {t : Nat} (k : ∀ b o', s.heap.get? b = some o' → h'.get? b = some o') (hb : s.heap.objs.size ≤ b) (hi : ∀ c fs, mo ≠ .inst c fs)
    (ho : ∀ D, ObjR G.K h' D b mo) : Sit G ln P env fr (upd H b mo) { s with heap := h', toks := t } :=
  ⟨x.st.newAt k hb hi ho, x.f.keeps fun _ _ _ e => k _ _ e⟩
theorem Sit.hNone (x : Sit G ln P env fr H s) : H s.heap.objs.size = none := x.st.hNone (Nat.le_refl _)
theorem Sit.notOwn (x : Sit G ln P env fr H s) {a : Addr} {mo : MO} (e : H a = some mo) : ¬ Own env a := fun w => by
  rw [(x.st.own a w).2.1] at e; cases e
theorem Sit.turn (x : Sit G ln P env fr H s) {a : Addr} {mo mo' : MO} {h' : Heap} {t : Nat} (ha : H a = some mo) (hr : mo.isRO = false) (hi : ∀ c fs, mo ≠ .inst c fs) (hi' : ∀ c fs, mo' ≠ .inst c fs)
    (hs : Heap.SameBut a s.heap h') (ho : ∀ D, ObjR G.K h' D a mo') : Sit G ln P env fr (upd H a mo') { s with heap := h', toks := t } :=
  ⟨x.st.turn ha hr hi hi' hs ho, x.f.keeps fun b w o e => (hs.2 b (fun q => x.notOwn ha (q ▸ w))).trans e⟩

theorem noSeq_ns {h : Heap} {a : Addr} {m : Str → Option Value} (n : h.Ns a m) : ∃ o, h.get? a = some o ∧ noSeq o := by
  obtain ⟨o, es, ep, ho, hd, _⟩ := n
  exact ⟨o, ho, fun xs k e => by rw [hd] at e; cases e⟩
theorem noSeq_cell {h : Heap} {a : Addr} {v : Option Value} (n : h.IsCell a v) : ∃ o, h.get? a = some o ∧ noSeq o := by
  obtain ⟨o, ho, hd⟩ := n
  exact ⟨o, ho, fun xs k e => by rw [hd] at e; cases e⟩

theorem lookup_mem {α : Type} : ∀ {l : List (Str × α)} {x : Str} {v : α}, l.lookup x = some v → (x, v) ∈ l := fun h => mem_of_lookup h

theorem Sit.read {A : Around} {M : Model} {E : Value → Shared → Prop} {Q : Value → Shared → Prop} {i : Nat} {x : Str} {pos : Pos} (z : Sit G ln P env fr H s) (hk : env.scope.kind = .function) (hi : ln[i]? = some x)
    (hx : env.kindOf x = some .local ∨ env.kindOf x = some .cell) (ho : fr.getD i .odd ≠ .odd) (h : ∀ v, V.of v = fr.getD i .odd → Q v s) : wpAny M A (loadName env x) Q E s := by
  rcases hx with hx | hx
  · obtain ⟨m, hn, q⟩ := z.f.ns
    obtain ⟨v, a, b⟩ := q i x hi hx ho
    exact wpAny_loadName_local hk hx hn a (h v b)
  · obtain ⟨c, ov, e, hc, q⟩ := z.f.cells x hx
    obtain ⟨v, rfl, b⟩ := q i hi ho
    exact wpAny_loadName_cell hk hx e hc (h v b)

theorem Sit.store {A : Around} {M : Model} {E : Value → Shared → Prop} {Q : Unit → Shared → Prop} {i : Nat} {x : Str} {v : Value} (z : Sit G ln P env fr H s) (nd : ln.Nodup) (hk : env.scope.kind = .function) (hi : ln[i]? = some x)
    (hx : env.kindOf x = some .local ∨ env.kindOf x = some .cell) (h : ∀ s', Sit G ln P env (fr.set i (V.of v)) H s' → Q () s') : wpAny M A (storeName env x v) Q E s := by
  have hlen : i < fr.length := by rw [z.f.len]; exact (List.getElem?_eq_some_iff.mp hi).1
  rcases hx with hx | hx
  · obtain ⟨m, hn, q⟩ := z.f.ns
    refine wpAny_storeName_local hx hn (fun h' hn' hs' => h _ ⟨z.st.ownTurn (.inl rfl) hs' (noSeq_ns hn'), z.f.setLocal nd hi hx hlen q hn' hs'⟩) (by rw [hk]; rfl)
  · obtain ⟨c, ov, e, hc, q⟩ := z.f.cells x hx
    exact wpAny_storeName_cell hk hx e hc fun h' hc' hs' => h _ ⟨z.st.ownTurn (t := s.toks) (.inr ⟨x, hx, e⟩) hs' (noSeq_cell hc'), z.f.setCell nd hi hx hlen e hc' hs'⟩

theorem Sit.lock (x : Sit G ln P env fr H s) : St G (lockP P (Own env) s.heap) (fun _ => False) H s := x.st.lock
theorem Sit.unlock {H' : MH} (x : Sit G ln P env fr H s) (y : St G (lockP P (Own env) s.heap) (fun _ => False) H' s') : Sit G ln P env fr H' s' :=
  ⟨x.st.unlock y, x.f.keeps fun a w o e => x.st.unlock_own y a w o e⟩
end

end Mine
end
-- part M3
section
open PySem PySem.Calls PyProof.Rows PySem.W
set_option maxHeartbeats 4000000
set_option maxRecDepth 100000
namespace Mine

mutual
inductive E where
  | none | bool (b : Bool) | int (i : Int) | str (k : Nat)
  | loc (i : Nat)
  | gint (x : Str) (i : Int)
  | attr (e : E) (k : Nat)
  | sub (e i : E)
  | slice (e lo hi : E)
  | rev (e : E)
  | bin (op : Operator) (a b : E)
  | neg (i : Int)
  | not (a : E)
  | cmp (op : CmpOp) (a b : E)
  | cmp2 (o p : CmpOp) (a b c : E)
  | and (a : E) (es : Es)
  | or (a : E) (es : Es)
  | ife (t a b : E)
  | call (f : Str) (args : Es)
  | new (c : Nat) (args : Es)
  | sup (c k : Nat) (args : Es)
  | meth (o : E) (k : Nat) (args : Es)
  | bi (k : Nat) (args : Es)
  | list (es : Es)
  | tup (es : Es)
  | dict0
  | comp (elt : E) (t : Nat) (src : E) (conds : Es)
  | nonEmpty (e : E)
  | eqPair (e : E) (x y : Int)
  | pick (es : Es) (i : E)
inductive Es where
  | nil
  | cons (e : E) (es : Es)
end

inductive Tgt where
  | v (i : Nat)
  | tup (is : List Nat)

mutual
inductive S where
  | expr (e : E) | pass | brk | cont | ret (e : E) | raise
  | asg (t : Tgt) (e : E)
  | asgT (is : List Nat) (es : Es)
  | sattr (o : E) (k : Nat) (e : E)
  | ssub (o i e : E)
  | aug (i : Nat) (op : Operator) (e : E)
  | ife (t : E) (a b : Ss)
  | while (t : E) (b : Ss)
  | for (t : Tgt) (src : E) (b : Ss)
inductive Ss where
  | nil
  | cons (s : S) (ss : Ss)
end

theorem on_of {p : Prop} [Decidable p] {g : p → Bool} (h : (if i : p then g i else false) = true) : ∃ i, g i = true := by
  by_cases i : p
  · rw [dif_pos i] at h; exact ⟨i, h⟩
  · rw [dif_neg i] at h; cases h
noncomputable def onConst (x : Expr) (q : Const → Nat → Pos → Bool) : Bool := if h : x.ctorIdx = 19 then Expr.Constant.elim (motive_1 := fun _ => Bool) x h q else false
@[elab_as_elim] theorem onConst_el {em : Expr → Prop} {x : Expr} {q : Const → Nat → Pos → Bool} (h : onConst x q = true) (k : ∀ u0 u1 u2, q u0 u1 u2 = true → em (PySem.Expr.Constant u0 u1 u2)) : em x :=
  (on_of h).elim fun i h => Expr.Constant.elim (motive_1 := fun x => ∀ i : x.ctorIdx = 19, Expr.Constant.elim (motive_1 := fun _ => Bool) x i q = true → em x) x i (fun u0 u1 u2 _ h => k u0 u1 u2 h) i h
noncomputable def onName (x : Expr) (q : Str → Pos → Bool) : Bool := if h : x.ctorIdx = 23 then Expr.Name.elim (motive_1 := fun _ => Bool) x h q else false
@[elab_as_elim] theorem onName_el {em : Expr → Prop} {x : Expr} {q : Str → Pos → Bool} (h : onName x q = true) (k : ∀ u0 u1, q u0 u1 = true → em (PySem.Expr.Name u0 u1)) : em x :=
  (on_of h).elim fun i h => Expr.Name.elim (motive_1 := fun x => ∀ i : x.ctorIdx = 23, Expr.Name.elim (motive_1 := fun _ => Bool) x i q = true → em x) x i (fun u0 u1 _ h => k u0 u1 h) i h
noncomputable def onAttr (x : Expr) (q : Expr → Str → Pos → Bool) : Bool := if h : x.ctorIdx = 20 then Expr.Attribute.elim (motive_1 := fun _ => Bool) x h q else false
@[elab_as_elim] theorem onAttr_el {em : Expr → Prop} {x : Expr} {q : Expr → Str → Pos → Bool} (h : onAttr x q = true) (k : ∀ u0 u1 u2, q u0 u1 u2 = true → em (PySem.Expr.Attribute u0 u1 u2)) : em x :=
  (on_of h).elim fun i h => Expr.Attribute.elim (motive_1 := fun x => ∀ i : x.ctorIdx = 20, Expr.Attribute.elim (motive_1 := fun _ => Bool) x i q = true → em x) x i (fun u0 u1 u2 _ h => k u0 u1 u2 h) i h
noncomputable def onSub (x : Expr) (q : Expr → Expr → Pos → Bool) : Bool := if h : x.ctorIdx = 21 then Expr.Subscript.elim (motive_1 := fun _ => Bool) x h q else false
@[elab_as_elim] theorem onSub_el {em : Expr → Prop} {x : Expr} {q : Expr → Expr → Pos → Bool} (h : onSub x q = true) (k : ∀ u0 u1 u2, q u0 u1 u2 = true → em (PySem.Expr.Subscript u0 u1 u2)) : em x :=
  (on_of h).elim fun i h => Expr.Subscript.elim (motive_1 := fun x => ∀ i : x.ctorIdx = 21, Expr.Subscript.elim (motive_1 := fun _ => Bool) x i q = true → em x) x i (fun u0 u1 u2 _ h => k u0 u1 u2 h) i h
noncomputable def onSlice (x : Expr) (q : Option Expr → Option Expr → Option Expr → Pos → Bool) : Bool := if h : x.ctorIdx = 26 then Expr.Slice.elim (motive_1 := fun _ => Bool) x h q else false
@[elab_as_elim] theorem onSlice_el {em : Expr → Prop} {x : Expr} {q : Option Expr → Option Expr → Option Expr → Pos → Bool} (h : onSlice x q = true) (k : ∀ u0 u1 u2 u3, q u0 u1 u2 u3 = true → em (PySem.Expr.Slice u0 u1 u2 u3)) : em x :=
  (on_of h).elim fun i h => Expr.Slice.elim (motive_1 := fun x => ∀ i : x.ctorIdx = 26, Expr.Slice.elim (motive_1 := fun _ => Bool) x i q = true → em x) x i (fun u0 u1 u2 u3 _ h => k u0 u1 u2 u3 h) i h
noncomputable def onBin (x : Expr) (q : Expr → Operator → Expr → Pos → Bool) : Bool := if h : x.ctorIdx = 2 then Expr.BinOp.elim (motive_1 := fun _ => Bool) x h q else false
@[elab_as_elim] theorem onBin_el {em : Expr → Prop} {x : Expr} {q : Expr → Operator → Expr → Pos → Bool} (h : onBin x q = true) (k : ∀ u0 u1 u2 u3, q u0 u1 u2 u3 = true → em (PySem.Expr.BinOp u0 u1 u2 u3)) : em x :=
  (on_of h).elim fun i h => Expr.BinOp.elim (motive_1 := fun x => ∀ i : x.ctorIdx = 2, Expr.BinOp.elim (motive_1 := fun _ => Bool) x i q = true → em x) x i (fun u0 u1 u2 u3 _ h => k u0 u1 u2 u3 h) i h
noncomputable def onUn (x : Expr) (q : UnaryOp → Expr → Pos → Bool) : Bool := if h : x.ctorIdx = 3 then Expr.UnaryOp.elim (motive_1 := fun _ => Bool) x h q else false
@[elab_as_elim] theorem onUn_el {em : Expr → Prop} {x : Expr} {q : UnaryOp → Expr → Pos → Bool} (h : onUn x q = true) (k : ∀ u0 u1 u2, q u0 u1 u2 = true → em (PySem.Expr.UnaryOp u0 u1 u2)) : em x :=
  (on_of h).elim fun i h => Expr.UnaryOp.elim (motive_1 := fun x => ∀ i : x.ctorIdx = 3, Expr.UnaryOp.elim (motive_1 := fun _ => Bool) x i q = true → em x) x i (fun u0 u1 u2 _ h => k u0 u1 u2 h) i h
noncomputable def onCmp (x : Expr) (q : Expr → List CmpOp → List Expr → Pos → Bool) : Bool := if h : x.ctorIdx = 15 then Expr.Compare.elim (motive_1 := fun _ => Bool) x h q else false
@[elab_as_elim] theorem onCmp_el {em : Expr → Prop} {x : Expr} {q : Expr → List CmpOp → List Expr → Pos → Bool} (h : onCmp x q = true) (k : ∀ u0 u1 u2 u3, q u0 u1 u2 u3 = true → em (PySem.Expr.Compare u0 u1 u2 u3)) : em x :=
  (on_of h).elim fun i h => Expr.Compare.elim (motive_1 := fun x => ∀ i : x.ctorIdx = 15, Expr.Compare.elim (motive_1 := fun _ => Bool) x i q = true → em x) x i (fun u0 u1 u2 u3 _ h => k u0 u1 u2 u3 h) i h
noncomputable def onBool (x : Expr) (q : BoolOp → List Expr → Pos → Bool) : Bool := if h : x.ctorIdx = 0 then Expr.BoolOp.elim (motive_1 := fun _ => Bool) x h q else false
@[elab_as_elim] theorem onBool_el {em : Expr → Prop} {x : Expr} {q : BoolOp → List Expr → Pos → Bool} (h : onBool x q = true) (k : ∀ u0 u1 u2, q u0 u1 u2 = true → em (PySem.Expr.BoolOp u0 u1 u2)) : em x :=
  (on_of h).elim fun i h => Expr.BoolOp.elim (motive_1 := fun x => ∀ i : x.ctorIdx = 0, Expr.BoolOp.elim (motive_1 := fun _ => Bool) x i q = true → em x) x i (fun u0 u1 u2 _ h => k u0 u1 u2 h) i h
noncomputable def onIf (x : Expr) (q : Expr → Expr → Expr → Pos → Bool) : Bool := if h : x.ctorIdx = 5 then Expr.IfExp.elim (motive_1 := fun _ => Bool) x h q else false
@[elab_as_elim] theorem onIf_el {em : Expr → Prop} {x : Expr} {q : Expr → Expr → Expr → Pos → Bool} (h : onIf x q = true) (k : ∀ u0 u1 u2 u3, q u0 u1 u2 u3 = true → em (PySem.Expr.IfExp u0 u1 u2 u3)) : em x :=
  (on_of h).elim fun i h => Expr.IfExp.elim (motive_1 := fun x => ∀ i : x.ctorIdx = 5, Expr.IfExp.elim (motive_1 := fun _ => Bool) x i q = true → em x) x i (fun u0 u1 u2 u3 _ h => k u0 u1 u2 u3 h) i h
noncomputable def onCall (x : Expr) (q : Expr → List Expr → List Keyword → Pos → Bool) : Bool := if h : x.ctorIdx = 16 then Expr.Call.elim (motive_1 := fun _ => Bool) x h q else false
@[elab_as_elim] theorem onCall_el {em : Expr → Prop} {x : Expr} {q : Expr → List Expr → List Keyword → Pos → Bool} (h : onCall x q = true) (k : ∀ u0 u1 u2 u3, q u0 u1 u2 u3 = true → em (PySem.Expr.Call u0 u1 u2 u3)) : em x :=
  (on_of h).elim fun i h => Expr.Call.elim (motive_1 := fun x => ∀ i : x.ctorIdx = 16, Expr.Call.elim (motive_1 := fun _ => Bool) x i q = true → em x) x i (fun u0 u1 u2 u3 _ h => k u0 u1 u2 u3 h) i h
noncomputable def onList (x : Expr) (q : List Expr → Pos → Bool) : Bool := if h : x.ctorIdx = 24 then Expr.List.elim (motive_1 := fun _ => Bool) x h q else false
@[elab_as_elim] theorem onList_el {em : Expr → Prop} {x : Expr} {q : List Expr → Pos → Bool} (h : onList x q = true) (k : ∀ u0 u1, q u0 u1 = true → em (PySem.Expr.List u0 u1)) : em x :=
  (on_of h).elim fun i h => Expr.List.elim (motive_1 := fun x => ∀ i : x.ctorIdx = 24, Expr.List.elim (motive_1 := fun _ => Bool) x i q = true → em x) x i (fun u0 u1 _ h => k u0 u1 h) i h
noncomputable def onTuple (x : Expr) (q : List Expr → Nat → Pos → Bool) : Bool := if h : x.ctorIdx = 25 then Expr.Tuple.elim (motive_1 := fun _ => Bool) x h q else false
@[elab_as_elim] theorem onTuple_el {em : Expr → Prop} {x : Expr} {q : List Expr → Nat → Pos → Bool} (h : onTuple x q = true) (k : ∀ u0 u1 u2, q u0 u1 u2 = true → em (PySem.Expr.Tuple u0 u1 u2)) : em x :=
  (on_of h).elim fun i h => Expr.Tuple.elim (motive_1 := fun x => ∀ i : x.ctorIdx = 25, Expr.Tuple.elim (motive_1 := fun _ => Bool) x i q = true → em x) x i (fun u0 u1 u2 _ h => k u0 u1 u2 h) i h
noncomputable def onDict (x : Expr) (q : List (Option Expr) → List Expr → Pos → Bool) : Bool := if h : x.ctorIdx = 6 then Expr.Dict.elim (motive_1 := fun _ => Bool) x h q else false
@[elab_as_elim] theorem onDict_el {em : Expr → Prop} {x : Expr} {q : List (Option Expr) → List Expr → Pos → Bool} (h : onDict x q = true) (k : ∀ u0 u1 u2, q u0 u1 u2 = true → em (PySem.Expr.Dict u0 u1 u2)) : em x :=
  (on_of h).elim fun i h => Expr.Dict.elim (motive_1 := fun x => ∀ i : x.ctorIdx = 6, Expr.Dict.elim (motive_1 := fun _ => Bool) x i q = true → em x) x i (fun u0 u1 u2 _ h => k u0 u1 u2 h) i h
noncomputable def onComp (x : Expr) (q : Expr → List Comprehension → Scope → Pos → Bool) : Bool := if h : x.ctorIdx = 8 then Expr.ListComp.elim (motive_1 := fun _ => Bool) x h q else false
@[elab_as_elim] theorem onComp_el {em : Expr → Prop} {x : Expr} {q : Expr → List Comprehension → Scope → Pos → Bool} (h : onComp x q = true) (k : ∀ u0 u1 u2 u3, q u0 u1 u2 u3 = true → em (PySem.Expr.ListComp u0 u1 u2 u3)) : em x :=
  (on_of h).elim fun i h => Expr.ListComp.elim (motive_1 := fun x => ∀ i : x.ctorIdx = 8, Expr.ListComp.elim (motive_1 := fun _ => Bool) x i q = true → em x) x i (fun u0 u1 u2 u3 _ h => k u0 u1 u2 u3 h) i h
noncomputable def onCb (x : Const) (q : Bool → Bool) : Bool := if h : x.ctorIdx = 1 then Const.bool.elim (motive := fun _ => Bool) x h q else false
@[elab_as_elim] theorem onCb_el {cm : Const → Prop} {x : Const} {q : Bool → Bool} (h : onCb x q = true) (k : ∀ u0, q u0 = true → cm (PySem.Const.bool u0)) : cm x :=
  (on_of h).elim fun i h => Const.bool.elim (motive := fun x => ∀ i : x.ctorIdx = 1, Const.bool.elim (motive := fun _ => Bool) x i q = true → cm x) x i (fun u0 _ h => k u0 h) i h
noncomputable def onCi (x : Const) (q : Int → Bool) : Bool := if h : x.ctorIdx = 2 then Const.int.elim (motive := fun _ => Bool) x h q else false
@[elab_as_elim] theorem onCi_el {cm : Const → Prop} {x : Const} {q : Int → Bool} (h : onCi x q = true) (k : ∀ u0, q u0 = true → cm (PySem.Const.int u0)) : cm x :=
  (on_of h).elim fun i h => Const.int.elim (motive := fun x => ∀ i : x.ctorIdx = 2, Const.int.elim (motive := fun _ => Bool) x i q = true → cm x) x i (fun u0 _ h => k u0 h) i h
noncomputable def onCs (x : Const) (q : Str → Bool) : Bool := if h : x.ctorIdx = 5 then Const.str.elim (motive := fun _ => Bool) x h q else false
@[elab_as_elim] theorem onCs_el {cm : Const → Prop} {x : Const} {q : Str → Bool} (h : onCs x q = true) (k : ∀ u0, q u0 = true → cm (PySem.Const.str u0)) : cm x :=
  (on_of h).elim fun i h => Const.str.elim (motive := fun x => ∀ i : x.ctorIdx = 5, Const.str.elim (motive := fun _ => Bool) x i q = true → cm x) x i (fun u0 _ h => k u0 h) i h
noncomputable def onExpr (x : Stmt) (q : Expr → Pos → Bool) : Bool := if h : x.ctorIdx = 24 then Stmt.Expr.elim (motive_2 := fun _ => Bool) x h q else false
@[elab_as_elim] theorem onExpr_el {sm : Stmt → Prop} {x : Stmt} {q : Expr → Pos → Bool} (h : onExpr x q = true) (k : ∀ u0 u1, q u0 u1 = true → sm (PySem.Stmt.Expr u0 u1)) : sm x :=
  (on_of h).elim fun i h => Stmt.Expr.elim (motive_2 := fun x => ∀ i : x.ctorIdx = 24, Stmt.Expr.elim (motive_2 := fun _ => Bool) x i q = true → sm x) x i (fun u0 u1 _ h => k u0 u1 h) i h
noncomputable def onRet (x : Stmt) (q : Option Expr → Pos → Bool) : Bool := if h : x.ctorIdx = 3 then Stmt.Return.elim (motive_2 := fun _ => Bool) x h q else false
@[elab_as_elim] theorem onRet_el {sm : Stmt → Prop} {x : Stmt} {q : Option Expr → Pos → Bool} (h : onRet x q = true) (k : ∀ u0 u1, q u0 u1 = true → sm (PySem.Stmt.Return u0 u1)) : sm x :=
  (on_of h).elim fun i h => Stmt.Return.elim (motive_2 := fun x => ∀ i : x.ctorIdx = 3, Stmt.Return.elim (motive_2 := fun _ => Bool) x i q = true → sm x) x i (fun u0 u1 _ h => k u0 u1 h) i h
noncomputable def onAsg (x : Stmt) (q : List Expr → Expr → Pos → Bool) : Bool := if h : x.ctorIdx = 5 then Stmt.Assign.elim (motive_2 := fun _ => Bool) x h q else false
@[elab_as_elim] theorem onAsg_el {sm : Stmt → Prop} {x : Stmt} {q : List Expr → Expr → Pos → Bool} (h : onAsg x q = true) (k : ∀ u0 u1 u2, q u0 u1 u2 = true → sm (PySem.Stmt.Assign u0 u1 u2)) : sm x :=
  (on_of h).elim fun i h => Stmt.Assign.elim (motive_2 := fun x => ∀ i : x.ctorIdx = 5, Stmt.Assign.elim (motive_2 := fun _ => Bool) x i q = true → sm x) x i (fun u0 u1 u2 _ h => k u0 u1 u2 h) i h
noncomputable def onAug (x : Stmt) (q : Expr → Operator → Expr → Pos → Bool) : Bool := if h : x.ctorIdx = 7 then Stmt.AugAssign.elim (motive_2 := fun _ => Bool) x h q else false
@[elab_as_elim] theorem onAug_el {sm : Stmt → Prop} {x : Stmt} {q : Expr → Operator → Expr → Pos → Bool} (h : onAug x q = true) (k : ∀ u0 u1 u2 u3, q u0 u1 u2 u3 = true → sm (PySem.Stmt.AugAssign u0 u1 u2 u3)) : sm x :=
  (on_of h).elim fun i h => Stmt.AugAssign.elim (motive_2 := fun x => ∀ i : x.ctorIdx = 7, Stmt.AugAssign.elim (motive_2 := fun _ => Bool) x i q = true → sm x) x i (fun u0 u1 u2 u3 _ h => k u0 u1 u2 u3 h) i h
noncomputable def onFor (x : Stmt) (q : Expr → Expr → List Stmt → List Stmt → Pos → Bool) : Bool := if h : x.ctorIdx = 9 then Stmt.For.elim (motive_2 := fun _ => Bool) x h q else false
@[elab_as_elim] theorem onFor_el {sm : Stmt → Prop} {x : Stmt} {q : Expr → Expr → List Stmt → List Stmt → Pos → Bool} (h : onFor x q = true) (k : ∀ u0 u1 u2 u3 u4, q u0 u1 u2 u3 u4 = true → sm (PySem.Stmt.For u0 u1 u2 u3 u4)) : sm x :=
  (on_of h).elim fun i h => Stmt.For.elim (motive_2 := fun x => ∀ i : x.ctorIdx = 9, Stmt.For.elim (motive_2 := fun _ => Bool) x i q = true → sm x) x i (fun u0 u1 u2 u3 u4 _ h => k u0 u1 u2 u3 u4 h) i h
noncomputable def onWhile (x : Stmt) (q : Expr → List Stmt → List Stmt → Pos → Bool) : Bool := if h : x.ctorIdx = 11 then Stmt.While.elim (motive_2 := fun _ => Bool) x h q else false
@[elab_as_elim] theorem onWhile_el {sm : Stmt → Prop} {x : Stmt} {q : Expr → List Stmt → List Stmt → Pos → Bool} (h : onWhile x q = true) (k : ∀ u0 u1 u2 u3, q u0 u1 u2 u3 = true → sm (PySem.Stmt.While u0 u1 u2 u3)) : sm x :=
  (on_of h).elim fun i h => Stmt.While.elim (motive_2 := fun x => ∀ i : x.ctorIdx = 11, Stmt.While.elim (motive_2 := fun _ => Bool) x i q = true → sm x) x i (fun u0 u1 u2 u3 _ h => k u0 u1 u2 u3 h) i h
noncomputable def onSIf (x : Stmt) (q : Expr → List Stmt → List Stmt → Pos → Bool) : Bool := if h : x.ctorIdx = 12 then Stmt.If.elim (motive_2 := fun _ => Bool) x h q else false
@[elab_as_elim] theorem onSIf_el {sm : Stmt → Prop} {x : Stmt} {q : Expr → List Stmt → List Stmt → Pos → Bool} (h : onSIf x q = true) (k : ∀ u0 u1 u2 u3, q u0 u1 u2 u3 = true → sm (PySem.Stmt.If u0 u1 u2 u3)) : sm x :=
  (on_of h).elim fun i h => Stmt.If.elim (motive_2 := fun x => ∀ i : x.ctorIdx = 12, Stmt.If.elim (motive_2 := fun _ => Bool) x i q = true → sm x) x i (fun u0 u1 u2 u3 _ h => k u0 u1 u2 u3 h) i h
noncomputable def onPass (x : Stmt) (q : Pos → Bool) : Bool := if h : x.ctorIdx = 25 then Stmt.Pass.elim (motive_2 := fun _ => Bool) x h q else false
@[elab_as_elim] theorem onPass_el {sm : Stmt → Prop} {x : Stmt} {q : Pos → Bool} (h : onPass x q = true) (k : ∀ u0, q u0 = true → sm (PySem.Stmt.Pass u0)) : sm x :=
  (on_of h).elim fun i h => Stmt.Pass.elim (motive_2 := fun x => ∀ i : x.ctorIdx = 25, Stmt.Pass.elim (motive_2 := fun _ => Bool) x i q = true → sm x) x i (fun u0 _ h => k u0 h) i h
noncomputable def onBreak (x : Stmt) (q : Pos → Bool) : Bool := if h : x.ctorIdx = 26 then Stmt.Break.elim (motive_2 := fun _ => Bool) x h q else false
@[elab_as_elim] theorem onBreak_el {sm : Stmt → Prop} {x : Stmt} {q : Pos → Bool} (h : onBreak x q = true) (k : ∀ u0, q u0 = true → sm (PySem.Stmt.Break u0)) : sm x :=
  (on_of h).elim fun i h => Stmt.Break.elim (motive_2 := fun x => ∀ i : x.ctorIdx = 26, Stmt.Break.elim (motive_2 := fun _ => Bool) x i q = true → sm x) x i (fun u0 _ h => k u0 h) i h
noncomputable def onCont (x : Stmt) (q : Pos → Bool) : Bool := if h : x.ctorIdx = 27 then Stmt.Continue.elim (motive_2 := fun _ => Bool) x h q else false
@[elab_as_elim] theorem onCont_el {sm : Stmt → Prop} {x : Stmt} {q : Pos → Bool} (h : onCont x q = true) (k : ∀ u0, q u0 = true → sm (PySem.Stmt.Continue u0)) : sm x :=
  (on_of h).elim fun i h => Stmt.Continue.elim (motive_2 := fun x => ∀ i : x.ctorIdx = 27, Stmt.Continue.elim (motive_2 := fun _ => Bool) x i q = true → sm x) x i (fun u0 _ h => k u0 h) i h
noncomputable def on1 {α : Type} (l : List α) (q : α → Bool) : Bool := List.casesOn (motive := fun _ => Bool) l false fun a r => List.casesOn (motive := fun _ => Bool) r (q a) fun _ _ => false
@[elab_as_elim] theorem on1_el {α : Type} {m : List α → Prop} {l : List α} {q : α → Bool} (h : on1 l q = true) (k : ∀ a, q a = true → m [a]) : m l := by
  rcases l with _ | ⟨a, _ | ⟨b, r⟩⟩
  · cases h
  · exact k a h
  · cases h
noncomputable def onCons {α : Type} (l : List α) (q : α → List α → Bool) : Bool := List.casesOn (motive := fun _ => Bool) l false q
@[elab_as_elim] theorem onCons_el {α : Type} {m : List α → Prop} {l : List α} {q : α → List α → Bool} (h : onCons l q = true) (k : ∀ a r, q a r = true → m (a :: r)) : m l := by
  cases l
  · cases h
  · exact k _ _ h
noncomputable def onSome {α : Type} (o : Option α) (q : α → Bool) : Bool := Option.casesOn (motive := fun _ => Bool) o false q
@[elab_as_elim] theorem onSome_el {α : Type} {m : Option α → Prop} {o : Option α} {q : α → Bool} (h : onSome o q = true) (k : ∀ a, q a = true → m (some a)) : m o := by
  cases o
  · cases h
  · exact k _ h
@[elab_as_elim] theorem isNone_el {α : Type} {m : Option α → Prop} {o : Option α} (h : o.isNone = true) (k : m none) : m o := by cases o <;> first | exact k | cases h
@[elab_as_elim] theorem isEmpty_el {α : Type} {m : List α → Prop} {l : List α} (h : l.isEmpty = true) (k : m []) : m l := by cases l <;> first | exact k | cases h
@[elab_as_elim] theorem beq_el' {α : Type} [BEq α] [LawfulBEq α] {m : α → Prop} {a b : α} (h : (a == b) = true) (k : m b) : m a := eq_of_beq h ▸ k
@[elab_as_elim] theorem beq_el {α : Type} [BEq α] [LawfulBEq α] {m : α → Prop} {a b : α} (h : (a == b) = true) (k : m a) : m b := eq_of_beq h ▸ k

noncomputable def isLoc (ln : List Str) (sc : Scope) (i : Nat) (x : Str) : Bool :=
  ln[i]? == some x && (sc.names.lookup x == some .local || sc.names.lookup x == some .cell) && !(x == ("__debug__" : Str))

noncomputable def isGlob (K : Frag) (sc : Scope) (x : Str) : Bool := sc.names.lookup x == some .globalImplicit && !(x == ("__debug__" : Str))
noncomputable def isGlFn (K : Frag) (sc : Scope) (x : Str) : Bool := isGlob K sc x && onRef (nsIn K mainGlobals x) fun a => keepIn K (.ref a)
noncomputable def isGlInt (K : Frag) (sc : Scope) (x : Str) (i : Int) : Bool := isGlob K sc x && onInt (nsIn K mainGlobals x) fun j _ => i == j
noncomputable def isBi (K : Frag) (sc : Scope) (x : Str) (v : Value) : Bool := isGlob K sc x && nsIn K mainGlobals x == some none && bootBuiltins x == some v && !(x == ("__name__" : Str))

noncomputable def biName : Nat → Str
  | 0 => "len" | 1 => "abs" | 2 => "min" | 3 => "max" | 4 => "int" | 5 => "list" | 6 => "bytes" | 7 => "range" | _ => ""
noncomputable def biVal (x : Str) : Value :=
  if x == ("int" : Str) || x == ("list" : Str) || x == ("bytes" : Str) || x == ("range" : Str) then .type x.toString else .builtin x.toString

noncomputable def compScope (sc cs : Scope) : Scope := { cs with names := cs.names.map fun (n, k) => if k == .free && sc.kind == .function && sc.names.lookup n == some .cell then (n, .cell) else (n, k) }
noncomputable def compKind (sc : Scope) (y n : Str) : NameKind → Bool
  | .free => sc.names.lookup n == some .cell
  | .local => n == y || n == (".0" : Str)
  | .cell => n == y
  | .globalImplicit => true
  | _ => false
noncomputable def compScOk (ln : List Str) (sc cs : Scope) (t : Nat) (y : Str) : Bool :=
  cs.kind == .function && !ln.contains (".0" : Str) && cs.names.all (fun x => cs.names.lookup x.1 == some x.2 && compKind sc y x.1 x.2) && !cs.isGenerator && !cs.isCoroutine &&
  decide ((cs.names.filter (·.2 == .cell)).length ≤ 1) && isLoc ln cs t y

noncomputable def notStar (x : Expr) : Bool := x.ctorIdx != 22
noncomputable def notSlice (x : Expr) : Bool := x.ctorIdx != 26
noncomputable def notSet (x : Expr) : Bool := x.ctorIdx != 7
noncomputable def chkO (b : Bool) (f : Expr → Bool) (o : Option Expr) : Bool := Option.casesOn (motive := fun _ => Bool) o b f
noncomputable def plainBase (x : Expr) : Bool := !onCall x fun f xs ks _ => f.ctorIdx == 23 && xs.isEmpty && ks.isEmpty
noncomputable def isCallE (x : Expr) : Bool := x.ctorIdx == 16
noncomputable def asgOk (sc : Scope) (t x : Expr) : Bool :=
  x.ctorIdx != 9 && x.ctorIdx != 10 && (x.ctorIdx != 25 || t.ctorIdx != 25) && (x.ctorIdx != 8 || t.ctorIdx != 23 || onName t fun y _ => sc.names.lookup y == some .cell)
noncomputable def isNoneE : E → Bool
  | .none => true
  | _ => false

mutual
noncomputable def chkE (K : Frag) (ln : List Str) (sc : Scope) : E → Expr → Bool
  | .none, x => onConst x fun c _ _ => c.ctorIdx == 0
  | .bool b, x => onConst x fun c _ _ => onCb c fun d => b == d
  | .int i, x => onConst x fun c _ _ => onCi c fun j => i == j
  | .str k, x => onConst x fun c _ _ => onCs c fun s => strCode s == k
  | .loc i, x => onName x fun y _ => isLoc ln sc i y
  | .gint z i, x => onName x fun y _ => z == y && isGlInt K sc y i
  | .attr e k, x => onAttr x fun f n _ => chkE K ln sc e f && plainBase f && nm k == n && decide (k < nmList.length)
  | .sub e i, x => onSub x fun f j _ => chkE K ln sc e f && chkE K ln sc i j && notSlice j
  | .slice e lo hi, x => onSub x fun f j _ => onSlice j fun l h st _ => st.isNone && chkE K ln sc e f && chkO (isNoneE lo) (chkE K ln sc lo) l && chkO (isNoneE hi) (chkE K ln sc hi) h
  | .rev e, x => onSub x fun f j _ => onSlice j fun l h st _ => onSome st fun t => onUn t fun o y _ => onConst y fun c _ _ => onCi c fun i => l.isNone && h.isNone && o == .USub && i == 1 && chkE K ln sc e f
  | .bin op a b, x => onBin x fun l o r _ => op == o && chkE K ln sc a l && chkE K ln sc b r
  | .neg i, x => onUn x fun o y _ => onConst y fun c _ _ => onCi c fun j => o == .USub && i == j
  | .not a, x => onUn x fun o y _ => o == .Not && chkE K ln sc a y
  | .cmp op a b, x => onCmp x fun l os rs _ => on1 os fun o => on1 rs fun r => op == o && chkE K ln sc a l && chkE K ln sc b r && notSet r
  | .cmp2 o p a b c, x => onCmp x fun l os rs _ => onCons os fun o' os => on1 os fun p' => onCons rs fun r rs => on1 rs fun q => o == o' && p == p' && chkE K ln sc a l && chkE K ln sc b r && chkE K ln sc c q && notSet r && notSet q
  | .and a es, x => onBool x fun o xs _ => onCons xs fun y xs => o == .And && chkE K ln sc a y && chkEs K ln sc es xs
  | .or a es, x => onBool x fun o xs _ => onCons xs fun y xs => o == .Or && chkE K ln sc a y && chkEs K ln sc es xs
  | .ife t a b, x => onIf x fun t' a' b' _ => chkE K ln sc t t' && chkE K ln sc a a' && chkE K ln sc b b'
  | .call f args, x => onCall x fun g xs ks _ => onName g fun y _ => ks.isEmpty && f == y && isGlFn K sc y && chkEs K ln sc args xs
  | .new c args, x => onCall x fun g xs ks _ => onName g fun y _ => ks.isEmpty && cName c == y && isGlFn K sc y && chkEs K ln sc args xs
  | .sup c k args, x => onCall x fun g xs ks cp => onAttr g fun g' n ap => onName g' fun y _ => ks.isEmpty && cName c == y && isGlFn K sc y && nm k == n && decide (k < nmList.length) && chkEs K ln sc args xs && decide (xs.length < 20) && ap.endLine == cp.line
  | .meth o k args, x => onCall x fun g xs ks cp => onAttr g fun e n ap => ks.isEmpty && chkE K ln sc o e && plainBase e && nm k == n && decide (k < nmList.length) && chkEs K ln sc args xs && decide (xs.length < 20) && ap.endLine == cp.line
  | .bi k args, x => onCall x fun g xs ks _ => onName g fun y _ => ks.isEmpty && biName k == y && isBi K sc y (biVal y) && chkEs K ln sc args xs
  | .list es, x => onList x fun xs _ => chkEs K ln sc es xs
  | .tup es, x => onTuple x fun xs _ _ => chkEs K ln sc es xs
  | .dict0, x => onDict x fun ks vs _ => ks.isEmpty && vs.isEmpty
  | .comp elt t src conds, x => onComp x fun y gs cs _ => on1 gs fun g => onName g.target fun z _ => g.is_async == 0 &&
    chkE K ln sc src g.iter && compScOk ln sc cs t z && isLoc ln (compScope sc cs) t z && chkE K ln (compScope sc cs) elt y && chkEs K ln (compScope sc cs) conds g.ifs && notSet g.iter
  | .nonEmpty e, x => onCmp x fun l os rs _ => on1 os fun o => on1 rs fun r => onList r fun es _ => o == .NotEq && es.isEmpty && chkE K ln sc e l
  | .eqPair e x y, z => onCmp z fun l os rs _ => on1 os fun o => on1 rs fun r => onTuple r fun es _ _ => onCons es fun c1 es => on1 es fun c2 => onConst c1 fun d1 _ _ => onConst c2 fun d2 _ _ => onCi d1 fun i => onCi d2 fun j =>
    o == .Eq && chkE K ln sc e l && x == i && y == j
  | .pick es i, x => onSub x fun f j _ => onList f fun xs _ => chkEs K ln sc es xs && chkE K ln sc i j && notSlice j
termination_by structural e => e
noncomputable def chkEs (K : Frag) (ln : List Str) (sc : Scope) : Es → List Expr → Bool
  | .nil, xs => xs.isEmpty
  | .cons e es, xs => onCons xs fun x xs => notStar x && chkE K ln sc e x && chkEs K ln sc es xs
termination_by structural e => e
end

noncomputable def chkTs (ln : List Str) (sc : Scope) (is : List Nat) (ts : List Expr) : Bool := is.length == ts.length && (is.zip ts).all fun p => onName p.2 fun y _ => isLoc ln sc p.1 y
noncomputable def chkT (ln : List Str) (sc : Scope) : Tgt → Expr → Bool
  | .v i, x => onName x fun y _ => isLoc ln sc i y
  | .tup is, x => onTuple x fun xs _ _ => chkTs ln sc is xs

noncomputable def chkSrc (K : Frag) (ln : List Str) (sc : Scope) (e : E) (x : Expr) : Bool := chkE K ln sc e x && notSet x

mutual
noncomputable def chkS (K : Frag) (ln : List Str) (sc : Scope) : S → Stmt → Bool
  | .expr e, x => onExpr x fun y _ => chkE K ln sc e y && isCallE y
  | .pass, x => onPass x fun _ => true
  | .brk, x => onBreak x fun _ => true
  | .cont, x => onCont x fun _ => true
  | .ret e, x => onRet x fun o _ => chkO (isNoneE e) (chkE K ln sc e) o
  | .raise, x => x.ctorIdx == 16
  | .asg t e, x => onAsg x fun ts y _ => on1 ts fun t' => chkT ln sc t t' && chkE K ln sc e y && asgOk sc t' y
  | .asgT is es, x => onAsg x fun ts y _ => on1 ts fun t' => onTuple t' fun tl _ _ => onTuple y fun xs _ _ => chkTs ln sc is tl && chkEs K ln sc es xs && decide (is.Nodup) && (xs.all (foldedForSure 8) || !xs.all (constantsAlone 8))
  | .sattr o k e, x => onAsg x fun ts y _ => on1 ts fun t' => onAttr t' fun z n _ => chkE K ln sc o z && nm k == n && decide (k < nmList.length) && chkE K ln sc e y
  | .ssub o i e, x => onAsg x fun ts y _ => on1 ts fun t' => onSub t' fun z j _ => chkE K ln sc o z && chkE K ln sc i j && chkE K ln sc e y && notSlice j
  | .aug i op e, x => onAug x fun t o y _ => onName t fun z _ => isLoc ln sc i z && op == o && chkE K ln sc e y
  | .ife t a b, x => onSIf x fun t' a' b' _ => chkE K ln sc t t' && chkB K ln sc a a' && chkB K ln sc b b'
  | .while t b, x => onWhile x fun t' b' o _ => o.isEmpty && chkE K ln sc t t' && chkB K ln sc b b'
  | .for t src b, x => onFor x fun t' y b' o _ => o.isEmpty && chkT ln sc t t' && chkSrc K ln sc src y && chkB K ln sc b b'
termination_by structural s => s
noncomputable def chkB (K : Frag) (ln : List Str) (sc : Scope) : Ss → List Stmt → Bool
  | .nil, xs => xs.isEmpty
  | .cons s ss, xs => onCons xs fun x xs => chkS K ln sc s x && chkB K ln sc ss xs
termination_by structural s => s
end
end Mine
end
-- part M4
section
open PySem PySem.Calls PyProof.Rows PySem.W
set_option maxHeartbeats 4000000
set_option maxRecDepth 100000
namespace Mine

structure AOkI (n : Nat) (A : Around) : Prop where
  hh : A.handled = none
  hd : A.depth + 4 * n + 18 < recursionLimit
  hu : A.units + 12 * n + 132 < cLine
theorem AOk.i {n : Nat} {A : Around} (a : AOk n A) : AOkI n A := ⟨a.hh, by have := a.hd; lia, by have := a.hu; lia⟩
theorem AOkI.deeper {n : Nat} {A : Around} (a : AOkI (n + 1) A) (env : Env) : AOk n (A.deeper env) := by
  refine ⟨a.hh, ?_, ?_⟩
  · have := a.hd; show A.depth + 1 + 4 * n + 20 < _; lia
  · have := a.hu; show A.units + 3 + 12 * n + 140 < _; lia
theorem AOkI.depth {n : Nat} {A : Around} (a : AOkI n A) : A.depth < recursionLimit := by have := a.hd; lia
theorem AOk.in1 {n : Nat} {A : Around} (a : AOk n A) : AOkI n A.in1 := ⟨a.hh, by have := a.hd; show A.depth + 4 * n + 18 < _; lia, by have := a.hu; show A.units + 1 + 12 * n + 132 < _; lia⟩

inductive Fl where
  | next | brk | cont | ret (v : V)
noncomputable def Fl.of : Flow → Fl
  | .next => .next
  | .brk => .brk
  | .cont => .cont
  | .ret v => .ret (V.of v)

noncomputable def lk {α : Type} [b : Inhabited α] : α := b.default
noncomputable abbrev noW : Addr → Prop := fun _ => False

noncomputable def WCall (G : Gd) (n : Nat) (f : FId) (args : List V) (Q : V → MH → Prop) (H : MH) : Prop :=
  ∀ (P : Part) (A : Around) (s : Shared) (vs : List Value), AOkI n A → St G P noW H s → vs.map V.of = args →
    codeAny (model G.prog G.w) A (.call (.ref (fAddr G.K f)) ⟨vs, []⟩) (fun r s' => ∃ v H', r = .ok (.ret v) ∧ St G P noW H' s' ∧ Q (V.of v) H') s

noncomputable def WNew (G : Gd) (n : Nat) (c : Nat) (args : List V) (Q : V → MH → Prop) (H : MH) : Prop :=
  ∀ x, H x = none → WCall G n (.meth c 24) (.ref x :: args) (fun v H' => v = .none ∧ Q (.ref x) H') (upd H x (.inst c []))

inductive Src where
  | lst (a : Addr) (i : Nat)
  | tup (a : Addr) (i : Nat)
  | byt (xs : List Int) (i : Nat)
  | rng (x : Int) (left : Nat) (step : Int)

noncomputable def SrcO (o : Obj) : Src → Prop
  | .lst a i => o.cls = .type "list_iterator" ∧ o.data = .fields #[.ref a, .int i 0]
  | .tup a i => o.cls = .type "tuple_iterator" ∧ o.data = .fields #[.ref a, .int i 0]
  | .byt xs i => ∃ b t, o.cls = .type "bytes_iterator" ∧ o.data = .fields #[.bytes b t, .int i 0] ∧ b.toList.map (fun x => (x.toNat : Int)) = xs
  | .rng x left step => o = { cls := .type "range_iterator", data := .fields #[rawInt x, rawInt left, rawInt step] }

noncomputable def Src.next : Src → MH → Option (Option (V × Src))
  | .lst a i, H => match H a with
    | some (.list xs) | some (.ro xs) => some (xs[i]?.map fun v => (v, .lst a (i + 1)))
    | _ => none
  | .tup a i, H => match H a with
    | some (.tup xs) => some (xs[i]?.map fun v => (v, .tup a (i + 1)))
    | _ => none
  | .byt xs i, _ => some (xs[i]?.map fun x => (.int x, .byt xs (i + 1)))
  | .rng x 0 step, _ => some none
  | .rng x (k + 1) step, _ => some (some (.int x, .rng (x + step) k step))

noncomputable def WWhile (G : Gd) (ln : List Str) (n : Nat) (t : E) (b : Ss) (fr : List V) (Q : Fl → List V → MH → Prop) (H : MH) : Prop :=
  ∀ (sc : Scope) (rt : Expr) (rb : List Stmt), chkE G.K ln sc t rt = true → chkB G.K ln sc b rb = true →
    ∀ (P : Part) (A : Around) (s : Shared) (env : Env), AOk n A → EnvOK sc env → Sit G ln P env fr H s →
      codeAny (model G.prog G.w) A (.whileLoop rt rb [] env) (fun r s' => ∃ f fr' H', r = .ok f ∧ Sit G ln P env fr' H' s' ∧ Q (Fl.of f) fr' H') s

noncomputable def WFor (G : Gd) (ln : List Str) (n : Nat) (t : Tgt) (b : Ss) (src : Src) (fr : List V) (Q : Fl → List V → MH → Prop) (H : MH) : Prop :=
  ∀ (sc : Scope) (rt : Expr) (rb : List Stmt), chkT ln sc t rt = true → chkB G.K ln sc b rb = true →
    ∀ (P : Part) (A : Around) (s : Shared) (env : Env) (it : Addr) (o : Obj), AOk n A → EnvOK sc env → P it = none → G.base.get? it = none → SrcO o src → Sit G ln (P.put it o) env fr H s →
      codeAny (model G.prog G.w) A (.forLoop rt (.ref it) rb [] env) (fun r s' => ∃ f fr' H', r = .ok f ∧ Sit G ln P env fr' H' s' ∧ Q (Fl.of f) fr' H') s

noncomputable def WComp (G : Gd) (ln : List Str) (n : Nat) (elt : E) (t : Nat) (conds : Es) (src : Src) (acc : Addr) (fr : List V) (Q : MH → Prop) (H : MH) : Prop :=
  ∀ (sc cs : Scope) (relt rit : Expr) (y : Str) (p pos : Pos) (ifs : List Expr), isLoc ln sc t y = true → chkE G.K ln sc elt relt = true → chkEs G.K ln sc conds ifs = true →
    ∀ (P : Part) (A : Around) (s : Shared) (env : Env) (it : Addr) (o : Obj), AOk n A → EnvOK sc env → P it = none → G.base.get? it = none → SrcO o src → Sit G ln (P.put it o) env fr H s →
      codeAny (model G.prog G.w) A (.compLoop (.ListComp relt [⟨.Name y p, rit, ifs, 0⟩] cs pos) 0 (.ref it) (.ref acc) env)
        (fun r s' => ∃ f fr' H', r = .ok f ∧ Sit G ln P env fr' H' s' ∧ (∀ j, j ≠ t → fr'.getD j .odd = fr.getD j .odd) ∧ Q H') s

noncomputable def isOdd : V → Bool
  | .odd => true
  | _ => false
noncomputable def good (v : V) (P : Prop) : Prop :=
  match v with
  | .odd => False
  | .none => P
  | .bool _ => P
  | .int _ => P
  | .str _ => P
  | .bytes _ => P
  | .ref _ => P
noncomputable def chk (b : Bool) (P : Prop) : Prop :=
  match b with
  | true => P
  | false => False
theorem good_iff {v : V} {P : Prop} (h : good v P) : isOdd v = false ∧ P := by cases v <;> first | exact ⟨rfl, h⟩ | exact h.elim
theorem chk_iff {b : Bool} {P : Prop} (h : chk b P) : b = true ∧ P := by cases b <;> first | exact ⟨rfl, h⟩ | exact h.elim
theorem under {k n : Nat} (h : (k / n == 0) = true) (hn : 0 < n) : k < n := by
  have h' := eq_of_beq h
  exact (Nat.div_eq_zero_iff.mp h').resolve_left (by exact Nat.ne_of_gt (by assumption))

noncomputable abbrev big : Nat := 16777216

noncomputable def repL (xs : List V) : Nat → List V
  | 0 => []
  | n + 1 => xs ++ repL xs n

noncomputable def short (x : Int) : Prop := -4611686018427387904 ≤ x ∧ x ≤ 4611686018427387904

noncomputable def vInt (v : V) (q : Int → Prop) : Prop := @V.casesOn (fun _ => Prop) v False (fun _ => False) q (fun _ => False) (fun _ => False) (fun _ => False) False
noncomputable def vStr (v : V) (q : Nat → Prop) : Prop := @V.casesOn (fun _ => Prop) v False (fun _ => False) (fun _ => False) q (fun _ => False) (fun _ => False) False
noncomputable def vBytes (v : V) (q : List Int → Prop) : Prop := @V.casesOn (fun _ => Prop) v False (fun _ => False) (fun _ => False) (fun _ => False) q (fun _ => False) False
noncomputable def vRef (v : V) (q : Addr → Prop) : Prop := @V.casesOn (fun _ => Prop) v False (fun _ => False) (fun _ => False) (fun _ => False) (fun _ => False) q False
noncomputable def vNone (v : V) (q : Prop) : Prop := @V.casesOn (fun _ => Prop) v q (fun _ => False) (fun _ => False) (fun _ => False) (fun _ => False) (fun _ => False) False
noncomputable def hList (o : Option MO) (q : List V → Prop) : Prop := @Option.casesOn MO (fun _ => Prop) o False fun m => @MO.casesOn (fun _ => Prop) m q (fun _ => False) (fun _ => False) (fun _ _ => False) (fun _ _ => False)
noncomputable def oSome {α : Type} (o : Option α) (q : α → Prop) : Prop := @Option.casesOn α (fun _ => Prop) o False q
@[elab_as_elim] theorem vInt_el {m : Value → Prop} {x : Value} {q : Int → Prop} (h : vInt (V.of x) q) (k : ∀ i t, q i → m (.int i t)) : m x := by cases x <;> first | exact k _ _ h | exact h.elim
@[elab_as_elim] theorem vStr_el {m : Value → Prop} {x : Value} {q : Nat → Prop} (h : vStr (V.of x) q) (k : ∀ s t, q (strCode s) → m (.str s t)) : m x := by cases x <;> first | exact k _ _ h | exact h.elim
@[elab_as_elim] theorem vBytes_el {m : Value → Prop} {x : Value} {q : List Int → Prop} (h : vBytes (V.of x) q) (k : ∀ b t, q (b.toList.map fun x => (x.toNat : Int)) → m (.bytes b t)) : m x := by cases x <;> first | exact k _ _ h | exact h.elim
@[elab_as_elim] theorem vRef_el {m : Value → Prop} {x : Value} {q : Addr → Prop} (h : vRef (V.of x) q) (k : ∀ a, q a → m (.ref a)) : m x := by cases x <;> first | exact k _ h | exact h.elim
@[elab_as_elim] theorem vNone_el {m : Value → Prop} {x : Value} {q : Prop} (h : vNone (V.of x) q) (k : q → m .none) : m x := by cases x <;> first | exact k h | exact h.elim
theorem hList_el {C : Prop} {o : Option MO} {q : List V → Prop} (h : hList o q) (k : ∀ xs, o = some (.list xs) → q xs → C) : C := by
  cases o with
  | none => exact h.elim
  | some m => cases m <;> first | exact k _ rfl h | exact h.elim
theorem oSome_el {α : Type} {C : Prop} {o : Option α} {q : α → Prop} (h : oSome o q) (k : ∀ x, o = some x → q x → C) : C := by
  cases o <;> first | exact k _ rfl h | exact h.elim

noncomputable def wAdd (a b : V) (Q : V → MH → Prop) (H : MH) : Prop :=
  @V.casesOn (fun _ => Prop) a False (fun _ => False) (fun x => vInt b fun y => Q (.int (x + y)) H) (fun _ => False) (fun x => vBytes b fun y => x.length + y.length ≤ big ∧ Q (.bytes (x ++ y)) H)
    (fun l => vRef b fun r => hList (H l) fun xs => hList (H r) fun ys => xs.length + ys.length ≤ big ∧ ∀ a, H a = none → Q (.ref a) (upd H a (.list (xs ++ ys)))) False
noncomputable def wMul (a b : V) (Q : V → MH → Prop) (H : MH) : Prop :=
  @V.casesOn (fun _ => Prop) a False (fun _ => False) (fun x => vInt b fun y => (short x ∨ short y) ∧ Q (.int (x * y)) H) (fun _ => False) (fun _ => False)
    (fun l => vInt b fun n => hList (H l) fun xs => short n ∧ xs.length * n.toNat ≤ big ∧ ∀ a, H a = none → Q (.ref a) (upd H a (.list (repL xs n.toNat)))) False
noncomputable def wBin (op : Operator) (a b : V) (Q : V → MH → Prop) (H : MH) : Prop :=
  match op with
  | .Add => wAdd a b Q H
  | .Sub => vInt a fun x => vInt b fun y => Q (.int (x - y)) H
  | .Mult => wMul a b Q H
  | .FloorDiv => vInt a fun x => vInt b fun y => 0 < y ∧ y ≤ 1000000 ∧ Q (.int (x / y)) H
  | .Mod => vInt a fun x => vInt b fun y => 0 < y ∧ Q (.int (x % y)) H
  | .Pow => vInt a fun x => vInt b fun y => x = 10 ∧ y = 18 ∧ Q (.int 1000000000000000000) H
  | _ => False

noncomputable def allInts : List V → Option (List Int)
  | [] => some []
  | .int i :: r => (allInts r).map (i :: ·)
  | _ => none

noncomputable def wEq (a b : V) (T F : Prop) (H : MH) : Prop :=
  @V.casesOn (fun _ => Prop) a False (fun _ => False) (fun x => vInt b fun y => (x = y → T) ∧ (¬ x = y → F)) (fun x => vStr b fun y => x ≠ 0 ∧ y ≠ 0 ∧ (x = y → T) ∧ (¬ x = y → F)) (fun _ => False)
    (fun l => vRef b fun r => hList (H l) fun xs => hList (H r) fun ys => oSome (allInts xs) fun ns => oSome (allInts ys) fun ms => ns.length ≤ big ∧ ms.length ≤ big ∧ (ns = ms → T) ∧ (¬ ns = ms → F)) False
noncomputable def wCmp (op : CmpOp) (a b : V) (T F : Prop) (H : MH) : Prop :=
  match op with
  | .Lt => vInt a fun x => vInt b fun y => (x < y → T) ∧ (¬ x < y → F)
  | .LtE => vInt a fun x => vInt b fun y => (x ≤ y → T) ∧ (¬ x ≤ y → F)
  | .Gt => vInt a fun x => vInt b fun y => (x > y → T) ∧ (¬ x > y → F)
  | .GtE => vInt a fun x => vInt b fun y => (x ≥ y → T) ∧ (¬ x ≥ y → F)
  | .Eq => wEq a b T F H
  | .NotEq => @V.casesOn (fun _ => Prop) a False (fun _ => False) (fun x => vInt b fun y => (¬ x = y → T) ∧ (x = y → F)) (fun _ => False) (fun _ => False)
    (fun l => vRef b fun r => hList (H l) fun xs => hList (H r) fun ys => oSome (allInts xs) fun ns => oSome (allInts ys) fun ms => ns.length ≤ big ∧ ms.length ≤ big ∧ (¬ ns = ms → T) ∧ (ns = ms → F)) False
  | .Is => vNone b (a ≠ .odd ∧ (a = .none → T) ∧ (¬ a = .none → F))
  | .IsNot => vNone b (a ≠ .odd ∧ (¬ a = .none → T) ∧ (a = .none → F))
  | _ => False

noncomputable def place (k : Int) (n : Nat) : Option Nat := if 0 ≤ k then (if k < n then some k.toNat else none) else if 0 ≤ k + n then some (k + n).toNat else none

noncomputable def hSeq (o : Option MO) (q : List V → Prop) : Prop := @Option.casesOn MO (fun _ => Prop) o False fun m => @MO.casesOn (fun _ => Prop) m q q q (fun _ _ => False) (fun _ _ => False)
theorem hSeq_el {C : Prop} {o : Option MO} {q : List V → Prop} (h : hSeq o q) (k1 : ∀ xs, o = some (.list xs) → q xs → C) (k2 : ∀ xs, o = some (.ro xs) → q xs → C) (k3 : ∀ xs, o = some (.tup xs) → q xs → C) : C := by
  cases o with
  | none => exact h.elim
  | some m => cases m <;> first | exact k1 _ rfl h | exact k2 _ rfl h | exact k3 _ rfl h | exact h.elim
noncomputable def hLR (o : Option MO) (q : List V → Prop) : Prop := @Option.casesOn MO (fun _ => Prop) o False fun m => @MO.casesOn (fun _ => Prop) m q q (fun _ => False) (fun _ _ => False) (fun _ _ => False)
theorem hLR_el {C : Prop} {o : Option MO} {q : List V → Prop} (h : hLR o q) (k1 : ∀ xs, o = some (.list xs) → q xs → C) (k2 : ∀ xs, o = some (.ro xs) → q xs → C) : C := by
  cases o with
  | none => exact h.elim
  | some m => cases m <;> first | exact k1 _ rfl h | exact k2 _ rfl h | exact h.elim
noncomputable def wSub (o i : V) (Q : V → MH → Prop) (H : MH) : Prop :=
  @V.casesOn (fun _ => Prop) o False (fun _ => False) (fun _ => False) (fun _ => False)
    (fun xs => vInt i fun k => xs.length ≤ big ∧ 0 ≤ k ∧ ∃ v, xs[k.toNat]? = some v ∧ Q (.int v) H)
    (fun a => vInt i fun k => hSeq (H a) fun xs => xs.length ≤ big ∧ ∃ j v, place k xs.length = some j ∧ xs[j]? = some v ∧ Q v H) False

noncomputable def cut {α : Type} (xs : List α) (lo hi : Option Int) : List α :=
  (xs.drop (lo.elim 0 (clipAt xs.length))).take (hi.elim xs.length (clipAt xs.length) - lo.elim 0 (clipAt xs.length))

noncomputable def optInt : V → Option (Option Int)
  | .none => some none
  | .int i => some (some i)
  | _ => none

noncomputable def wSlice (o lo hi : V) (Q : V → MH → Prop) (H : MH) : Prop :=
  oSome (optInt lo) fun l => oSome (optInt hi) fun h => @V.casesOn (fun _ => Prop) o False (fun _ => False) (fun _ => False) (fun _ => False)
    (fun xs => xs.length ≤ big ∧ Q (.bytes (cut xs l h)) H)
    (fun a => hLR (H a) fun xs => xs.length ≤ big ∧ ∀ a, H a = none → Q (.ref a) (upd H a (.list (cut xs l h)))) False

noncomputable def wRev (o : V) (Q : V → MH → Prop) (H : MH) : Prop :=
  vRef o fun a => hList (H a) fun xs => xs.length ≤ big ∧ ∀ a, H a = none → Q (.ref a) (upd H a (.list xs.reverse))

noncomputable def hInst (o : Option MO) (q : Nat → List (Nat × V) → Prop) : Prop := @Option.casesOn MO (fun _ => Prop) o False fun m => @MO.casesOn (fun _ => Prop) m (fun _ => False) (fun _ => False) (fun _ => False) (fun _ _ => False) q
theorem hInst_el {C : Prop} {o : Option MO} {q : Nat → List (Nat × V) → Prop} (h : hInst o q) (k : ∀ c fs, o = some (.inst c fs) → q c fs → C) : C := by
  cases o with
  | none => exact h.elim
  | some m => cases m <;> first | exact k _ _ rfl h | exact h.elim
noncomputable def oOr {α : Type} (o : Option α) (q : α → Prop) (p : Prop) : Prop := @Option.casesOn α (fun _ => Prop) o p q
theorem oOr_of {α : Type} {o : Option α} {q : α → Prop} {p : Prop} (h : oOr o q p) : (∃ x, o = some x ∧ q x) ∨ (o = none ∧ p) := by
  cases o with
  | none => exact .inr ⟨rfl, h⟩
  | some x => exact .inl ⟨x, rfl, h⟩
noncomputable def wAttr (K : Frag) (o : V) (k : Nat) (Q : V → MH → Prop) (H : MH) : Prop :=
  vRef o fun a => hInst (H a) fun c fs => oOr (fget fs k) (fun v => chk (k / 22 == 0) (chk (c / 7 == 0) (good v (Q v H)))) (c = 3 ∧ ((k = 22 ∧ Q (.ref (layersA K)) H) ∨ (k = 23 ∧ Q (.int 4) H)))

noncomputable def a1 (vs : List V) (q : V → Prop) : Prop := @List.casesOn V (fun _ => Prop) vs False fun v r => @List.casesOn V (fun _ => Prop) r (q v) fun _ _ => False
noncomputable def a2 (vs : List V) (q : V → V → Prop) : Prop := @List.casesOn V (fun _ => Prop) vs False fun v r => a1 r (q v)
@[elab_as_elim] theorem a1_el {m : List Value → Prop} {vs : List Value} {q : V → Prop} (h : a1 (vs.map V.of) q) (k : ∀ v, q (V.of v) → m [v]) : m vs := by
  rcases vs with _ | ⟨v, _ | ⟨w, r⟩⟩ <;> first | exact k _ h | exact h.elim
@[elab_as_elim] theorem a2_el {m : List Value → Prop} {vs : List Value} {q : V → V → Prop} (h : a2 (vs.map V.of) q) (k : ∀ v w, q (V.of v) (V.of w) → m [v, w]) : m vs := by
  rcases vs with _ | ⟨v, vs⟩
  · exact h.elim
  · exact a1_el (m := fun vs => m (v :: vs)) h (k v)
noncomputable def hDict (o : Option MO) (q : Nat → (Int → Option V) → Prop) : Prop := @Option.casesOn MO (fun _ => Prop) o False fun m => @MO.casesOn (fun _ => Prop) m (fun _ => False) (fun _ => False) (fun _ => False) q (fun _ _ => False)
theorem hDict_el {C : Prop} {o : Option MO} {q : Nat → (Int → Option V) → Prop} (h : hDict o q) (k : ∀ m f, o = some (.dict m f) → q m f → C) : C := by
  cases o with
  | none => exact h.elim
  | some m => cases m <;> first | exact k _ _ rfl h | exact h.elim
noncomputable def vBool (v : V) (q : Bool → Prop) : Prop := @V.casesOn (fun _ => Prop) v False q (fun _ => False) (fun _ => False) (fun _ => False) (fun _ => False) False
@[elab_as_elim] theorem vBool_el {m : Value → Prop} {x : Value} {q : Bool → Prop} (h : vBool (V.of x) q) (k : ∀ b, q b → m (.bool b)) : m x := by cases x <;> first | exact k _ h | exact h.elim
noncomputable def wLen (v : V) (Q : V → MH → Prop) (H : MH) : Prop :=
  @V.casesOn (fun _ => Prop) v False (fun _ => False) (fun _ => False) (fun _ => False) (fun xs => xs.length ≤ big ∧ Q (.int xs.length) H) (fun a => hSeq (H a) fun xs => xs.length ≤ big ∧ Q (.int xs.length) H) False
noncomputable def wMax (vs : List V) (Q : V → MH → Prop) (H : MH) : Prop :=
  @List.casesOn V (fun _ => Prop) vs False fun v r => @List.casesOn V (fun _ => Prop) r (vRef v fun a => hList (H a) fun xs => oSome (allInts xs) fun ns => ns ≠ [] ∧ ∀ M, M ∈ ns → (∀ a, a ∈ ns → a ≤ M) → Q (.int M) H)
    fun w r => a1 (w :: r) fun w => vInt v fun x => vInt w fun y => Q (.int (if y > x then y else x)) H
noncomputable def wByt (v : V) (Q : V → MH → Prop) (H : MH) : Prop :=
  @V.casesOn (fun _ => Prop) v False (fun _ => False) (fun _ => False) (fun _ => False) (fun xs => Q (.bytes xs) H)
    (fun a => hList (H a) fun xs => oSome (allInts xs) fun ns => ns.length ≤ big ∧ (∀ x ∈ ns, 0 ≤ x ∧ x < 256) ∧ Q (.bytes ns) H) False
noncomputable def wBi (k : Nat) (args : List V) (Q : V → MH → Prop) (H : MH) : Prop :=
  match k with
  | 0 => a1 args fun v => wLen v Q H
  | 1 => a1 args fun v => vInt v fun i => Q (.int (if i < 0 then -i else i)) H
  | 2 => a2 args fun v w => vInt v fun x => vInt w fun y => Q (.int (if y < x then y else x)) H
  | 3 => wMax args Q H
  | 4 => a1 args fun v => vBool v fun b => Q (.int (if b then 1 else 0)) H
  | 5 => a1 args fun v => vBytes v fun xs => xs.length ≤ big ∧ ∀ a, H a = none → Q (.ref a) (upd H a (.list (xs.map .int)))
  | 6 => a1 args fun v => wByt v Q H
  | _ => False
noncomputable def wApp (a : Addr) (vs : List V) (Q : V → MH → Prop) (H : MH) : Prop :=
  hList (H a) fun xs => a1 vs fun v => xs.length < big ∧ v ≠ .odd ∧ Q .none (upd H a (.list (xs ++ [v])))
noncomputable def wGet (a : Addr) (vs : List V) (Q : V → MH → Prop) (H : MH) : Prop :=
  hDict (H a) fun _ f => a2 vs fun i d => vInt i fun i => d ≠ .odd ∧ Q ((f i).getD d) H
noncomputable def wMeth (G : Gd) (n : Nat) (o : V) (k : Nat) (args : (List V → MH → Prop) → MH → Prop) (Q : V → MH → Prop) (H : MH) : Prop :=
  vRef o fun a => @Option.casesOn MO (fun _ => Prop) (H a) False fun m => @MO.casesOn (fun _ => Prop) m
    (fun _ => k = 42 ∧ args (fun vs => wApp a vs Q) H) (fun _ => False) (fun _ => False)
    (fun _ _ => k = 43 ∧ args (fun vs => wGet a vs Q) H)
    (fun c fs => c < 7 ∧ k < 44 ∧ fget fs k = none ∧ ∃ c', methOwner c k = some c' ∧ args (fun vs => WCall G n (.meth c' k) (.ref a :: vs) Q) H)

noncomputable def setAll (fr : List V) : List Nat → List V → List V
  | i :: is, v :: vs => setAll (fr.set i v) is vs
  | _, _ => fr

noncomputable def srcOf (v : V) (Q : Src → MH → Prop) (H : MH) : Prop :=
  match v with
  | .ref a => match H a with
    | some (.list _) | some (.ro _) => Q (.lst a 0) H
    | some (.tup _) => Q (.tup a 0) H
    | _ => False
  | .bytes xs => Q (.byt xs 0) H
  | _ => False

noncomputable def rsm (x : Int) : Prop := -16777216 ≤ x ∧ x ≤ 16777216

noncomputable def wRng (vs : List V) (Q : Src → MH → Prop) (H : MH) : Prop :=
  @List.casesOn V (fun _ => Prop) vs False fun v r => vInt v fun a => @List.casesOn V (fun _ => Prop) r (rsm a ∧ Q (.rng 0 a.toNat 1) H)
    fun v r => vInt v fun b => @List.casesOn V (fun _ => Prop) r (rsm a ∧ rsm b ∧ Q (.rng a (b - a).toNat 1) H)
    fun v r => vInt v fun c => @List.casesOn V (fun _ => Prop) r (rsm a ∧ rsm b ∧ c = -1 ∧ Q (.rng a (a - b).toNat (-1)) H) fun _ _ => False

mutual
noncomputable def wE (G : Gd) (ln : List Str) (n : Nat) : E → List V → (V → MH → Prop) → MH → Prop
  | .none, _, Q, H => Q .none H
  | .bool b, _, Q, H => Q (.bool b) H
  | .int i, _, Q, H => Q (.int i) H
  | .str k, _, Q, H => Q (.str k) H
  | .loc i, fr, Q, H => good (fr.getD i .odd) (Q (fr.getD i .odd) H)
  | .gint _ i, _, Q, H => Q (.int i) H
  | .attr e k, fr, Q, H => wE G ln n e fr (fun o => wAttr G.K o k Q) H
  | .sub e i, fr, Q, H => wE G ln n e fr (fun o => wE G ln n i fr fun j => wSub o j Q) H
  | .slice e lo hi, fr, Q, H => wE G ln n e fr (fun o => wE G ln n lo fr fun l => wE G ln n hi fr fun h => wSlice o l h Q) H
  | .rev e, fr, Q, H => wE G ln n e fr (fun o => wRev o Q) H
  | .bin op a b, fr, Q, H => wE G ln n a fr (fun x => wE G ln n b fr fun y => wBin op x y Q) H
  | .neg i, _, Q, H => Q (.int (-i)) H
  | .not a, fr, Q, H => wE G ln n a fr (fun v H => match v with | .bool b => Q (.bool (!b)) H | _ => False) H
  | .cmp op a b, fr, Q, H => wE G ln n a fr (fun x => wE G ln n b fr fun y H => wCmp op x y (Q (.bool true) H) (Q (.bool false) H) H) H
  | .cmp2 o p a b c, fr, Q, H => wE G ln n a fr (fun x => wE G ln n b fr fun y H => wCmp o x y (wE G ln n c fr (fun z H => wCmp p y z (Q (.bool true) H) (Q (.bool false) H) H) H) (Q (.bool false) H) H) H
  | .and a es, fr, Q, H => wE G ln n a fr (fun v H => match v with | .bool b => (b = true → wAnd G ln n es fr Q H) ∧ (b = false → Q (.bool false) H) | _ => False) H
  | .or a es, fr, Q, H => wE G ln n a fr (fun v H => match v with | .bool b => (b = false → wOr G ln n es fr Q H) ∧ (b = true → Q (.bool true) H) | _ => False) H
  | .ife t a b, fr, Q, H => wC G ln n t fr (wE G ln n a fr Q) (wE G ln n b fr Q) H
  | .call f args, fr, Q, H => wEs G ln n args fr (fun vs => WCall G n (.top f) vs Q) H
  | .new c args, fr, Q, H => c < 7 ∧ wEs G ln n args fr (fun vs => WNew G n c vs Q) H
  | .sup c k args, fr, Q, H => k = 24 ∧ c = 7 ∧ wEs G ln n args fr (fun vs => WCall G n (.meth c k) vs Q) H
  | .meth o k args, fr, Q, H => wE G ln n o fr (fun v => wMeth G n v k (fun R => wEs G ln n args fr R) Q) H
  | .bi k args, fr, Q, H => wEs G ln n args fr (fun vs => wBi k vs Q) H
  | .list es, fr, Q, H => wEs G ln n es fr (fun vs H => vs.length ≤ big ∧ ∀ a, H a = none → Q (.ref a) (upd H a (.list vs))) H
  | .tup es, fr, Q, H => wEs G ln n es fr (fun vs H => vs.length ≤ big ∧ ∀ a, H a = none → Q (.ref a) (upd H a (.tup vs))) H
  | .dict0, fr, Q, H => ∀ a, H a = none → Q (.ref a) (upd H a (.dict 0 fun _ => none))
  | .comp elt t src conds, fr, Q, H => wSrc G ln n src fr (fun sr H => ∀ acc, H acc = none → WComp G ln n elt t conds sr acc (fr.set t .odd) (fun H' => Q (.ref acc) H') (upd H acc (.list []))) H
  | .nonEmpty e, fr, Q, H => wE G ln n e fr (fun v H => match v with | .ref a => (match H a with | some (.list xs) => Q (.bool (!xs.isEmpty)) H | _ => False) | _ => False) H
  | .eqPair e x y, fr, Q, H => wE G ln n e fr (fun v H => match v with | .ref a => (match H a with | some (.tup [.int i, .int j]) => Q (.bool (i == x && j == y)) H | _ => False) | _ => False) H
  | .pick es i, fr, Q, H => wEs G ln n es fr (fun vs H => vs.length ≤ big ∧ wE G ln n i fr (fun j H => match j with | .int k => 0 ≤ k ∧ ∃ v, vs[k.toNat]? = some v ∧ Q v H | _ => False) H) H
termination_by structural e => e
noncomputable def wEs (G : Gd) (ln : List Str) (n : Nat) : Es → List V → (List V → MH → Prop) → MH → Prop
  | .nil, _, Q, H => Q [] H
  | .cons e es, fr, Q, H => wE G ln n e fr (fun v => wEs G ln n es fr fun vs => Q (v :: vs)) H
termination_by structural e => e
noncomputable def wAnd (G : Gd) (ln : List Str) (n : Nat) : Es → List V → (V → MH → Prop) → MH → Prop
  | .nil, _, Q, H => Q (.bool true) H
  | .cons e es, fr, Q, H => wE G ln n e fr (fun v H => match v with | .bool b => (b = true → wAnd G ln n es fr Q H) ∧ (b = false → Q (.bool false) H) | _ => False) H
termination_by structural e => e
noncomputable def wOr (G : Gd) (ln : List Str) (n : Nat) : Es → List V → (V → MH → Prop) → MH → Prop
  | .nil, _, Q, H => Q (.bool false) H
  | .cons e es, fr, Q, H => wE G ln n e fr (fun v H => match v with | .bool b => (b = false → wOr G ln n es fr Q H) ∧ (b = true → Q (.bool true) H) | _ => False) H
termination_by structural e => e
noncomputable def wC (G : Gd) (ln : List Str) (n : Nat) : E → List V → (MH → Prop) → (MH → Prop) → MH → Prop
  | .not a, fr, T, F, H => wC G ln n a fr F T H
  | .and a es, fr, T, F, H => wC G ln n a fr (wCs true G ln n es fr T F) F H
  | .or a es, fr, T, F, H => wC G ln n a fr T (wCs false G ln n es fr T F) H
  | .cmp op a b, fr, T, F, H => wE G ln n a fr (fun x => wE G ln n b fr fun y H => wCmp op x y (T H) (F H) H) H
  | .cmp2 o p a b c, fr, T, F, H => wE G ln n a fr (fun x => wE G ln n b fr fun y H => wCmp o x y (wE G ln n c fr (fun z H => wCmp p y z (T H) (F H) H) H) (F H) H) H
  | .ife t a b, fr, T, F, H => wC G ln n t fr (wC G ln n a fr T F) (wC G ln n b fr T F) H
  | .loc i, fr, T, F, H => match fr.getD i .odd with | .bool b => (b = true → T H) ∧ (b = false → F H) | _ => False
  | .call f args, fr, T, F, H => wEs G ln n args fr (fun vs => WCall G n (.top f) vs fun v H => match v with | .bool b => (b = true → T H) ∧ (b = false → F H) | _ => False) H
  | .meth o k args, fr, T, F, H => wE G ln n o fr (fun v => wMeth G n v k (fun R => wEs G ln n args fr R) (fun v H => match v with | .bool b => (b = true → T H) ∧ (b = false → F H) | _ => False)) H
  | .nonEmpty e, fr, T, F, H => wE G ln n e fr (fun v H => match v with | .ref a => (match H a with | some (.list xs) => (xs ≠ [] → T H) ∧ (xs = [] → F H) | _ => False) | _ => False) H
  | .eqPair e x y, fr, T, F, H => wE G ln n e fr (fun v H => match v with | .ref a => (match H a with | some (.tup [.int i, .int j]) => ((i = x ∧ j = y) → T H) ∧ (¬ (i = x ∧ j = y) → F H) | _ => False) | _ => False) H
  | _, _, _, _, _ => False
termination_by structural e => e
noncomputable def wCs (all : Bool) (G : Gd) (ln : List Str) (n : Nat) : Es → List V → (MH → Prop) → (MH → Prop) → MH → Prop
  | .nil, _, T, F, H => if all then T H else F H
  | .cons e es, fr, T, F, H => if all then wC G ln n e fr (wCs all G ln n es fr T F) F H else wC G ln n e fr T (wCs all G ln n es fr T F) H
termination_by structural e => e
noncomputable def wSrc (G : Gd) (ln : List Str) (n : Nat) : E → List V → (Src → MH → Prop) → MH → Prop
  | .bi 7 args, fr, Q, H => wEs G ln n args fr (fun vs H => wRng vs Q H) H
  | .loc i, fr, Q, H => srcOf (fr.getD i .odd) Q H
  | .attr e k, fr, Q, H => wE G ln n e fr (fun o => wAttr G.K o k (fun v => srcOf v Q)) H
  | .slice e lo hi, fr, Q, H => wE G ln n e fr (fun o => wE G ln n lo fr fun l => wE G ln n hi fr fun h => wSlice o l h (fun v => srcOf v Q)) H
  | .meth o k args, fr, Q, H => wE G ln n o fr (fun v => wMeth G n v k (fun R => wEs G ln n args fr R) (fun v => srcOf v Q)) H
  | _, _, _, _ => False
termination_by structural e => e
end

end Mine
end
-- part M5
section
open PySem PySem.Calls PyProof.Rows PySem.W
set_option maxHeartbeats 4000000
set_option maxRecDepth 100000
namespace Mine

noncomputable abbrev Po (G : Gd) (ln : List Str) (P : Part) (env : Env) (fr : List V) (Q : V → MH → Prop) : Value → Shared → Prop := fun v s' => ∃ H', Sit G ln P env fr H' s' ∧ Q (V.of v) H'
noncomputable abbrev no : Value → Shared → Prop := fun _ _ => False

theorem of_int {v : Value} {i : Int} (h : V.of v = .int i) : ∃ t, v = .int i t := vInt_el (m := fun v => ∃ t, v = .int i t) (q := fun j => j = i) (by rw [h]; exact rfl) fun j t e => ⟨t, by rw [e]⟩
theorem of_bool {v : Value} {b : Bool} (h : V.of v = .bool b) : v = .bool b := vBool_el (m := fun v => v = .bool b) (q := fun j => j = b) (by rw [h]; exact rfl) fun j e => by rw [e]
theorem of_ref {v : Value} {a : Addr} (h : V.of v = .ref a) : v = .ref a := vRef_el (m := fun v => v = .ref a) (q := fun j => j = a) (by rw [h]; exact rfl) fun j e => by rw [e]
theorem of_none {v : Value} (h : V.of v = .none) : v = .none := vNone_el (m := fun v => v = .none) (q := True) (by rw [h]; exact trivial) fun _ => rfl
theorem of_str {v : Value} {k : Nat} (h : V.of v = .str k) : ∃ x t, v = .str x t ∧ strCode x = k := vStr_el (m := fun v => ∃ x t, v = .str x t ∧ strCode x = k) (q := fun j => j = k) (by rw [h]; exact rfl) fun x t e => ⟨x, t, rfl, e⟩
theorem of_bytes {v : Value} {xs : List Int} (h : V.of v = .bytes xs) : ∃ b t, v = .bytes b t ∧ b.toList.map (fun x => (x.toNat : Int)) = xs :=
  vBytes_el (m := fun v => ∃ b t, v = .bytes b t ∧ b.toList.map (fun x => (x.toNat : Int)) = xs) (q := fun j => j = xs) (by rw [h]; exact rfl) fun b t e => ⟨b, t, rfl, e⟩

theorem strCode_of (x : Str) : (strCode x = 1 ∧ x = Str.ofString "chain") ∨ (strCode x = 2 ∧ x = Str.ofString "tree") ∨ (strCode x = 3 ∧ x = Str.ofString "layers") ∨ strCode x = 0 := by
  unfold strCode
  by_cases h1 : x = Str.ofString "chain"
  · exact .inl ⟨if_pos h1, h1⟩
  · rw [if_neg h1]
    by_cases h2 : x = Str.ofString "tree"
    · exact .inr (.inl ⟨if_pos h2, h2⟩)
    · rw [if_neg h2]
      by_cases h3 : x = Str.ofString "layers"
      · exact .inr (.inr (.inl ⟨if_pos h3, h3⟩))
      · exact .inr (.inr (.inr (if_neg h3)))
theorem strCode_inj {x y : Str} (h : strCode x = strCode y) (n : strCode x ≠ 0) : x = y := by
  have no : ∀ {a b : Nat}, a ≠ b → strCode x = a → strCode y = b → x = y := fun d e1 e2 => absurd (e1.symm.trans (h.trans e2)) d
  rcases strCode_of x with ⟨e, r⟩ | ⟨e, r⟩ | ⟨e, r⟩ | e <;> rcases strCode_of y with ⟨f, q⟩ | ⟨f, q⟩ | ⟨f, q⟩ | f <;> first | exact absurd e n | exact r.trans q.symm | exact no (by decide) e f

theorem short_bits {x : Int} (h : short x) : Builtin.Int.intBits x ≤ 64 := intBits_le_64 (by have := h.1; lia) (by have := h.2; omega)

section
variable {G : Gd} {ln : List Str} {P : Part} {env : Env} {fr : List V} {H : MH} {s : Shared} {n : Nat} {A : Around} {Q : V → MH → Prop}

theorem Sit.list (z : Sit G ln P env fr H s) {a : Addr} {xs : List V} (e : H a = some (.list xs)) : ∃ vs : Array Value, s.heap.PlainList a vs ∧ vs.toList.map V.of = xs := by
  obtain ⟨D, d1, _⟩ := z.st.lay; exact d1 a _ e
theorem Sit.ro (z : Sit G ln P env fr H s) {a : Addr} {xs : List V} (e : H a = some (.ro xs)) : ∃ vs : Array Value, s.heap.IsList a vs ∧ vs.toList.map V.of = xs := by
  obtain ⟨D, d1, _⟩ := z.st.lay; exact d1 a _ e
theorem Sit.tup (z : Sit G ln P env fr H s) {a : Addr} {xs : List V} (e : H a = some (.tup xs)) : ∃ vs : Array Value, IsTup s.heap a vs ∧ vs.toList.map V.of = xs := by
  obtain ⟨D, d1, _⟩ := z.st.lay; exact d1 a _ e

theorem len_of {vs : Array Value} {xs : List V} (e : vs.toList.map V.of = xs) : vs.size = xs.length := by rw [← e, List.length_map, Array.length_toList]

theorem Sit.newList (z : Sit G ln P env fr H s) {vs : Array Value} {xs : List V} {t k : Nat} (e : vs.toList.map V.of = xs) :
    Sit G ln P env fr (upd H s.heap.objs.size (.list xs)) { s with heap := s.heap.push { cls := .type "list", data := .seq vs k }, toks := t } :=
  z.new rfl (fun _ _ h => nomatch h) fun D => ⟨vs, ⟨k, Heap.get?_push_size _ rfl⟩, e⟩
theorem Sit.newTup (z : Sit G ln P env fr H s) {vs : Array Value} {xs : List V} {t k : Nat} (e : vs.toList.map V.of = xs) :
    Sit G ln P env fr (upd H s.heap.objs.size (.tup xs)) { s with heap := s.heap.push { cls := .type "tuple", data := .seq vs k }, toks := t } :=
  z.new rfl (fun _ _ h => nomatch h) fun D => ⟨vs, ⟨_, Heap.get?_push_size _ rfl, rfl, k, rfl⟩, e⟩

theorem repL_eq (xs : List V) : ∀ k, repL xs k = (List.replicate k xs).flatten
  | 0 => rfl
  | k + 1 => by rw [repL, repL_eq xs k, List.replicate_succ, List.flatten_cons]

theorem foldl_app {α : Type} (a : Array α) : ∀ (k : Nat) (z : Array α), (List.foldl (fun x1 x2 => x1 ++ x2) z (List.replicate k a)).toList = z.toList ++ (List.replicate k a.toList).flatten
  | 0, z => by simp
  | k + 1, z => by
    rw [List.replicate_succ, List.foldl_cons, foldl_app a k, List.replicate_succ, List.flatten_cons]
    simp

theorem p_add {a b : Value} (z : Sit G ln P env fr H s) (hA : AOk n A) (h : wAdd (V.of a) (V.of b) Q H) : wpAny (model G.prog G.w) A (binaryOp .Add a b) (Po G ln P env fr Q) no s := by
  cases a <;> first | exact h.elim | skip
  · rename_i x t
    exact vInt_el h fun y u h => PySem.P.add_int ⟨H, z.toks, h⟩
  · rename_i b1 t
    refine vBytes_el h fun b2 u h => ?_
    obtain ⟨hz, h⟩ := h
    rw [List.length_map, List.length_map, Array.length_toList, Array.length_toList] at hz
    refine KBy.add_bytes hz fun t' k => ⟨H, z.toks, ?_⟩
    show Q (V.bytes _) H
    rw [Array.toList_append, List.map_append]; exact h
  · rename_i l
    refine vRef_el h fun r h => hList_el h fun xs e1 h => hList_el h fun ys e2 h => ?_
    obtain ⟨vs, ⟨n1, p1⟩, q1⟩ := z.list e1
    obtain ⟨ws, ⟨n2, p2⟩, q2⟩ := z.list e2
    obtain ⟨hz, h⟩ := h
    refine concat_meets ⟨_, p1, rfl⟩ ⟨_, p2, rfl⟩ noFill_list_add seq_list_add PySem.F.slot_list_add PySem.F.entry_list_add (PySem.F.args_list_add_2 _ _)
      (list_addW l r vs ws n1 n2 none none #[] #[] (by rw [len_of q1, len_of q2]; exact hz)) ⟨p1, p2, ?_⟩
    exact ⟨_, z.newList (xs := xs ++ ys) (by rw [Array.toList_append, List.map_append, q1, q2]), h _ z.hNone⟩
theorem p_mul {a b : Value} (z : Sit G ln P env fr H s) (hA : AOk n A) (h : wMul (V.of a) (V.of b) Q H) : wpAny (model G.prog G.w) A (binaryOp .Mult a b) (Po G ln P env fr Q) no s := by
  cases a <;> first | exact h.elim | skip
  · rename_i x t
    refine vInt_el h fun y u h => PySem.P.mul_int (hm := ?_) ⟨H, z.toks, h.2⟩
    exact h.1.elim (fun hm => IntMulOk.of_left (short_bits hm)) fun hm => IntMulOk.of_right (short_bits hm)
  · rename_i l
    refine vInt_el h fun x u h => hList_el h fun xs e1 h => ?_
    obtain ⟨vs, ⟨k, hl⟩, q1⟩ := z.list e1
    obtain ⟨hx, hz, h⟩ := h
    have lv := len_of q1
    have hlo := hx.1
    have hhi := hx.2
    refine wpAny_binaryOp_repeat_ref (T := "list") (U := "int") (by decide) ⟨_, hl, rfl⟩ (fun s' => typeIs_int s' x u) noFill_list_mul F.fills_int_mul F.slot_int_rmul repeat_list F.slot_int_index.lookup
      (call_meets F.slot_int_rmul (typeIs_int s x u) F.entry_int_rmul (F.args_int_rmul_2 _ _) (int___rmul___int_list x u l vs k)
        ⟨hl, rfl, ⟨_, hl, rfl⟩, call_meets F.slot_list_mul ⟨_, hl, rfl⟩ F.entry_list_mul (F.args_list_mul_2 _ _)
          (AutoListH.list___mul___list_int_3 l vs k x u (by simp [Builtin.List.listFitsIndex]; lia) (by rw [lv]; have hb : big = 16777216 := rfl; lia) (by simp [Builtin.List.listTooLong, sizeLine]; rw [lv]; exact hz))
          ⟨hl, ?_⟩⟩)
    refine ⟨_, z.newList (xs := repL xs x.toNat) (t := s.toks) ?_, h _ z.hNone⟩
    rw [foldl_app, repL_eq]
    by_cases he : vs.isEmpty = true
    · have : vs = #[] := by simpa using he
      subst this
      have : xs = [] := by rw [← q1]; rfl
      subst this
      simp
    · simp only [he]
      simp [← q1, List.map_flatten]
theorem p_bin {op : Operator} {a b : Value} (z : Sit G ln P env fr H s) (hA : AOk n A) (h : wBin op (V.of a) (V.of b) Q H) : wpAny (model G.prog G.w) A (binaryOp op a b) (Po G ln P env fr Q) no s := by
  cases op <;> first | exact False.elim h | skip
  · exact p_add z hA h
  · exact vInt_el h fun x t h => vInt_el h fun y u h => PySem.P.sub_int ⟨H, z.toks, h⟩
  · exact p_mul z hA h
  · refine vInt_el h fun x t h => vInt_el h fun y u h => ?_
    obtain ⟨h0, h⟩ := h
    refine PyProof.Rows.mod_int' (by lia) ⟨H, z.toks, ?_⟩
    show Q (V.int (x.fmod y)) H
    rw [Int.fmod_eq_emod_of_nonneg _ (by exact Int.le_of_lt (by assumption))]; exact h
  · refine vInt_el h fun x t h => vInt_el h fun y u h => ?_
    obtain ⟨rfl, rfl, h⟩ := h
    exact PyProof.Rows.pow_int_small (by decide) (by decide) (by decide) ⟨H, z.toks, h⟩
  · refine vInt_el h fun x t h => vInt_el h fun y u h => ?_
    obtain ⟨h0, h1, h⟩ := h
    refine PyProof.Rows.floordiv_int (by lia) (hp := .inl (PyProof.noPylong_small (by omega))) ⟨H, z.toks, ?_⟩
    show Q (V.int (x.fdiv y)) H
    rw [Int.fdiv_eq_ediv_of_nonneg _ (by exact Int.le_of_lt (by assumption))]; exact h
end
end Mine
end
-- part M6
section
open PySem PySem.Calls PyProof.Rows PySem.W
set_option maxHeartbeats 4000000
set_option maxRecDepth 100000
namespace Mine

theorem allInts_are : ∀ {xs : List V} {ns : List Int} {vs : List Value}, allInts xs = some ns → vs.map V.of = xs → IntsAre vs ns
  | [], ns, [], h, _ => by cases h; exact .nil
  | x :: xs, ns, v :: vs, h, e => by
    obtain ⟨e1, e2⟩ := List.cons.inj e
    cases x with
    | int i =>
      obtain ⟨ms, h', rfl⟩ := Option.map_eq_some_iff.mp (show (allInts xs).map (i :: ·) = some ns from h)
      obtain ⟨t, rfl⟩ := of_int e1
      exact .cons i t (allInts_are h' e2)
    | _ => cases h
  | x :: xs, ns, [], h, e => by cases e
  | [], ns, v :: vs, h, e => by cases e

theorem allInts_map : ∀ (ns : List Int), allInts (ns.map V.int) = some ns
  | [] => rfl
  | n :: r => by show (allInts (r.map V.int)).map (n :: ·) = _; rw [allInts_map r]; rfl
theorem allInts_eq : ∀ {xs : List V} {ns : List Int}, allInts xs = some ns → xs = ns.map V.int
  | [], ns, h => by cases h; rfl
  | .int i :: xs, ns, h => by
    obtain ⟨ms, h', rfl⟩ := Option.map_eq_some_iff.mp (show (allInts xs).map (i :: ·) = some ns from h)
    rw [List.map_cons, allInts_eq h']
  | .none :: _, _, h => by cases h
  | .bool _ :: _, _, h => by cases h
  | .str _ :: _, _, h => by cases h
  | .bytes _ :: _, _, h => by cases h
  | .ref _ :: _, _, h => by cases h
  | .odd :: _, _, h => by cases h

section
variable {G : Gd} {ln : List Str} {P : Part} {env : Env} {fr : List V} {H : MH} {s : Shared} {n : Nat} {A : Around} {Q : V → MH → Prop}

noncomputable abbrev Pc (G : Gd) (ln : List Str) (P : Part) (env : Env) (fr : List V) (H : MH) (T F : Prop) : Value → Shared → Prop := fun v s' => ∃ c, v = .bool c ∧ Sit G ln P env fr H s' ∧ (if c = true then T else F)
theorem dec_tf {T F : Prop} (p : Prop) [d : Decidable p] (h : (p → T) ∧ (¬ p → F)) : if decide p = true then T else F := by
  cases d with
  | isTrue hp => exact h.1 hp
  | isFalse hp => exact h.2 hp
theorem dec_ft {T F : Prop} (p : Prop) [d : Decidable p] (h : (¬ p → T) ∧ (p → F)) : if (!decide p) = true then T else F := by
  cases d with
  | isTrue hp => exact h.2 hp
  | isFalse hp => exact h.1 hp
theorem beq_tf {T F : Prop} {x y : Int} (h : (x = y → T) ∧ (¬ x = y → F)) : if (x == y) = true then T else F := by
  cases q : x == y with
  | true => exact h.1 (eq_of_beq q)
  | false => exact h.2 fun e => by rw [e, beq_self_eq_true] at q; cases q
theorem p_two {l r : Addr} {xs ys : List V} {ns ms : List Int} (z : Sit G ln P env fr H s) (e1 : H l = some (.list xs)) (e2 : H r = some (.list ys)) (i1 : allInts xs = some ns) (i2 : allInts ys = some ms) :
    ∃ vs ws : List Value, s.heap.IsList l vs.toArray ∧ s.heap.IsList r ws.toArray ∧ IntsAre vs ns ∧ IntsAre ws ms := by
  obtain ⟨vs, p1, q1⟩ := z.list e1
  obtain ⟨ws, p2, q2⟩ := z.list e2
  have l1 := p1.isList
  have l2 := p2.isList
  rw [← Array.toArray_toList (xs := vs)] at l1
  rw [← Array.toArray_toList (xs := ws)] at l2
  exact ⟨_, _, l1, l2, allInts_are i1 q1, allInts_are i2 q2⟩
theorem eq_none_of {a : Value} (hp : ¬ V.of a = .none) : (a == Value.none) = false := by
  cases q : a == Value.none with
  | false => rfl
  | true => exact absurd (by rw [eq_of_beq q]; rfl) hp
theorem p_eq {a b : Value} {T F : Prop} (z : Sit G ln P env fr H s) (hA : AOk n A) (h : wEq (V.of a) (V.of b) T F H) : wpAny (model G.prog G.w) A (compareOp .Eq a b) (Pc G ln P env fr H T F) no s := by
  cases a <;> first | exact h.elim | skip
  · exact vInt_el h fun y u h => PySem.P.eq_int ⟨_, rfl, z, beq_tf h⟩
  · rename_i p t
    refine vStr_el h fun q u h => ?_
    obtain ⟨h0, h1, h2, h3⟩ := h
    refine PySem.P.eq_str ⟨_, rfl, z, ?_⟩
    by_cases hp : strCode p = strCode q
    · have : p = q := strCode_inj hp h0
      subst this
      rw [beq_self_eq_true, if_pos rfl]
      exact h2 rfl
    · have hc : p.cps ≠ q.cps := fun e => hp (by cases p; cases q; cases e; rfl)
      have hb : (p.cps.toList == q.cps.toList) = false := by simpa using hc
      rw [hb]
      exact h3 hp
  · refine vRef_el h fun r h => hList_el h fun xs e1 h => hList_el h fun ys e2 h => oSome_el h fun ns i1 h => oSome_el h fun ms i2 h => ?_
    obtain ⟨vs, ws, l1, l2, a1, a2⟩ := p_two z e1 e2 i1 i2
    exact eq_intsK l1 a1 l2 a2 (by have := hA.hu; have := h.1; have := h.2.1; lia) ⟨_, rfl, z, dec_tf _ h.2.2⟩
theorem p_cmp {op : CmpOp} {a b : Value} {T F : Prop} (z : Sit G ln P env fr H s) (hA : AOk n A) (h : wCmp op (V.of a) (V.of b) T F H) :
    wpAny (model G.prog G.w) A (compareOp op a b) (fun v s' => ∃ c, v = .bool c ∧ Sit G ln P env fr H s' ∧ (if c = true then T else F)) no s := by
  cases op <;> first | exact False.elim h | skip
  · exact p_eq z hA h
  · cases a <;> first | exact h.elim | skip
    · exact vInt_el h fun y u h => PySem.P.ne_int ⟨_, rfl, z, by rw [bne]; cases q : (_ == y) with
        | true => exact h.2 (eq_of_beq q)
        | false => exact h.1 fun e => by rw [e, beq_self_eq_true] at q; cases q⟩
    · refine vRef_el h fun r h => hList_el h fun xs e1 h => hList_el h fun ys e2 h => oSome_el h fun ns i1 h => oSome_el h fun ms i2 h => ?_
      obtain ⟨vs, ws, l1, l2, a1, a2⟩ := p_two z e1 e2 i1 i2
      refine ne_intsK l1 a1 l2 a2 (by have := hA.hu; have := h.1; have := h.2.1; lia) ⟨_, rfl, z, ?_⟩
      exact dec_ft _ h.2.2
  · exact vInt_el h fun x t h => vInt_el h fun y u h => PySem.P.lt_int ⟨_, rfl, z, dec_tf _ h⟩
  · exact vInt_el h fun x t h => vInt_el h fun y u h => PySem.P.le_int ⟨_, rfl, z, dec_tf _ h⟩
  · exact vInt_el h fun x t h => vInt_el h fun y u h => PySem.P.gt_int ⟨_, rfl, z, dec_tf _ h⟩
  · exact vInt_el h fun x t h => vInt_el h fun y u h => PySem.P.ge_int ⟨_, rfl, z, dec_tf _ h⟩
  · refine vNone_el h fun h => is_none ⟨_, rfl, z, ?_⟩
    by_cases hp : V.of a = .none
    · rw [of_none hp]; exact h.2.1 hp
    · rw [eq_none_of hp]; exact h.2.2 hp
  · refine vNone_el h fun h => isNot_none ⟨_, rfl, z, ?_⟩
    by_cases hp : V.of a = .none
    · rw [of_none hp]; exact h.2.2 hp
    · rw [eq_none_of hp]; exact h.2.1 hp

theorem p_truthy {b : Bool} {R : Bool → Shared → Prop} (h : R b s) : wpAny (model G.prog G.w) A (truthy (.bool b)) R no s := wpAny_truthy_bool h
end
end Mine
end
-- part M7
section
open PySem PySem.Calls PyProof.Rows PySem.W
set_option maxHeartbeats 4000000
set_option maxRecDepth 100000
namespace Mine

theorem subscripted_plain {sl : Expr} (h : notSlice sl = true) (o i : Value) : subscripted sl false o i = operate [o, i] (getItem o i) := by
  cases sl <;> first | rfl | cases h

section
variable {G : Gd} {ln : List Str} {P : Part} {env : Env} {fr : List V} {H : MH} {s : Shared} {n : Nat} {A : Around} {Q : V → MH → Prop}

theorem Po.po (z : Sit G ln P env fr H s) {v : Value} {t : Nat} (h : Q (V.of v) H) : Po G ln P env fr Q v { s with toks := t } := ⟨H, z.toks, h⟩

theorem getElem_of {vs : Array Value} {xs : List V} (e : vs.toList.map V.of = xs) {j : Nat} {v : V} (h : xs[j]? = some v) : ∃ x, vs[j]? = some x ∧ V.of x = v := by
  subst e
  rw [List.getElem?_map, Array.getElem?_toList, Option.map_eq_some_iff] at h
  exact h

theorem place_pos {k : Int} {n j : Nat} (h : place k n = some j) : (0 ≤ k ∧ k < n ∧ j = k.toNat) ∨ (k < 0 ∧ -(n : Int) ≤ k ∧ j = (k + n).toNat) := by
  unfold place at h
  split at h
  · split at h
    · cases h; exact .inl ⟨by assumption, by assumption, rfl⟩
    · cases h
  · split at h
    · cases h; exact .inr ⟨by lia, by lia, rfl⟩
    · cases h
theorem place_seq {k : Int} {n j : Nat} (h : place k n = some j) : seqIndex? k n = some j := by
  rcases place_pos h with ⟨a, b, rfl⟩ | ⟨a, b, rfl⟩
  · exact seqIndex_of a b
  · exact seqIndex_neg a b

theorem sub_listy {value sl : Expr} (hs : notSlice sl = true) (z : Sit G ln P env fr H s) {a : Addr} {k : Int} {t : Tok} {xs : List V} {vs : Array Value} (hl : s.heap.IsList a vs) (e : vs.toList.map V.of = xs)
    (h : xs.length ≤ big ∧ ∃ j v, place k xs.length = some j ∧ xs[j]? = some v ∧ Q v H) : wpAny (model G.prog G.w) A (subscriptTail value sl (.ref a) (.int k t)) (Po G ln P env fr Q) no s := by
  obtain ⟨hz, j, v, h1, h2, h3⟩ := h
  obtain ⟨x, hx, rfl⟩ := getElem_of e h2
  have hv := len_of e
  have hb : big = 16777216 := rfl
  refine tail_any hl.typeIs slot_list_getitem.lookup ?_ (subscripted_plain hs _ _)
  rcases place_pos h1 with ⟨a1, b1, rfl⟩ | ⟨a1, b1, rfl⟩
  · exact wpAny_getItem_list hl a1 (by lia) hx ⟨H, z, h3⟩
  · exact wpAny_getItem_list_neg hl a1 (by rw [hv]; exact b1) (by lia) (by rw [hv]; exact hx) ⟨H, z, h3⟩
theorem p_sub {value sl : Expr} {o i : Value} (hs : notSlice sl = true) (z : Sit G ln P env fr H s) (h : wSub (V.of o) (V.of i) Q H) : wpAny (model G.prog G.w) A (subscriptTail value sl o i) (Po G ln P env fr Q) no s := by
  cases o <;> first | exact h.elim | skip
  · rename_i b t
    refine vInt_el h fun k u h => ?_
    obtain ⟨hz, h0, v, hv, h⟩ := h
    have hb : big = 16777216 := rfl
    rw [List.getElem?_map, Option.map_eq_some_iff] at hv
    obtain ⟨x, hx, rfl⟩ := hv
    rw [List.length_map] at hz
    have hlt : k.toNat < b.toList.length := (List.getElem?_eq_some_iff.mp hx).1
    refine tail_any (typeIs_bytes s b t) FB.slot_bytes_getitem.lookup ?_ (subscripted_plain hs _ _)
    rw [← Array.toArray_toList (xs := b)]
    refine PySem.W.getItem_bytes (by exact easy (by assumption) rfl) h0 (by lia) ⟨H, z.toks, ?_⟩
    show Q (V.int _) H
    rw [List.getD_eq_getElem?_getD, hx]; exact h
  · rename_i a
    refine vInt_el h fun k t h => hSeq_el h (fun xs e h => ?_) (fun xs e h => ?_) fun xs e h => ?_
    · obtain ⟨vs, p, q⟩ := z.list e
      exact sub_listy hs z p.isList q h
    · obtain ⟨vs, p, q⟩ := z.ro e
      exact sub_listy hs z p q h
    · obtain ⟨vs, p, q⟩ := z.tup e
      obtain ⟨hz, j, v, h1, h2, h3⟩ := h
      obtain ⟨x, hx, rfl⟩ := getElem_of q h2
      have hv := len_of q
      have hb : big = 16777216 := rfl
      have := place_pos h1
      exact tail_any p.typeIs PySem.F.slot_tuple_getitem.lookup (getItem_tuple p (by lia) (by lia) (by rw [hv]; exact place_seq h1) hx ⟨H, z, h3⟩) (subscripted_plain hs _ _)

theorem isPart_of {v : Value} {k : Option Int} (h : optInt (V.of v) = some k) : IsPart v k := by
  cases v <;> first | (cases h; exact .none) | (cases h; exact .int _ _) | exact clash (show none = none from rfl) h

theorem p_slice {value : Expr} {lower upper : Option Expr} {p : Pos} {o l u : Value} (z : Sit G ln P env fr H s) (h : wSlice (V.of o) (V.of l) (V.of u) Q H) :
    wpAny (model G.prog G.w) A (subscriptTail value (.Slice lower upper none p) o (.ref s.heap.objs.size)) (Po G ln P env fr Q) no { s with heap := s.heap.push { cls := .type "slice", data := .fields #[l, u, .none] } } := by
  have z' := z.push (t := s.toks) { cls := .type "slice", data := .fields #[l, u, .none] }
  refine oSome_el h fun lo e1 h1 => oSome_el h1 fun hi e2 h2 => ?_
  clear h h1
  revert h2
  have pl := isPart_of e1
  have pu := isPart_of e2
  cases o <;> intro h <;> first | exact h.elim | skip
  · rename_i b t
    obtain ⟨hz, h⟩ := h
    refine tail_any (ops := [.ref s.heap.objs.size, .bytes b t]) (typeIs_bytes _ b t) FB.slot_bytes_getitem.lookup ?_ rfl
    refine getItem_meets (typeIs_bytes _ _ _) (by decide) FB.slot_bytes_getitem FB.entry_bytes_getitem (FB.args_bytes_getitem_2 _ _) (KBc.meets_slice2 b t _ pl pu)
      ⟨Heap.IsSliceOf.new _ _ _ _, Nat.le_trans (KBc.size_picked_le b lo hi) ?_, fun t' k => ⟨H, z'.toks, ?_⟩⟩
    · rw [← KBw.ints_length b]; exact hz
    · show Q (V.bytes (KBw.bInts _)) H
      rw [KBc.ints_picked rfl]; exact h
  · rename_i a
    have listy : ∀ {xs : List V} {vs : Array Value}, s.heap.IsList a vs → vs.toList.map V.of = xs → (xs.length ≤ big ∧ ∀ a, H a = none → Q (.ref a) (upd H a (.list (cut xs lo hi)))) →
        wpAny (model G.prog G.w) A (subscriptTail value (.Slice lower upper none p) (.ref a) (.ref s.heap.objs.size)) (Po G ln P env fr Q) no { s with heap := s.heap.push { cls := .type "slice", data := .fields #[l, u, .none] } } := by
      intro xs vs hl e h
      have hv := len_of e
      have hl' : (s.heap.push { cls := .type "slice", data := .fields #[l, u, .none] }).IsList a vs := hl.push _
      refine tail_any (ops := [.ref s.heap.objs.size, .ref a]) (Heap.IsList.typeIs (s := { s with heap := s.heap.push { cls := .type "slice", data := .fields #[l, u, .none] } }) hl') slot_list_getitem.lookup ?_ rfl
      refine wpAny_getItem_list_slice hl' (Heap.IsSliceOf.new _ _ _ _) pl pu .none (fun e => nomatch e) ?_ (by rw [hv]; exact h.1)
      refine ⟨_, z'.newList (xs := cut xs lo hi) ?_, h.2 _ z'.hNone⟩
      rw [slicePick_plain]
      show List.map V.of ((List.drop _ vs.toList).take _) = _
      rw [List.map_take, List.map_drop, e, hv]
      rfl
    exact hLR_el h (fun xs e h => (z.list e).elim fun vs q => listy q.1.isList q.2 h) fun xs e h => (z.ro e).elim fun vs q => listy q.1 q.2 h

theorem p_rev {value st : Expr} {p : Pos} {o : Value} {u : Tok} (z : Sit G ln P env fr H s) (h : wRev (V.of o) Q H) :
    wpAny (model G.prog G.w) A (subscriptTail value (.Slice none none (some st) p) o (.ref s.heap.objs.size)) (Po G ln P env fr Q) no { s with heap := s.heap.push { cls := .type "slice", data := .fields #[.none, .none, .int (-1) u] } } := by
  have z' := z.push (t := s.toks) { cls := .type "slice", data := .fields #[.none, .none, .int (-1) u] }
  refine vRef_el h fun a h => hList_el h fun xs e h => ?_
  obtain ⟨vs, q, r⟩ := z.list e
  obtain ⟨hz, h⟩ := h
  have hv := len_of r
  have hl' : (s.heap.push { cls := .type "slice", data := .fields #[.none, .none, .int (-1) u] }).IsList a vs := q.isList.push _
  refine tail_any (ops := [.ref a, .ref s.heap.objs.size]) (Heap.IsList.typeIs (s := { s with heap := s.heap.push { cls := .type "slice", data := .fields #[.none, .none, .int (-1) u] } }) hl') slot_list_getitem.lookup ?_ rfl
  refine wpAny_getItem_list_slice hl' (Heap.IsSliceOf.new _ _ _ _) .none .none (.int (-1) u) (by decide) ?_ (by rw [hv]; exact hz)
  refine ⟨_, z'.newList (xs := xs.reverse) ?_, h _ z'.hNone⟩
  rw [krv_pick]
  show List.map V.of vs.toList.reverse = _
  rw [List.map_reverse, r]
end
end Mine
end
-- part M8
section
open PySem PySem.Calls PyProof.Rows PySem.W
set_option maxHeartbeats 4000000
set_option maxRecDepth 100000
namespace Mine

structure ClsF (K : Frag) (c : Nat) : Prop where
  mks : makesIn K (cAddr K c) = true
  kp : keepIn K (.ref (cAddr K c)) = true
  cd : ∃ cd, clsIn K (cAddr K c) = some cd ∧ cd.hasDict = true
  po : plainOver K (cAddr K c) = true
  ga : findIn K (.ref (cAddr K c)) "__getattribute__" = some (some (.builtin "object.__getattribute__"))
  gt : findIn K (.ref (cAddr K c)) "__getattr__" = some none
  sa : findIn K (.ref (cAddr K c)) "__setattr__" = some (some (.builtin "object.__setattr__"))
  fld : ∀ k, k < 22 → findIn K (.ref (cAddr K c)) (nm k) = some none ∧ copiedNames.contains (nm k) = false
  meth : ∀ k c', k < 44 → methOwner c k = some c' → ∃ f, findIn K (.ref (cAddr K c)) (nm k) = some (some (.ref f)) ∧ isFn K (.ref f) = true ∧ keepIn K (.ref f) = true ∧ findIn K (.ref (cAddr K c')) (nm k) = some (some (.ref f))

theorem any_of {α : Type} {o : Option α} {q : α → Bool} (h : o.any q = true) : ∃ a, o = some a ∧ q a = true := by cases o <;> first | exact ⟨_, rfl, h⟩ | exact Bool.noConfusion (show false = true from h)
theorem not_of' {b : Bool} (h : (!b) = true) : b = false := by cases b <;> first | rfl | exact Bool.noConfusion (show false = true from h)
theorem clsF_of {K : Frag} {c : Nat} (h : clsOk K c = true) : ClsF K c :=
  and_el h fun h h8 => and_el h fun h h7 => and_el h fun h h6 => and_el h fun h h5 => and_el h fun h h4 => and_el h fun h h3 => and_el h fun h h2 => and_el h fun h1 h1' =>
  ⟨h1, h1', any_of h2, h3, eq_of_beq h4, eq_of_beq h5, eq_of_beq h6, fun k hk => and_el (List.all_eq_true.mp h7 k (List.mem_range.mpr hk)) fun a b => ⟨eq_of_beq a, not_of' b⟩,
    fun k c' hk e => by
      have h := List.all_eq_true.mp h8 k (List.mem_range.mpr hk)
      rw [e] at h
      exact onRef_el h fun f hf h => and_el h fun h h3 => and_el h fun h1 h2 => ⟨f, hf, h1, h2, eq_of_beq h3⟩⟩

structure Facts (K : Frag) : Prop where
  cls : ∀ c, c < 7 → ClsF K c
  lay : findIn K (.ref (cAddr K 3)) (nm 22) = some (some (.ref (layersA K))) ∧ specialIn K (.ref (layersA K)) "__get__" = some none
  tree : ∃ t, findIn K (.ref (cAddr K 3)) (nm 23) = some (some (.int 4 t)) ∧ specialIn K (.int 4 t) "__get__" = some none
  c22 : copiedNames.contains (nm 22) = false
  c23 : copiedNames.contains (nm 23) = false
  fn : isFn K (.ref (fAddr K (.meth 7 24))) = true
  kp : keepIn K (.ref (fAddr K (.meth 7 24))) = true
  rds : readsIn K (cAddr K 7) (.type "type") = true
  sp : specialIn K (.ref (cAddr K 7)) "__getattribute__" = some (some (.builtin "type.__getattribute__"))
  fc : findCls K (.ref (cAddr K 7)) (.type "type") (nm 24) = some (.val (.ref (fAddr K (.meth 7 24))))
theorem facts_of {K : Frag} (h : factsOk K = true) : Facts K :=
  and_el h fun h h6 => and_el h fun h h5 => and_el h fun h h4 => and_el h fun h h3 => and_el h fun h1 h2 =>
  onRef_el h2 fun a ha h2 => onInt_el h3 fun i t hi h3 => and_el h3 fun h3 h3' => onRef_el h6 fun f hf h6 => and_el h6 fun h6 k5 => and_el h6 fun h6 k4 => and_el h6 fun h6 k3 => and_el h6 fun k1 k2 => by
    have ea : layersA K = a := refOf_ref ha
    have ef : fAddr K (.meth 7 24) = f := refOf_ref hf
    have ei : i = 4 := eq_of_beq h3
    subst ei
    refine ⟨fun c hc => clsF_of (List.all_eq_true.mp h1 c (List.mem_range.mpr hc)), ?_, ⟨t, hi, eq_of_beq h3'⟩, not_of' h4, not_of' h5, ?_, ?_, k3, eq_of_beq k4, ?_⟩
    · rw [ea]; exact ⟨ha, eq_of_beq h2⟩
    · rw [ef]; exact k1
    · rw [ef]; exact k2
    · rw [ef]; exact valIs_of k5
theorem factsOk_cls {K : Frag} (h : factsOk K = true) {c : Nat} (hc : c < 7) : ClsF K c := (facts_of h).cls c hc

theorem lookIn_of {o : Obj} {es : Array DictEntry} {ep : Nat} {name : Str} (hd : o.data = .dict es ep) (hk : StrKeys es) : lookIn name o = some (nsFind es name) := by
  unfold lookIn nsFind findBy
  rw [hd]
  dsimp only
  rw [← Array.find?_toList]
  cases hf : es.toList.find? (fun e => e.key.isStr name) with
  | some e => simp
  | none =>
    have : es.toList.any (·.refKey) = false := by
      rw [List.any_eq_false]
      intro e he
      obtain ⟨n, t, h⟩ := hk e (Array.mem_toList_iff.mp he)
      simp [DictEntry.refKey, h]
    simp [this]

theorem handed_ok {v : Value} (h : isOdd (V.of v) = false) : handedIn v = true := by cases v <;> first | rfl | exact Bool.noConfusion (show true = false from h)

section
variable {G : Gd} {ln : List Str} {P : Part} {env : Env} {fr : List V} {H : MH} {s : Shared} {n : Nat} {A : Around} {Q : V → MH → Prop}

theorem St.inst {W : Addr → Prop} (z : St G P W H s) {a : Addr} {c : Nat} {fs : List (Nat × V)} (e : H a = some (.inst c fs)) :
    ∃ d od m, InstAt s.heap a (instObj (cAddr G.K c) d) (cAddr G.K c) (some od) ∧ (∀ name, lookIn name od = some (m name)) ∧ s.heap.Ns d m ∧ ∀ k, k < nmList.length → (m (nm k)).map V.of = fget fs k := by
  obtain ⟨d, m, h1, h2, _, h3, _⟩ := z.field (fs' := fs) e
  obtain ⟨od, es, ep, ho, hd, hk, hm⟩ := id h2
  exact ⟨d, od, m, ⟨h1, rfl, rfl, ho⟩, fun name => by rw [lookIn_of hd hk, hm], h2, h3⟩

theorem findObj_field {K : Frag} {c : Nat} {od : Obj} {m : Str → Option Value} {k : Nat} {v : Value} (F : ClsF K c) (hl : ∀ name, lookIn name od = some (m name)) (hk : k < 22) (hv : m (nm k) = some v) :
    findObj K (cAddr K c) (some od) (nm k) = some (.value v) := by
  obtain ⟨cd, hc, hd⟩ := F.cd
  unfold findObj W.ownOf
  rw [hc, Option.bind_some, (F.fld k hk).1, Option.bind_some]
  dsimp only [Option.bind_some]
  simp only [Option.bind_some, hd, if_true, hl, hv]

theorem findObj_const {K : Frag} {c : Nat} {od : Obj} {m : Str → Option Value} {name : Str} {a : Value} (F : ClsF K c) (hl : ∀ name, lookIn name od = some (m name)) (hv : m name = none)
    (hf : findIn K (.ref (cAddr K c)) name = some (some a)) (hg : specialIn K a "__get__" = some none) (hc : copiedNames.contains name = false) (hh : handedIn a = true) :
    findObj K (cAddr K c) (some od) name = some (.value a) := by
  obtain ⟨cd, hcd, hd⟩ := F.cd
  unfold findObj W.ownOf
  rw [hcd, Option.bind_some, hf, Option.bind_some]
  dsimp only
  rw [hg]
  dsimp only [Option.bind_some]
  simp only [Option.bind_some, hd, if_true, hl, hv, hc, Bool.false_and, Bool.false_eq_true, if_false, hh]

theorem p_attr {o : Value} {k : Nat} (hk : k < nmList.length) (z : Sit G ln P env fr H s) (h : wAttr G.K (V.of o) k Q H) : wpAny (model G.prog G.w) A (getAttr o (nm k) true) (Po G ln P env fr Q) no s := by
  refine vRef_el h fun a g1 => hInst_el g1 fun c fs e g2 => ?_
  clear h g1
  obtain ⟨d, od, m, I, hl, _, hm⟩ := z.st.inst e
  have hm := hm k hk
  have h0 := oOr_of g2
  clear g2
  rcases h0 with ⟨v, hv, h⟩ | ⟨hv, h⟩
  · obtain ⟨h1, h⟩ := chk_iff h
    obtain ⟨h2, h⟩ := chk_iff h
    obtain ⟨h3, h⟩ := good_iff h
    have F := factsOk_cls G.ok (under h2 (by decide))
    rw [hv, Option.map_eq_some_iff] at hm
    obtain ⟨x, hx, rfl⟩ := hm
    exact get_value z.st.KI I F.ga (findObj_field F hl (under h1 (by decide)) hx) (handed_ok h3) ⟨H, z.toks, h⟩
  · obtain ⟨hc, h⟩ := h
    subst hc
    have FF := facts_of G.ok
    have F := FF.cls 3 (by decide)
    rw [hv, Option.map_eq_none_iff] at hm
    rcases h with ⟨rfl, h⟩ | ⟨rfl, h⟩
    · exact get_value z.st.KI I F.ga (findObj_const F hl hm FF.lay.1 FF.lay.2 FF.c22 rfl) rfl ⟨H, z.toks, h⟩
    · obtain ⟨t, h1, h2⟩ := FF.tree
      exact get_value z.st.KI I F.ga (findObj_const F hl hm h1 h2 FF.c23 rfl) rfl ⟨H, z.toks, h⟩
end
end Mine
end
-- part M9
section
open PySem PySem.Calls PyProof.Rows PySem.W Builtin Builtin.ObjectAttr
set_option maxHeartbeats 4000000
set_option maxRecDepth 100000
namespace Mine

theorem isStr_eq (name y : Str) (t : Tok) : (Value.str name t).isStr y = decide (y = name) := by
  show (name == y) = decide (y = name)
  by_cases h : y = name
  · subst h; simp
  · have : ¬ name = y := fun e => h e.symm
    simp [h, this]

theorem put_le {o : Obj} {es : Array DictEntry} {ep : Nat} (hd : o.data = .dict es ep) (hk : StrKeys es) (name : Str) (hash : Int) (tk : Tok) (v : Value) :
    ∃ es' ep', (Obj.putName name hash (.str name tk) v o).data = .dict es' ep' ∧ (Obj.putName name hash (.str name tk) v o).isFreed = false ∧ StrKeys es' ∧ (∀ y, nsFind es' y = if y = name then some v else nsFind es y) ∧
      es'.size = (if (nsFind es name).isSome then es.size else es.size + 1) := by
  obtain ⟨c, d, dt, sl⟩ := o
  simp only at hd
  subst hd
  cases hi : es.findIdx? (·.key.isStr name) with
  | some i =>
    have hs : (nsFind es name).isSome = true := by
      unfold nsFind
      rw [findBy_of_findIdx?]
      have hi' : es.findIdx? (fun e => e.key.isStr name) = some i := hi
      rw [hi']
      obtain ⟨hlt, _⟩ := Array.findIdx?_eq_some_iff_getElem.mp hi
      simp [hlt]
    refine ⟨es.modify i fun e => { e with val := v }, ep, by simp only [Obj.putName_eq, Obj.putNameByArray, hi], by simp only [Obj.putName_eq, Obj.putNameByArray, hi]; rfl, hk.modify _ _, fun y => findBy_modify (fun n v => v.isStr n) Value.isStr_inj es name y v i hi, ?_⟩
    rw [if_pos hs, Array.size_modify]
  | none =>
    have hs : (nsFind es name).isSome = false := by
      unfold nsFind
      rw [findBy_of_findIdx?]
      have hi' : es.findIdx? (fun e => e.key.isStr name) = none := hi
      rw [hi']; rfl
    refine ⟨es.push ⟨hash, .str name tk, v⟩, ep + 1, by simp only [Obj.putName_eq, Obj.putNameByArray, hi], by simp only [Obj.putName_eq, Obj.putNameByArray, hi]; rfl, hk.push _ _ _ _, fun y => findBy_push (fun n v => v.isStr n) es name y _ _ v (fun z => isStr_eq name z tk) hi, ?_⟩
    rw [if_neg (by rw [hs]; decide), Array.size_push]

section
variable {prog : Program} {w : World} {A : Around} {E : Value → Shared → Prop} {s : Shared}
theorem nsSet_le {a : Addr} {m : Str → Option Value} {name : Str} {v : Value} {b : Nat} {Q : Unit → Shared → Prop} (hn : s.heap.Ns a m) (hb : s.heap.DictLe a b)
    (h : ∀ h', h'.Ns a (fun y => if y = name then some v else m y) → Heap.SameBut a s.heap h' → h'.DictLe a (if (m name).isSome then b else b + 1) → Q () { s with heap := h', toks := s.toks + 1 }) :
    wpAny (model prog w) A (nsSet a name v) Q E s := by
  obtain ⟨o, es, ep, ho, hd, hk, hm⟩ := hn
  unfold nsSet
  refine wpAny_bind (wpAny_bind (wpAny_askSetting (wpAny_pure (wpAny_bind (wpAny_mkText (wpAny_bind (wpAny_loadPart ho ?_)))))))
  rw [hd]
  dsimp only
  have hany : es.any (·.refKey) = false := by
    rw [Array.any_eq_false']; intro e he; obtain ⟨n, t, h⟩ := hk e he; simp [DictEntry.refKey, h]
  rw [aRefKeyMayBeTheName_at, hany, Bool.and_false]
  obtain ⟨es', ep', e1, e2, e3, e4, e5⟩ := put_le hd hk name (PyData.keyHash w.params name) s.toks v
  have hup := Heap.get?_update_self (Obj.putName name (PyData.keyHash w.params name) (.str name s.toks) v) ho e2
  refine wpAny_updatePart ho (h _ ⟨_, es', ep', hup, e1, e3, fun y => by rw [e4, hm]⟩ (Heap.SameBut.update ..) ?_)
  intro o' es₂ ep₂ ho' hd'
  have := Option.some.inj (hup.symm.trans ho')
  subst this
  have hd2 := e1.symm.trans hd'
  cases hd2
  rw [e5, hm]
  have := hb _ _ _ ho hd
  split <;> omega
end

section
variable {G : Gd} {ln : List Str} {P : Part} {env : Env} {fr : List V} {H : MH} {s : Shared} {n : Nat} {A : Around} {Q : V → MH → Prop}

theorem nm_inj : ∀ i j, i < 44 → j < 44 → nm i = nm j → i = j := by
  have : ((List.range 44).all fun i => (List.range 44).all fun j => i == j || !(nm i == nm j)) = true := by decide +kernel
  intro i j hi hj e
  have h1 := List.all_eq_true.mp (List.all_eq_true.mp this i (List.mem_range.mpr hi)) j (List.mem_range.mpr hj)
  simpa [e] using h1

theorem p_setAttr {o v : Value} {k : Nat} {T : MH → Prop} {a : Addr} {c : Nat} {fs : List (Nat × V)} (z : Sit G ln P env fr H s) (ho : V.of o = .ref a) (e : H a = some (.inst c fs)) (hc : c < 7) (hk : k < 22) (hz : fs.length ≤ 100)
    (h : T (upd H a (.inst c (fput fs k (V.of v))))) : wpAny (model G.prog G.w) A (setAttr o (nm k) v) (fun _ s' => ∃ H', Sit G ln P env fr H' s' ∧ T H') no s := by
  have := of_ref ho; subst this
  have F := factsOk_cls G.ok hc
  obtain ⟨cd, hcd, hd⟩ := F.cd
  obtain ⟨d, m, i1, i2, i3, i4, back⟩ := z.st.field (fs' := fput fs k (V.of v)) e
  obtain ⟨od, es, ep, q1, q2, q3, q4⟩ := id i2
  have I : InstAt s.heap a (instObj (cAddr G.K c) d) (cAddr G.K c) (some od) := ⟨i1, rfl, rfl, q1⟩
  refine set_plain z.st.KI I F.sa ?_
  refine osa_open (s := { s with toks := s.toks + 1 }) z.st.KI I F.po (r := none) (by unfold takerIn; rw [(F.fld k hk).1]; rfl) fun b => ?_
  refine wpAny_bind (wpAny_pure (wpAny_bind (wpAny_bind (wpAny_loadPart i1 (wpAny_bind (Looks.here (s := { s with toks := s.toks + 1 }) (looks_clsIn z.st.KI hcd) ?_))))))
  rw [hd]
  refine wpAny_pure (a := some d) (wpAny_bind (wpAny_pure (wpAny_bind ?_)))
  refine nsSet_le (s := { s with toks := s.toks + 1 }) i2 i3 fun h' n' hs' l' => ?_
  have hlen : (if (m (nm k)).isSome then fs.length else fs.length + 1) = (fput fs k (V.of v)).length := by
    rw [fput_length, ← i4 k (by show k < 44; exact easy (by assumption) rfl), Option.isSome_map]
  rw [hlen] at l'
  obtain ⟨o2, es2, ep2, r1, r2, _⟩ := id n'
  have hsz := l' _ _ _ r1 r2
  refine wpAny_bind (wpAny_lookBehind r1 (by rw [r2]; exact pastItsLine_dict (by have : (fput fs k (V.of v)).length ≤ fs.length + 1 := by { rw [fput_length]; split <;> lia }; have hsl : sizeLine = 16777216 := rfl; lia)) ?_)
  refine wpAny_pure ⟨_, ⟨back h' _ (s.toks + 1 + 1) hs' n' l' fun j hj => ?_, z.f.keeps fun b w o' e' => ?_⟩, h⟩
  · show Option.map V.of (if nm j = nm k then some v else m (nm j)) = _
    rw [fget_fput]
    by_cases hjk : j = k
    · subst hjk; simp
    · rw [if_neg hjk, if_neg (fun q => hjk (nm_inj j k hj (by exact easy (by assumption) rfl) q))]; exact i4 j hj
  · refine (hs'.2 b ?_).trans e'
    intro hb
    subst hb
    obtain ⟨D, d1, d2, d3⟩ := z.st.lay
    obtain ⟨m2, p1, _⟩ := d1 a _ e
    have : D a = b := by
      rw [i1] at p1
      have := Option.some.inj p1
      injection this with _ hdd _
      exact (Option.some.inj hdd).symm
    exact (d2 a c fs e).2.2 (this ▸ w)

theorem p_getMethod {o : Value} {k : Nat} {pl : Sem Bool} {a : Addr} {c c' : Nat} {fs : List (Nat × V)} {R : Value × List Value → Shared → Prop} (z : Sit G ln P env fr H s) (ho : V.of o = .ref a) (e : H a = some (.inst c fs)) (hc : c < 7) (hk : k < 44)
    (hf : fget fs k = none) (hm : methOwner c k = some c') (h : R (.ref (fAddr G.K (.meth c' k)), [o]) s) : wpAny (model G.prog G.w) A (getMethod o (nm k) pl) R no s := by
  have := of_ref ho; subst this
  have F := factsOk_cls G.ok hc
  obtain ⟨d, od, m, I, hl, _, hmm⟩ := z.st.inst e
  obtain ⟨f, f1, f2, f4, f3⟩ := F.meth k c' hk hm
  have hn : m (nm k) = none := by
    have := hmm k hk
    rw [hf, Option.map_eq_none_iff] at this; exact this
  have hfa : fAddr G.K (.meth c' k) = f := refOf_ref f3
  rw [hfa] at h
  exact method_fn z.st.KI I F.ga F.gt f1 (beq_iff_eq.mp f2) (by show Option.map (·.isSome) (lookIn (nm k) od) = some false; rw [hl, hn]; rfl) h

theorem keep_meth {G : Gd} {c c' k : Nat} (hc : c < 7) (hk : k < 44) (hm : methOwner c k = some c') : keepIn G.K (.ref (fAddr G.K (.meth c' k))) = true := by
  obtain ⟨f, f1, f2, f4, f3⟩ := (factsOk_cls G.ok hc).meth k c' hk hm
  have hfa : fAddr G.K (.meth c' k) = f := refOf_ref f3
  rw [hfa]; exact f4
theorem keep_sup {G : Gd} : keepIn G.K (.ref (fAddr G.K (.meth 7 24))) = true := (facts_of G.ok).kp

theorem p_clsMethod {pl : Sem Bool} {R : Value × List Value → Shared → Prop} (z : Sit G ln P env fr H s) (h : R (.ref (fAddr G.K (.meth 7 24)), []) { s with toks := s.toks + 1 }) :
    wpAny (model G.prog G.w) A (getMethod (.ref (cAddr G.K 7)) (nm 24) pl) R no s :=
  have F := facts_of G.ok
  method_cls z.st.KI F.sp (cls_value z.st.KI F.rds F.fc rfl h)

theorem p_new {c : Nat} {vs : List Value} (hA : AOk n A) (hc : c < 7) (z : Sit G ln P env fr H s) (h : WNew G n c (vs.map V.of) Q H) :
    wpAny (model G.prog G.w) A (call (.ref (cAddr G.K c)) vs) (Po G ln P env fr Q) no s := by
  have F := factsOk_cls G.ok hc
  obtain ⟨f, f1, f2, f4, f3⟩ := F.meth 24 c (by decide) (by
    have : ∀ c, c < 7 → methOwner c 24 = some c := by decide
    exact this c hc)
  have hfa : fAddr G.K (.meth c 24) = f := refOf_ref f1
  have X := z.st.KI
  have hn : H (s.heap.objs.size + 1) = none := z.st.hNone (Nat.le_succ _)
  obtain ⟨hh, g, d, t, os⟩ := s
  refine wpAny_call (make_core (makes_of X F.mks) (looks_findIn X f1) (fun self => bind_fn X self (beq_iff_eq.mp f2)) (.inl rfl) ?_)
  have z' := z.st.newInst (c := c) (t := t)
  have L := z'.lock
  have w := h (hh.objs.size + 1) hn
  have hA' : AOkI n (A.under (.builtin "type.__call__" ⟨.ref (cAddr G.K c) :: vs, []⟩)) := by
    have h1 : (A.under (.builtin "type.__call__" ⟨.ref (cAddr G.K c) :: vs, []⟩)).depth = A.depth + 1 := rfl
    have h2 : (A.under (.builtin "type.__call__" ⟨.ref (cAddr G.K c) :: vs, []⟩)).units = A.units + 1 := rfl
    refine ⟨hA.hh, ?_, ?_⟩
    · have := hA.hd; rw [h1]; lia
    · have := hA.hu; rw [h2]; lia
  have res := w _ _ _ (.ref (hh.objs.size + 1) :: vs) hA' L rfl
  rw [hfa] at res
  refine codeAny_mono res fun r s' q => ?_
  obtain ⟨v, H', rfl, st', hv, hq⟩ := q
  refine ⟨of_none hv, ⟨H', ?_, hq⟩⟩
  have st2 := z'.unlock st'
  refine ⟨st2, z.f.keeps fun b wb o' e' => z'.unlock_own st' b wb o' (Heap.get?_push_of_some _ (Heap.get?_push_of_some _ e'))⟩
end
end Mine
end
-- part M10
section
open PySem PySem.Calls PyProof.Rows PySem.W Builtin Builtin.ObjectAttr
set_option maxHeartbeats 4000000
set_option maxRecDepth 100000
namespace Mine

section
variable {prog : Program} {w : World} {A : Around} {E : Value → Shared → Prop} {s : Shared}

noncomputable abbrev ByteAt (b : Array UInt8) : Nat → Value → Prop := fun i v => ∃ c u, b[i]? = some c ∧ v = .int (c.toNat : Int) u

theorem extend_bytes {R : Result → Shared → Prop} (hh : A.handled = none) (b : Array UInt8) (t : Tok) (S : Addr) (res : Value) (c₀ : Nat) (hS : s.heap.get? S = some { cls := .type "list", data := .seq #[] c₀ })
    (hR : ∀ h' tk acc' c', (∀ a o, a ≠ S → s.heap.get? a = some o → h'.get? a = some o) → h'.get? S = some { cls := .type "list", dict := none, data := .seq acc' c', slots := #[] } →
      ItemsOf (ByteAt b) acc' b.size → R (.ok (.ret res)) { s with heap := h', toks := tk }) (hn : b.size ≤ sizeLine) :
    wpAny (model prog w) A.in1 (Builtin.List.listExtendWith (.ref S) (.bytes b t) res)
      (fun fin s' => match fin with | .done f => R (.ok f) s' | .again c' => c'.quiet = true ∧ codeAny (model prog w) A c' R s') (fun e s' => R (.error e) s') s := by
  have hSI : S ≠ s.heap.objs.size := Nat.ne_of_lt (Heap.lt_size hS)
  have hSf : S ∉ [s.heap.objs.size] := fun hm => hSI (List.mem_singleton.mp hm)
  unfold Builtin.List.listExtendWith
  refine wpAny_bind (wpAny_typeOf (T := "bytes") (v := .bytes b t) rfl ?_)
  have h1 : Builtin.List.listSameRef (.ref S) (.bytes b t) = false := rfl
  have h2 : (Value.type "bytes" == Value.type "list") = false := by decide
  have h3 : (Value.type "bytes" == Value.type "tuple") = false := by decide
  simp only [h1, h2, h3, Bool.or_false, Bool.false_eq_true, if_false]
  refine wpAny_bind (KBw.pyIter_bytes ?_)
  refine wpAny_bind (wpAny_holding ?_)
  unfold Builtin.List.listLengthHint
  refine wpAny_bind (wpAny_specialOf (T := "bytes") (v := .bytes b t) rfl FB.slot_bytes_len.lookup ?_)
  wp_delta
  refine wpAny_bind (wpAny_isInstance (T := "bytes") (v := .bytes b t) (b := true) rfl (by rw [isSubtype_type]; kernel_rfl) ?_)
  show wpAny _ _ (typeOf (Value.bytes b t) >>= _) _ _ _
  refine wpAny_bind (wpAny_typeOf (T := "bytes") (v := .bytes b t) rfl ?_)
  refine wpAny_pure ?_
  rw [if_neg (by decide)]
  have hst : KBw.IsBytesIter (s.heap.push { cls := .type "bytes_iterator", data := .fields #[.bytes b t, .int 0 0] }) s.heap.objs.size b t 0 := ⟨_, Heap.get?_push_size _ rfl, rfl, rfl⟩
  refine wpAny_pure ⟨plainId_quiet F.plain_extend_loop _, codeAny_extend_loopS (KBw.walks (A := A.in1) hh s.heap.objs.size b t).toS hn _ hSf _ b.size 0 _ _ _ rfl (Nat.zero_le _) hst (Heap.get?_push_of_some _ hS) (ItemsOf.nil _) fun s' acc' c' hm hS' hacc => ?_⟩
  rw [Moved.eq_with hm]
  refine hR s'.heap s'.toks acc' c' (fun a ob ha e => hm.heap a ob (fun hmem => ?_) (Heap.get?_push_of_some _ e)) hS' hacc
  rcases List.mem_cons.mp hmem with e' | hmem
  · exact ha e'
  · exact absurd (Heap.lt_size e) (by rw [List.mem_singleton.mp hmem]; exact Nat.lt_irrefl _)

theorem list_bytes {Q : Value → Shared → Prop} (hh : A.handled = none) (b : Array UInt8) (t : Tok)
    (hQ : ∀ h' tk acc' c', (∀ a o, s.heap.get? a = some o → h'.get? a = some o) →
      h'.get? s.heap.objs.size = some { cls := .type "list", dict := none, data := .seq acc' c', slots := #[] } → ItemsOf (ByteAt b) acc' b.size → Q (.ref s.heap.objs.size) { s with heap := h', toks := tk }) (hn : b.size ≤ sizeLine) :
    wpAny (model prog w) A (call (.type "list") [.bytes b t]) Q E s := by
  refine callType_codes (Q₁ := fun obj s₁ => obj = .ref s.heap.objs.size ∧ s₁ = { s with heap := s.heap.push { cls := .type "list", data := .seq #[] } }) F.called_list (F.typeCall_list_1 _) F.entry_list_init
    (code_list_new _ ⟨rfl, rfl⟩) fun obj s₁ h₁ => ?_
  obtain ⟨rfl, rfl⟩ := h₁
  have hS : (s.heap.push { cls := .type "list", data := .seq #[] }).get? s.heap.objs.size = some { cls := .type "list", data := .seq #[] } := Heap.get?_push_size _ rfl
  refine ⟨⟨_, hS, rfl⟩, F.args_list_init_2 _ _, ?_⟩
  show wpAny _ _ (do let old ← Builtin.List.listItems (.ref s.heap.objs.size); Builtin.List.listUpdate (.ref s.heap.objs.size) (fun _ => #[]); letGo old.toList.reverse; Builtin.List.listExtendWith (.ref s.heap.objs.size) (.bytes b t) .none) _ _ _
  refine wpAny_bind ?_
  unfold Builtin.List.listItems
  refine wpAny_bind (wpAny_seqItems hS rfl (wpAny_pure ?_))
  show wpAny _ _ (updateSeq s.heap.objs.size (fun _ => #[]) >>= fun _ => letGo (#[] : Array Value).toList.reverse >>= fun _ => Builtin.List.listExtendWith (.ref s.heap.objs.size) (.bytes b t) .none) _ _ _
  refine wpAny_bind (wpAny_updateSeq hS rfl ?_)
  have hS₂ := Heap.get?_update_self (Obj.mapSeq (fun _ => (#[] : Array Value))) hS rfl
  refine wpAny_bind (wpAny_letGo ?_)
  refine extend_bytes (hn := hn) (A := A.in1) hh b t _ .none _ hS₂ fun h' tk acc' c' hk hS' hacc => ?_
  refine ⟨rfl, hQ h' tk acc' c' (fun a o e => hk a o (Nat.ne_of_lt (Heap.lt_size e)) ?_) hS' hacc⟩
  exact (Heap.get?_update_other _ _ (Ne.symm (Nat.ne_of_lt (Heap.lt_size e)))).trans (Heap.get?_push_of_some _ e)

theorem items_bytes {b : Array UInt8} {acc : Array Value} (h : ItemsOf (ByteAt b) acc b.size) : acc.toList.map V.of = (b.toList.map fun c => (c.toNat : Int)).map V.int := by
  apply List.ext_getElem?
  intro i
  rw [List.getElem?_map, List.getElem?_map, List.getElem?_map, Array.getElem?_toList, Array.getElem?_toList]
  cases hi : acc[i]? with
  | none =>
    have hs := h.1
    have : b[i]? = none := by
      rw [Array.getElem?_eq_none_iff] at hi ⊢; lia
    rw [this]; rfl
  | some v =>
    obtain ⟨c, u, hc, rfl⟩ := h.2 i v hi
    rw [hc]; rfl

theorem bytes_bytes {Q : Value → Shared → Prop} {b : Array UInt8} {t : Tok} (h : Q (.bytes b t) s) : wpAny (model prog w) A (call (.type "bytes") [.bytes b t]) Q E s := by
  refine callType_codes (Q₁ := fun obj s₁ => s₁.TypeIs obj "bytes" ∧ Q obj s₁) F.bm_called (F.bm_typeCall _) F.entry_object_init ?_ fun obj s₁ h₁ => ?_
  · refine codeAny_of_tree ?_
    show wpAny _ A.in1.in1 (do checkBuiltinCall "bytes.__new__" ⟨[.type "bytes", .bytes b t], []⟩; again (.builtin "bytes.__new__" ⟨[.type "bytes", .bytes b t], []⟩)) _ _ s
    refine wpAny_bind (wpAny_of_eq (F.bm_newCall _) (wpAny_pure ⟨plainId_quiet F.bm_plain _, codeAny_builtin F.bm_entry ?_⟩))
    unfold Builtin.«bytes.__new__»
    refine wpAny_bind (wpAny_of_eq (a := true) rfl ?_)
    refine bm_if_false rfl ?_
    refine wpAny_bind (wpAny_of_eq F.bm_sub ?_)
    refine bm_if_false rfl ?_
    refine wpAny_bind (wpAny_of_eq (F.bm_bind _) ?_)
    refine wpAny_bind (wpAny_of_eq (a := ()) rfl ?_)
    refine wpAny_bind (wpAny_of_eq (a := ()) rfl ?_)
    refine bm_if_false rfl ?_
    refine wpAny_bind (wpAny_specialOf (T := "bytes") (v := .bytes b t) rfl (r := some (.builtin "bytes.__bytes__")) (by rw [typeLookup_type, builtinLookup_eq_fast]; kernel_rfl) ?_)
    refine wpAny_bind (wpAny_rule ?_)
    refine wpAny_bind (wpAny_typeOf (T := "bytes") (v := .bytes b t) rfl ?_)
    rw [if_pos (by decide)]
    exact wpAny_of_eq (a := Fin.done (.ret (.bytes b t))) rfl ⟨PySem.W.typeIs_bytes _ _ _, h⟩
  · exact ⟨h₁.1, F.args_object_init_2 obj _, object_init_meets F.bm_called.init.lookup F.bm_called.made (by decide) prog w A.in1 _ s₁ ⟨h₁.1, rfl, h₁.2⟩⟩
end
end Mine
end
-- part M11
section
open PySem PySem.Calls PyProof.Rows PySem.W Builtin Builtin.ObjectAttr
set_option maxHeartbeats 4000000
set_option maxRecDepth 100000
namespace Mine

theorem bv_len : biVal (biName 0) = .builtin "len" := by decide +kernel
theorem bv_abs : biVal (biName 1) = .builtin "abs" := by decide +kernel
theorem bv_min : biVal (biName 2) = .builtin "min" := by decide +kernel
theorem bv_max : biVal (biName 3) = .builtin "max" := by decide +kernel
theorem bv_int : biVal (biName 4) = .type "int" := by decide +kernel
theorem bv_list : biVal (biName 5) = .type "list" := by decide +kernel
theorem bv_bytes : biVal (biName 6) = .type "bytes" := by decide +kernel
theorem bv_range : biVal (biName 7) = .type "range" := by decide +kernel

theorem maps1 {vs : List Value} {x : V} (h : vs.map V.of = [x]) : ∃ a, vs = [a] ∧ V.of a = x :=
  a1_el (m := fun vs => ∃ a, vs = [a] ∧ V.of a = x) (q := fun y => y = x) (by rw [h]; exact rfl) fun v e => ⟨v, rfl, e⟩
theorem maps2 {vs : List Value} {x y : V} (h : vs.map V.of = [x, y]) : ∃ a b, vs = [a, b] ∧ V.of a = x ∧ V.of b = y :=
  a2_el (m := fun vs => ∃ a b, vs = [a, b] ∧ V.of a = x ∧ V.of b = y) (q := fun u v => u = x ∧ v = y) (by rw [h]; exact ⟨rfl, rfl⟩) fun v w e => ⟨v, w, rfl, e⟩

section
variable {prog : Program} {w : World} {A : Around} {E : Value → Shared → Prop} {s : Shared}
theorem max_list {l : Addr} {vs : List Value} {ns : List Int} {Q : Value → Shared → Prop} (hh : A.handled = none) (hl : s.heap.IsList l vs.toArray) (hi : IntsAre vs ns) (hne : ns ≠ [])
    (h : ∀ h' M (t : Tok) tk, (∀ b o, s.heap.get? b = some o → h'.get? b = some o) → M ∈ ns → (∀ a, a ∈ ns → a ≤ M) → Q (.int M t) { s with heap := h', toks := tk }) :
    wpAny (model prog w) A (call (.builtin "max") [.ref l]) Q E s := by
  obtain ⟨xs, e⟩ := hi.allInts.items
  have hns : ns = xs.toList.map (·.1) := by rw [← hi.numsOf, ← nums_intItems, ← e]
  have hsz : 0 < xs.size := by
    have h3 := List.length_pos_iff.mpr hne
    rw [hns, List.length_map, Array.length_toList] at h3; exact h3
  rw [e] at hl
  refine max_intList hh hl hsz fun v h' tk hv hk => ?_
  obtain ⟨t, rfl⟩ := intItems_at hv
  obtain ⟨h1, h2⟩ := argBest_gt (numAt xs) (xs.size - 1)
  refine h _ _ t tk hk ?_ fun a ha => ?_
  · rw [hns, numAt_eq]; exact getD_mem (by rw [List.length_map, Array.length_toList]; exact Nat.lt_of_le_of_lt (by assumption) (by lia))
  · rw [hns] at ha
    obtain ⟨j, hj, rfl⟩ := mem_getD ha
    rw [List.length_map, Array.length_toList] at hj
    rw [← numAt_eq]; exact h2 j (by exact Nat.le_sub_of_add_le (by lia))
end

theorem byteArr_of {ns : List Int} (h : ∀ x ∈ ns, 0 ≤ x ∧ x < 256) : (byteArr ns).toList.map (fun x => (x.toNat : Int)) = ns := by
  unfold byteArr
  simp only [List.map_map]
  conv => rhs; rw [← List.map_id ns]
  refine List.map_congr_left fun x hx => ?_
  exact byte_back (h x hx).1 (h x hx).2

section
variable {G : Gd} {ln : List Str} {P : Part} {env : Env} {fr : List V} {H : MH} {s : Shared} {n : Nat} {A : Around} {Q : V → MH → Prop}

theorem p_len {v : Value} (z : Sit G ln P env fr H s) (h : wLen (V.of v) Q H) : wpAny (model G.prog G.w) A (call (.builtin "len") [v]) (Po G ln P env fr Q) no s := by
  have hb : big = 16777216 := rfl
  cases v <;> first | exact h.elim | skip
  · rename_i b t
    obtain ⟨hz, h⟩ := h
    rw [List.length_map, Array.length_toList] at hz h
    exact PySem.W.len_bytes (by exact easy (by assumption) rfl) ⟨H, z.toks, h⟩
  · rename_i a
    have seqy : ∀ {xs : List V} {vs : Array Value}, s.heap.IsList a vs → vs.toList.map V.of = xs → (xs.length ≤ big ∧ Q (.int xs.length) H) → wpAny (model G.prog G.w) A (call (.builtin "len") [.ref a]) (Po G ln P env fr Q) no s := by
      intro xs vs hl e h
      obtain ⟨hz, h⟩ := h
      rw [← len_of e] at hz h
      exact call_len_list hl (by exact Int.ofNat_le.mpr (by lia)) ⟨H, z.toks, h⟩
    refine hSeq_el h (fun xs e h => (z.list e).elim fun vs q => seqy q.1.isList q.2 h) (fun xs e h => (z.ro e).elim fun vs q => seqy q.1 q.2 h) fun xs e h => ?_
    obtain ⟨vs, q, r⟩ := z.tup e
    obtain ⟨hz, h⟩ := h
    rw [← len_of r] at hz h
    exact PyProof.Rows.len_tuple q (by exact Int.ofNat_le.mpr (by lia)) ⟨H, z.toks, h⟩
theorem p_max {vs : List Value} (z : Sit G ln P env fr H s) (hA : AOk n A) (h : wMax (vs.map V.of) Q H) : wpAny (model G.prog G.w) A (call (.builtin "max") vs) (Po G ln P env fr Q) no s := by
  rcases vs with _ | ⟨v, _ | ⟨w, r⟩⟩
  · exact h.elim
  · refine vRef_el (m := fun v => wpAny _ A (call (.builtin "max") [v]) _ no s) h fun a h => hList_el h fun xs e h => oSome_el h fun ns hn h => ?_
    obtain ⟨vs, q, r⟩ := z.list e
    have l1 := q.isList
    rw [← Array.toArray_toList (xs := vs)] at l1
    exact max_list hA.hh l1 (allInts_are hn r) h.1 fun h' M t tk hk m1 m2 => ⟨H, z.heap hk, h.2 M m1 m2⟩
  · have h : a1 ((w :: r).map V.of) fun w => vInt (V.of v) fun x => vInt w fun y => Q (.int (if y > x then y else x)) H := h
    refine a1_el (m := fun r => wpAny _ A (call (.builtin "max") (v :: r)) _ no s) (vs := w :: r) h fun w h => vInt_el (m := fun v => wpAny _ A (call (.builtin "max") [v, w]) _ no s) h fun x t h => vInt_el (m := fun w => wpAny _ A (call (.builtin "max") [.int x t, w]) _ no s) h fun y u h => ?_
    refine max_two_ints hA.hh fun h' tk hk => ⟨H, z.heap hk, ?_⟩
    by_cases q : y > x
    · rw [if_pos q] at h ⊢; exact h
    · rw [if_neg q] at h ⊢; exact h
theorem p_byt {v : Value} (z : Sit G ln P env fr H s) (hA : AOk n A) (h : wByt (V.of v) Q H) : wpAny (model G.prog G.w) A (call (.type "bytes") [v]) (Po G ln P env fr Q) no s := by
  cases v <;> first | exact h.elim | skip
  · exact bytes_bytes ⟨H, z, h⟩
  · refine hList_el h fun xs e h => oSome_el h fun ns hn h => ?_
    obtain ⟨vs, q, r⟩ := z.list e
    obtain ⟨h1, h2, h3⟩ := h
    have l1 := q.isList
    rw [← Array.toArray_toList (xs := vs)] at l1
    have hi := allInts_are hn r
    refine call_bytes_ints l1 hi h2 (by rw [hi.length]; exact h1) hA.hh fun h' t k hk => ⟨H, z.heap hk, ?_⟩
    show Q (V.bytes _) H
    rw [byteArr_of h2]; exact h3
theorem p_bi {k : Nat} {vs : List Value} (z : Sit G ln P env fr H s) (hA : AOk n A) (h : wBi k (vs.map V.of) Q H) : wpAny (model G.prog G.w) A (call (biVal (biName k)) vs) (Po G ln P env fr Q) no s := by
  rcases k with _ | _ | _ | _ | _ | _ | _ | k
  · rw [bv_len]
    exact a1_el h fun v h => p_len z h
  · rw [bv_abs]
    exact a1_el h fun v h => vInt_el (m := fun v => wpAny _ A (call (.builtin "abs") [v]) _ no s) h fun i t h => call_abs_int fun u tk => ⟨H, z.toks, h⟩
  · rw [bv_min]
    refine a2_el h fun v w h => vInt_el (m := fun v => wpAny _ A (call (.builtin "min") [v, w]) _ no s) h fun x t h => vInt_el (m := fun w => wpAny _ A (call (.builtin "min") [.int x t, w]) _ no s) h fun y u h => ?_
    refine min_two_ints hA.hh fun h' tk hk => ⟨H, z.heap hk, ?_⟩
    by_cases q : y < x
    · rw [if_pos q] at h ⊢; exact h
    · rw [if_neg q] at h ⊢; exact h
  · rw [bv_max]
    exact p_max z hA h
  · rw [bv_int]
    exact a1_el h fun v h => vBool_el (m := fun v => wpAny _ A (call (.type "int") [v]) _ no s) h fun b h => call_int_bool ⟨H, z.toks, h⟩
  · rw [bv_list]
    refine a1_el h fun v h => vBytes_el (m := fun v => wpAny _ A (call (.type "list") [v]) _ no s) h fun b t h => ?_
    obtain ⟨hz, h⟩ := h
    rw [List.length_map, Array.length_toList] at hz
    refine list_bytes hA.hh b t (fun h' tk acc' c' hk ho hit => ?_) hz
    exact ⟨_, z.newAt hk (Nat.le_refl _) (mo := .list ((b.toList.map fun x => (x.toNat : Int)).map .int)) (fun _ _ h => nomatch h) fun D => ⟨acc', ⟨c', ho⟩, items_bytes hit⟩, h _ z.hNone⟩
  · rw [bv_bytes]
    exact a1_el h fun v h => p_byt z hA h
  · exact False.elim h
end
end Mine
end
-- part M12
section
open PySem PySem.Calls PyProof.Rows PySem.W Builtin Builtin.ObjectAttr
set_option maxHeartbeats 4000000
set_option maxRecDepth 100000
namespace Mine

theorem dict_mapDict (o : Obj) (f) : (o.mapDict f).dict = o.dict := by obtain ⟨c, d, dt, sl⟩ := o; cases dt <;> rfl
theorem dict_mapDictKeys (o : Obj) (f) : (o.mapDictKeys f).dict = o.dict := by obtain ⟨c, d, dt, sl⟩ := o; cases dt <;> rfl

theorem dictSet_int_le {prog : Program} {w : World} {A : Around} {E : Value → Shared → Prop} {s : Shared} {d : Addr} {f} {k : Int} {t : Tok} {v : Value} {Q : Unit → Shared → Prop} {n : Nat} {ob : Obj} (hob : s.heap.get? d = some ob) (hdn : ob.dict = none)
    (hm : s.heap.IntMap d f) (hz : s.heap.DictLe d n) (hn : n ≤ sizeLine)
    (hQ : ∀ h' o', h'.get? d = some o' → o'.dict = none → h'.IntMap d (fun x => if x = k then some v else f x) → h'.DictLe d (n + 1) → Heap.SameBut d s.heap h' → Q () { s with heap := h', toks := s.toks + 1 }) :
    wpAny (model prog w) A (dictSet d (.int k t) v) Q E s := by
  obtain ⟨o, es, ep, ho, hc, hd, hk, hf⟩ := hm
  rw [hob] at ho; cases ho
  have ho := hob
  have hes : es.size ≤ n := hz _ _ _ ho hd
  unfold dictSet
  refine wpAny_holding ?_
  refine wpAny_bind (wpAny_pyHash_int ?_)
  unfold dictSetHashed
  refine wpAny_holding ?_
  refine wpAny_bind (wpAny_dictFind_int (s := { s with toks := s.toks + 1 }) ho hd hk ?_)
  cases hi : es.findIdx? fun e => Value.isInt k e.key with
  | some i =>
    have hg := Heap.get?_update_self (Obj.mapDict (fun es => es.modify i fun e => { e with val := v })) ho (Obj.isFreed_of_dict (Obj.data_mapDict hd _))
    refine wpAny_bind (wpAny_rule (wpAny_bind (wpAny_updateDict (s := { s with toks := s.toks + 1 }) ho hd (wpAny_point (hQ _ _ hg ((dict_mapDict ..).trans hdn) ⟨_, _, ep, hg,
      (Obj.cls_mapDict ..).trans hc, Obj.data_mapDict hd _, hk.modify _ _, fun x => ?_⟩ (fun o' es' ep' ho' hd' => ?_) (Heap.SameBut.update ..))))))
    · rw [findBy_modify Value.isInt Value.isInt_inj es k x v i hi, hf]
    · rw [hg] at ho'
      cases ho'
      rw [Obj.data_mapDict hd _] at hd'
      cases hd'
      simp only [Array.size_modify]; exact Nat.le_succ_of_le (by assumption)
  | none =>
    have hg := Heap.get?_update_self (Obj.mapDictKeys (·.push ⟨hashInt k, .int k t, v⟩)) ho (Obj.isFreed_of_dict (Obj.data_mapDictKeys hd _))
    refine wpAny_bind (wpAny_rule (wpAny_updateDictKeys (hz := Nat.le_trans hes hn) (s := { s with toks := s.toks + 1 }) ho hd (hQ _ _ hg ((dict_mapDictKeys ..).trans hdn) ⟨_, _, ep + 1, hg,
      (Obj.cls_mapDictKeys ..).trans hc, Obj.data_mapDictKeys hd _, hk.push _ _ _, fun x => ?_⟩ (fun o' es' ep' ho' hd' => ?_) (Heap.SameBut.update ..))))
    · rw [findBy_push Value.isInt es k x _ _ v (fun y => by
        simp only [Value.isInt]
        by_cases h : y = k
        · subst h; simp
        · have : ¬ k = y := fun e => h e.symm
          simp [h, this]) hi, hf]
    · rw [hg] at ho'
      cases ho'
      rw [Obj.data_mapDictKeys hd _] at hd'
      cases hd'
      simp only [Array.size_push]; exact Nat.succ_le_succ (by assumption)

theorem setItem_int_le {prog : Program} {w : World} {A : Around} {E : Value → Shared → Prop} {s : Shared} {d : Addr} {f} {k : Int} {t : Tok} {v : Value} {Q : Unit → Shared → Prop} {n : Nat} {ob : Obj} (hob : s.heap.get? d = some ob) (hdn : ob.dict = none)
    (hm : s.heap.IntMap d f) (hz : s.heap.DictLe d n) (hn : n ≤ sizeLine)
    (hQ : ∀ h' o', h'.get? d = some o' → o'.dict = none → h'.IntMap d (fun x => if x = k then some v else f x) → h'.DictLe d (n + 1) → Heap.SameBut d s.heap h' → Q () { s with heap := h', toks := s.toks + 1 }) :
    wpAny (model prog w) A (setItem (.ref d) (.int k t) v) Q E s := by
  unfold setItem
  refine wpAny_holding ?_
  first | refine wpAny_bind (wpAny_pure ?_) | skip
  refine wpAny_bind (wpAny_sequenceKey hm.typeIs (by decide) ?_)
  refine wpAny_bind (wpAny_callSpecial?_slot (name := Str.ofString "__setitem__") hm.typeIs PySem.slot_dict_setitem
    (wpAny_call_entry PySem.slot_dict_setitem hm.typeIs PySem.entry_dict_setitem ?_ (PySem.args_dict_setitem _ _ _)))
  show wpAny _ _ (Builtin.Dict.notOrdered "__setitem__" ⟨[.ref d, .int k t, v], []⟩ >>= _) _ _ s
  refine wpAny_bind (wpAny_notOrdered_dict hm.typeIs ?_)
  show wpAny _ _ (dictSet d (.int k t) v >>= _) _ _ s
  exact wpAny_bind (dictSet_int_le hob hdn hm hz hn fun h' o' a b c e f => wpAny_pure ⟨.none, rfl, wpAny_pure (hQ h' o' a b c e f)⟩)

section
variable {G : Gd} {ln : List Str} {P : Part} {env : Env} {fr : List V} {H : MH} {s : Shared} {n : Nat} {A : Around} {Q : V → MH → Prop}

theorem p_append {a : Addr} {xs : List V} {x : Value} (z : Sit G ln P env fr H s) (e : H a = some (.list xs)) (hz : xs.length < big) (h : Q .none (upd H a (.list (xs ++ [V.of x])))) :
    wpAny (model G.prog G.w) A (call (.builtin "list.append") [.ref a, x]) (Po G ln P env fr Q) no s := by
  obtain ⟨vs, ⟨k, ho⟩, q⟩ := z.list e
  refine append_at (hsz := by rw [len_of q]; exact Nat.le_of_lt hz) ho fun h' hs ho' => ?_
  refine ⟨_, z.turn (mo' := .list (xs ++ [V.of x])) e rfl (fun _ _ => nofun) (fun _ _ => nofun) hs fun D => ⟨vs.push x, ⟨_, ho'⟩, ?_⟩, h⟩
  rw [Array.toList_push, List.map_append, q]; rfl

theorem Sit.dict {a : Addr} {m : Nat} {f : Int → Option V} (z : Sit G ln P env fr H s) (e : H a = some (.dict m f)) :
    ∃ g, (∃ o, s.heap.get? a = some o ∧ o.dict = none) ∧ s.heap.IntMap a g ∧ s.heap.DictLe a m ∧ (∀ k, (g k).map V.of = f k) ∧ a ≠ sysModules := by
  obtain ⟨D, d1, _⟩ := z.st.lay; exact d1 a _ e

theorem p_dictGet {a : Addr} {m : Nat} {f : Int → Option V} {i d : Value} {k : Int} (z : Sit G ln P env fr H s) (e : H a = some (.dict m f)) (hi : V.of i = .int k) (h : Q ((f k).getD (V.of d)) H) :
    wpAny (model G.prog G.w) A (call (.builtin "dict.get") [.ref a, i, d]) (Po G ln P env fr Q) no s := by
  obtain ⟨t, rfl⟩ := of_int hi
  obtain ⟨g, _, hm, _, hg, hs⟩ := z.dict e
  have hs' : (a == sysModules) = false := by simpa using hs
  refine wpAny_call_entry PySem.F.slot_dict_get hm.typeIs PySem.F.entry_dict_get ?_ (PySem.F.args_dict_get_3 _ _ _)
  show wpAny _ _ (dictGet a (.int k t) >>= _) _ _ s
  refine wpAny_bind (wpAny_dictGet_int hm ?_)
  rw [← hg k] at h
  cases hf : g k with
  | some v =>
    rw [hf] at h
    exact wpAny_pure ⟨v, rfl, ⟨H, z.toks, h⟩⟩
  | none =>
    rw [hf] at h
    show wpAny _ _ (Builtin.Dict.missed a (.int k t) >>= _) _ _ _
    exact wpAny_bind (wpAny_missed_other hs' (wpAny_pure ⟨d, rfl, ⟨H, z.toks, h⟩⟩))

theorem p_getMethod_append {a : Addr} {xs : List V} {pl : Sem Bool} {R : Value × List Value → Shared → Prop} (z : Sit G ln P env fr H s) (e : H a = some (.list xs)) (h : R (.builtin "list.append", [.ref a]) s) :
    wpAny (model G.prog G.w) A (getMethod (.ref a) (nm 42) pl) R no s := by
  obtain ⟨vs, ⟨k, ho⟩, q⟩ := z.list e
  exact Calls.getMethod_list_append ho rfl rfl h
theorem p_getMethod_get {a : Addr} {m : Nat} {f : Int → Option V} {pl : Sem Bool} {R : Value × List Value → Shared → Prop} (z : Sit G ln P env fr H s) (e : H a = some (.dict m f)) (h : R (.builtin "dict.get", [.ref a]) s) :
    wpAny (model G.prog G.w) A (getMethod (.ref a) (nm 43) pl) R no s := by
  obtain ⟨g, ⟨o, ho, hn⟩, hm, _, hg, hs⟩ := z.dict e
  exact getMethod_builtin hm.typeIs PySem.F.plainAttrs_dict PySem.F.slot_dict_get PySem.F.type_dict_get (fun b hb => by cases hb; exact ⟨o, ho, hn⟩) h

noncomputable def wSet (o i v : V) (T : MH → Prop) (H : MH) : Prop :=
  vRef o fun a => vInt i fun k => @Option.casesOn MO (fun _ => Prop) (H a) False fun m => @MO.casesOn (fun _ => Prop) m
    (fun xs => xs.length ≤ big ∧ ∃ j, place k xs.length = some j ∧ j < xs.length ∧ T (upd H a (.list (xs.set j v)))) (fun _ => False) (fun _ => False)
    (fun m f => m < 4096 ∧ v ≠ .odd ∧ T (upd H a (.dict (m + 1) fun x => if x = k then some v else f x))) (fun _ _ => False)

theorem p_setItem {o i v : Value} {T : MH → Prop} (z : Sit G ln P env fr H s) (h : wSet (V.of o) (V.of i) (V.of v) T H) :
    wpAny (model G.prog G.w) A (setItem o i v) (fun _ s' => ∃ H', Sit G ln P env fr H' s' ∧ T H') no s := by
  refine vRef_el h fun a h => vInt_el h fun k t h => ?_
  cases e : H a with
  | none => rw [e] at h; exact h.elim
  | some m =>
    rw [e] at h
    cases m <;> first | exact h.elim | skip
    · rename_i xs
      obtain ⟨hz, j, hj, hlt, h⟩ := h
      obtain ⟨vs, ⟨c, ho⟩, q⟩ := z.list e
      have hl := len_of q
      have hb : big = 16777216 := rfl
      have fin : ∀ s', s' = { s with heap := s.heap.update a (Obj.mapSeq (·.setIfInBounds j v)) } → ∃ H', Sit G ln P env fr H' s' ∧ T H' := by
        rintro s' rfl
        refine ⟨_, z.turn (mo' := .list (xs.set j (V.of v))) e rfl (fun _ _ => nofun) (fun _ _ => nofun) (Heap.SameBut.update ..) fun D => ⟨vs.setIfInBounds j v, ?_, ?_⟩, h⟩
        · refine ⟨_, PySem.IsL.update ho _⟩
        · rw [Array.toList_setIfInBounds, List.map_set, q]
      rcases place_pos hj with ⟨h0, h1, rfl⟩ | ⟨h0, h1, rfl⟩
      · exact ki_setAt ho h0 (by lia) (by omega) (fin _ rfl)
      · refine ki_setBack ho h0 (by lia) (by lia) ?_
        rw [hl]; exact fin _ rfl
    · rename_i m f
      obtain ⟨hz, hv, h⟩ := h
      obtain ⟨g, ⟨o, ho, hn⟩, hm, hle, hg, hs⟩ := z.dict e
      refine setItem_int_le ho hn hm hle (by show m ≤ 16777216; lia) fun h' o' ho' hn' hm' hle' hs' => ?_
      refine ⟨_, z.turn (mo' := .dict (m + 1) fun x => if x = k then some (V.of v) else f x) e rfl (fun _ _ => nofun) (fun _ _ => nofun) hs' fun D => ⟨_, ⟨o', ho', hn'⟩, hm', hle', fun x => ?_, hs⟩, h⟩
      show ((if x = k then some v else g x).map V.of) = if x = k then some (V.of v) else f x
      split
      · rfl
      · exact hg x

theorem isTuple_of {h : Heap} {a : Addr} {vs : Array Value} (x : IsTup h a vs) : h.IsTuple a vs := x

theorem p_nonEmpty {a b : Addr} {xs : List V} (z : Sit G ln P env fr H s) (hA : AOk n A) (e : H a = some (.list xs)) (hb : s.heap.IsList b #[]) {R : Value → Shared → Prop}
    (h : R (.bool (!xs.isEmpty)) s) : wpAny (model G.prog G.w) A (compareOp .NotEq (.ref a) (.ref b)) R no s := by
  obtain ⟨vs, p, q⟩ := z.list e
  have hl := len_of q
  have hu : A.units < cLine := hA.units
  cases xs with
  | nil =>
    have hv : vs = #[] := by apply Array.eq_empty_of_size_eq_zero; simpa using hl
    subst hv
    exact SeqAt.RcNeAt.lists (e := fun _ => true) p.isList hb rfl hu (fun j h1 _ => absurd h1 (Nat.not_lt_zero _)) _ _ _ _ h
  | cons x r =>
    exact SeqAt.RcNeAt.lists_lengths p.isList hb (by simp [hl]) hu _ _ _ _ h

theorem p_eqPair {a b : Addr} {i j x y : Int} {t u : Tok} (z : Sit G ln P env fr H s) (hA : AOk n A) (e : H a = some (.tup [.int i, .int j])) (hb : s.heap.IsTuple b #[.int x t, .int y u]) {R : Value → Shared → Prop}
    (h : R (.bool (i == x && j == y)) s) : wpAny (model G.prog G.w) A (compareOp .Eq (.ref a) (.ref b)) R no s := by
  obtain ⟨vs, p, q⟩ := z.tup e
  obtain ⟨v1, v2, hv, e1, e2⟩ := maps2 q
  have hvs : vs = #[v1, v2] := by rw [← Array.toArray_toList (xs := vs), hv]
  subst hvs
  obtain ⟨t1, rfl⟩ := of_int e1
  obtain ⟨t2, rfl⟩ := of_int e2
  refine SeqAt.eq_tupleAt (e := fun k => if k = 0 then i == x else j == y) (isTuple_of p) hb hA.units (fun k h1 h2 => ?_) ?_
  · rcases k with _ | _ | k
    · exact SeqAt.EqAt.int_int _ _ _ _
    · exact SeqAt.EqAt.int_int _ _ _ _
    · simp at h1; lia
  · have : ((List.range (min (#[Value.int i t1, Value.int j t2]).size (#[Value.int x t, Value.int y u]).size)).all (fun k => if k = 0 then i == x else j == y) && (#[Value.int i t1, Value.int j t2]).size == (#[Value.int x t, Value.int y u]).size) = (i == x && j == y) := by
      show ((List.range 2).all _ && true) = _
      rw [Bool.and_true]
      show (((if (0:Nat) = 0 then i == x else j == y)) && (((if (1:Nat) = 0 then i == x else j == y)) && true)) = _
      simp
    rw [this]; exact h
end
end Mine
end
-- part M13
section
open PySem PySem.Calls PyProof.Rows PySem.W Builtin Builtin.ObjectAttr
set_option maxHeartbeats 4000000
set_option maxRecDepth 100000
namespace Mine

noncomputable abbrev Pb (G : Gd) (ln : List Str) (P : Part) (env : Env) (fr : List V) (T F : MH → Prop) : Bool → Shared → Prop := fun b s' => ∃ H', Sit G ln P env fr H' s' ∧ (if b = true then T H' else F H')
noncomputable abbrev Ps (G : Gd) (ln : List Str) (P : Part) (env : Env) (fr : List V) (Q : Src → MH → Prop) : Value → Shared → Prop := fun v s' => ∃ a o src H', v = .ref a ∧ P a = none ∧ SrcO o src ∧ Sit G ln (P.put a o) env fr H' s' ∧ Q src H'
noncomputable abbrev Pl (G : Gd) (ln : List Str) (P : Part) (env : Env) (fr : List V) (Q : List V → MH → Prop) : List Value → Shared → Prop := fun vs s' => ∃ H', Sit G ln P env fr H' s' ∧ Q (vs.map V.of) H'

noncomputable def SE (G : Gd) (e : E) : Prop := ∀ {ln : List Str} {n : Nat} {sc : Scope} {x : Expr} {fr : List V} {Q : V → MH → Prop} {H : MH} {P : Part} {A : Around} {s : Shared} {env : Env},
  chkE G.K ln sc e x = true → ln.Nodup → AOk n A → EnvOK sc env → Sit G ln P env fr H s → wE G ln n e fr Q H → wpAny (model G.prog G.w) A (eval x env) (Po G ln P env fr Q) no s
noncomputable def SC (G : Gd) (e : E) : Prop := ∀ {ln : List Str} {n : Nat} {sc : Scope} {x : Expr} {fr : List V} {T F : MH → Prop} {H : MH} {P : Part} {A : Around} {s : Shared} {env : Env},
  chkE G.K ln sc e x = true → ln.Nodup → AOk n A → EnvOK sc env → Sit G ln P env fr H s → wC G ln n e fr T F H → wpAny (model G.prog G.w) A (isTrue x env (eval x env)) (Pb G ln P env fr T F) no s
noncomputable def SSrc (G : Gd) (e : E) : Prop := ∀ {ln : List Str} {n : Nat} {sc : Scope} {x : Expr} {fr : List V} {Q : Src → MH → Prop} {H : MH} {P : Part} {A : Around} {s : Shared} {env : Env},
  chkE G.K ln sc e x = true → ln.Nodup → AOk n A → EnvOK sc env → Sit G ln P env fr H s → wSrc G ln n e fr Q H → wpAny (model G.prog G.w) A (eval x env) (fun v s₁ => wpAny (model G.prog G.w) A (pyIter v) (Ps G ln P env fr Q) no s₁) no s
noncomputable def SEs (G : Gd) (es : Es) : Prop := ∀ {ln : List Str} {n : Nat} {sc : Scope} {xs : List Expr} {fr : List V} {Q : List V → MH → Prop} {H : MH} {P : Part} {A : Around} {s : Shared} {env : Env},
  chkEs G.K ln sc es xs = true → ln.Nodup → AOk n A → EnvOK sc env → Sit G ln P env fr H s → wEs G ln n es fr Q H → wpAny (model G.prog G.w) A (spliced (xs.map fun x => (false, eval x env))) (Pl G ln P env fr Q) no s
noncomputable def SAnd (G : Gd) (es : Es) : Prop := ∀ {ln : List Str} {n : Nat} {sc : Scope} {xs : List Expr} {fr : List V} {Q : V → MH → Prop} {H : MH} {P : Part} {A : Around} {s : Shared} {env : Env} {pos : Pos},
  chkEs G.K ln sc es xs = true → xs ≠ [] → ln.Nodup → AOk n A → EnvOK sc env → Sit G ln P env fr H s → wAnd G ln n es fr Q H → wpAny (model G.prog G.w) A (boolOp pos .And (evalEach xs env)) (Po G ln P env fr Q) no s
noncomputable def SOr (G : Gd) (es : Es) : Prop := ∀ {ln : List Str} {n : Nat} {sc : Scope} {xs : List Expr} {fr : List V} {Q : V → MH → Prop} {H : MH} {P : Part} {A : Around} {s : Shared} {env : Env} {pos : Pos},
  chkEs G.K ln sc es xs = true → xs ≠ [] → ln.Nodup → AOk n A → EnvOK sc env → Sit G ln P env fr H s → wOr G ln n es fr Q H → wpAny (model G.prog G.w) A (boolOp pos .Or (evalEach xs env)) (Po G ln P env fr Q) no s
noncomputable def SCs (G : Gd) (es : Es) : Prop := ∀ {all : Bool} {ln : List Str} {n : Nat} {sc : Scope} {xs : List Expr} {fr : List V} {T F : MH → Prop} {H : MH} {P : Part} {A : Around} {s : Shared} {env : Env},
  chkEs G.K ln sc es xs = true → ln.Nodup → AOk n A → EnvOK sc env → Sit G ln P env fr H s → wCs all G ln n es fr T F H → wpAny (model G.prog G.w) A (allTrue (if all then .And else .Or) xs env) (Pb G ln P env fr T F) no s

structure SA (G : Gd) (e : E) : Prop where
  ev : SE G e
  tr : SC G e
  src : SSrc G e
structure SL (G : Gd) (es : Es) : Prop where
  ev : SEs G es
  an : SAnd G es
  or : SOr G es
  tr : SCs G es

theorem then_ {α β : Type} {M : Model} {A : Around} {s : Shared} {t : Sem α} {S : β → Shared → Prop} {R : α → β → Prop} {K : α → Shared → Prop} (h : wpAny M A t (fun a s' => ∃ b, S b s' ∧ R a b) no s) (k : ∀ a b s', S b s' → R a b → K a s') : wpAny M A t K no s :=
  wpAny_mono h (fun a s' q => q.elim fun b q => k a b s' q.1 q.2) fun _ _ x => x
theorem noE {v : Value} {s : Shared} : no v s → no v s := id

section
variable {G : Gd} {ln : List Str} {P : Part} {env : Env} {fr : List V} {H : MH} {s : Shared} {n : Nat} {A : Around} {Q : V → MH → Prop}

theorem Po.mono {R : V → MH → Prop} {v : Value} {s : Shared} (h : ∀ v H, Q v H → R v H) (x : Po G ln P env fr Q v s) : Po G ln P env fr R v s := let ⟨H', z, q⟩ := x; ⟨H', z, h _ _ q⟩

theorem nil_inv {K : Frag} {sc : Scope} {xs : List Expr} (h : chkEs K ln sc .nil xs = true) : xs = [] := List.isEmpty_iff.mp h
@[elab_as_elim] theorem cons_el {K : Frag} {sc : Scope} {m : List Expr → Prop} {e : E} {es : Es} {xs : List Expr} (h : chkEs K ln sc (.cons e es) xs = true) (k : ∀ x r, notStar x = true → chkE K ln sc e x = true → chkEs K ln sc es r = true → m (x :: r)) : m xs :=
  onCons_el h fun x r h => and_el h fun h h3 => and_el h fun h1 h2 => k x r h1 h2 h3
theorem chkEs_trees {K : Frag} {sc : Scope} {env : Env} (pos : Pos) : ∀ (es : Es) (xs : List Expr), chkEs K ln sc es xs = true → backTo pos (starEach xs env) = xs.map fun x => (false, eval x env)
  | .nil, xs, h => by rw [nil_inv h]; rfl
  | .cons e es, xs, h => cons_el (m := fun xs => backTo pos (starEach xs env) = xs.map fun x => (false, eval x env)) h fun x xs h1 _ h3 => by
    have ih := chkEs_trees (env := env) pos es xs h3
    have e : starEach (x :: xs) env = (false, eval x env) :: starEach xs env := by cases x <;> first | rfl | cases h1
    rw [e]
    show (false, eval x env) :: backTo pos (starEach xs env) = _
    rw [ih]; rfl
theorem trees_plain {env : Env} (xs : List Expr) : (xs.map fun x => (false, eval x env)).any (·.1) = false := by
  rw [List.any_map]; simp
theorem evalArgs_trees {M : Model} {A : Around} {E : Value → Shared → Prop} {s : Shared} {f : Value} {xs : List Expr} {Q : Args → Shared → Prop}
    (h : wpAny M A (spliced (xs.map fun x => (false, eval x env))) (fun vs s' => Q ⟨vs, []⟩ s') E s) : wpAny M A (evalArgs f true (xs.map fun x => (false, eval x env)) []) Q E s := by
  cases xs with
  | nil =>
    unfold evalArgs
    show wpAny M A (spliced [] >>= _) Q E s
    refine wpAny_bind (wpAny_mono h (fun vs s' h' => ?_) fun _ _ x => x)
    refine wpAny_bind (wpAny_pure ?_)
    refine wpAny_holding ?_
    exact wpAny_bind (wpAny_pure (wpAny_bind (wpAny_pure (wpAny_pure h'))))
  | cons x r => exact evalArgs_plain h

theorem call_K {M : Model} {A : Around} {E : Value → Shared → Prop} {s : Shared} {K : Frag} {pos : Pos} {f : Value} {first : List Value} {xs : List Expr} {Q : Value → Shared → Prop} (hk : keepIn K f = true)
    (h : wpAny M A (spliced (xs.map fun x => (false, eval x env))) (fun vs s₁ => K.In s₁.heap ∧ wpAny M A (call f (first ++ vs)) Q E s₁) E s) :
    wpAny M A (callWith pos f first (xs.map fun x => (false, eval x env)) []) Q E s :=
  callWith_of (by rw [trees_plain]; rfl) (keeps_K hk) (evalArgs_trees h)
theorem call_B {M : Model} {A : Around} {E : Value → Shared → Prop} {s : Shared} {pos : Pos} {id : String} {first : List Value} {xs : List Expr} {Q : Value → Shared → Prop}
    (h : wpAny M A (spliced (xs.map fun x => (false, eval x env))) (fun vs s₁ => wpAny M A (call (.builtin id) (first ++ vs)) Q E s₁) E s) :
    wpAny M A (callWith pos (.builtin id) first (xs.map fun x => (false, eval x env)) []) Q E s :=
  Calls.callWith_builtin (trees_plain _) (evalArgs_trees h)
theorem call_T {M : Model} {A : Around} {E : Value → Shared → Prop} {s : Shared} {pos : Pos} {T : String} {first : List Value} {xs : List Expr} {Q : Value → Shared → Prop}
    (h : wpAny M A (spliced (xs.map fun x => (false, eval x env))) (fun vs s₁ => wpAny M A (call (.type T) (first ++ vs)) Q E s₁) E s) :
    wpAny M A (callWith pos (.type T) first (xs.map fun x => (false, eval x env)) []) Q E s :=
  PyProof.Rows.callWith_type (trees_plain _) (evalArgs_trees h)

theorem meth_call {M : Model} {A : Around} {E : Value → Shared → Prop} {s : Shared} {o : Expr} {name : Str} {apos pos : Pos} {args : List Expr} {Q : Value → Shared → Prop}
    (hb : attributeBase o name env (eval o env) = eval o env) (hf : args.length < 20) (hl : (apos.endLine == pos.line) = true) (ht : backTo pos (starEach args env) = args.map fun x => (false, eval x env))
    (h : wpAny M A (eval o env) (fun ov s₁ => ∀ pl, wpAny M A (getMethod ov name pl) (fun fx s₂ => wpAny M A (callWith pos fx.1 fx.2 (args.map fun x => (false, eval x env)) []) Q E s₂) E s₁) E s) :
    wpAny M A (eval (.Call (.Attribute o name apos) args [] pos) env) Q E s := by
  rw [arm_eval_Call, hb, ht]
  refine wpAny_bind (wpAny_mono h (fun ov s₁ h₁ => wpAny_bind (wpAny_standAt ?_)) fun _ _ e => e)
  have hform : methodCallForm (args.length + ([] : List Keyword).length) (args.map fun x => (false, eval x env)) (backToKw pos (keywordEach [] env)) = true := by
    show ((args.map fun x => (false, eval x env)).all (fun x => !x.1) && true && decide (args.length + 0 + 0 < 30)) = true
    rw [List.all_map]
    simp
    exact easy (by assumption) rfl
  have hpos : methodCallPos true o env apos pos = pure pos := by unfold methodCallPos; simp [hl]
  unfold methodCall
  rw [hform]
  refine wpAny_bind (wpAny_holding (wpAny_mono (h₁ _) (fun fx s₂ h₂ => ?_) fun _ _ x => x))
  exact wpAny_bind (wpAny_of_eq hpos h₂)
theorem base_plain {o : Expr} {name : Str} {w : Sem Value} (h : plainBase o = true) : attributeBase o name env w = w := by
  cases o <;> try rfl
  rename_i f xs ks p
  cases f <;> try rfl
  cases xs <;> try rfl
  cases ks <;> first | rfl | cases h
end
end Mine
end
-- part M14
section
open PySem PySem.Calls PyProof.Rows PySem.W Builtin Builtin.ObjectAttr
set_option maxHeartbeats 4000000
set_option maxRecDepth 100000
namespace Mine

section
variable {G : Gd} {ln : List Str} {P : Part} {env : Env} {fr : List V} {H : MH} {s : Shared} {n : Nat} {A : Around} {Q : V → MH → Prop}

theorem St.mg {W : Addr → Prop} (x : St G P W H s) : s.heap.Ns mainGlobals G.mg := G.g.keeps x.hb
theorem St.mb {W : Addr → Prop} (x : St G P W H s) : s.heap.Ns builtinsNs G.mb := G.b.keeps x.hb

theorem e_glob {sc : Scope} {x : Str} {pos : Pos} {v : Value} {R : Value → Shared → Prop} (hE : EnvOK sc env) (z : Sit G ln P env fr H s) (hg : isGlob G.K sc x = true) (e : nsIn G.K mainGlobals x = some (some v)) (h : R v s) :
    wpAny (model G.prog G.w) A (eval (.Name x pos) env) R no s :=
  and_el hg fun h1 h2 => Name_function_global (by rw [hE.hs]; exact hE.fn) (by show env.scope.names.lookup x = _; rw [hE.hs]; exact eq_of_beq h1) (loadGlobal_global (mg := G.mg) (by rw [hE.gl]; exact z.st.mg) (mg_of G.KI G.g e) h) (not_of' h2)
theorem e_fn {sc : Scope} {x : Str} {pos : Pos} {R : Value → Shared → Prop} (hE : EnvOK sc env) (z : Sit G ln P env fr H s) (hg : isGlFn G.K sc x = true) (h : keepIn G.K (.ref (gl G.K x)) = true → R (.ref (gl G.K x)) s) :
    wpAny (model G.prog G.w) A (eval (.Name x pos) env) R no s :=
  and_el hg fun h1 h2 => onRef_el h2 fun a e h2 => by
    rw [show gl G.K x = a from refOf_ref e] at h
    exact e_glob hE z h1 e (h h2)
theorem e_bi {sc : Scope} {x : Str} {pos : Pos} {v : Value} {R : Value → Shared → Prop} (hE : EnvOK sc env) (z : Sit G ln P env fr H s) (hg : isBi G.K sc x v = true) (h : R v s) :
    wpAny (model G.prog G.w) A (eval (.Name x pos) env) R no s :=
  and_el hg fun hg h3 => and_el hg fun hg h2 => and_el hg fun h0 h1 => and_el h0 fun h4 h5 => by
    refine Name_function_global (by rw [hE.hs]; exact hE.fn) (by show env.scope.names.lookup x = _; rw [hE.hs]; exact eq_of_beq h4)
      (loadGlobal_builtin (mg := G.mg) (mb := G.mb) (by rw [hE.gl]; exact z.st.mg) (mg_none_of G.KI G.g (eq_of_beq h1)) (by rw [hE.bi]; exact z.st.mb) ?_ h) (not_of' h5)
    rw [G.bi x (beq_eq_false_iff_ne.mp (not_of' h3))]; exact eq_of_beq h2

theorem isLoc_of {sc : Scope} {i : Nat} {x : Str} (h : isLoc ln sc i x = true) : ln[i]? = some x ∧ (sc.names.lookup x = some .local ∨ sc.names.lookup x = some .cell) ∧ (x == ("__debug__" : Str)) = false :=
  and_el h fun h h3 => and_el h fun h1 h2 => ⟨eq_of_beq h1, ((Bool.or_eq_true ..).mp h2).imp eq_of_beq eq_of_beq, not_of' h3⟩
theorem e_loc {sc : Scope} {i : Nat} {x : Str} {pos : Pos} {R : Value → Shared → Prop} (hE : EnvOK sc env) (z : Sit G ln P env fr H s) (hl : isLoc ln sc i x = true) (ho : fr.getD i .odd ≠ .odd) (h : ∀ v, V.of v = fr.getD i .odd → R v s) :
    wpAny (model G.prog G.w) A (eval (.Name x pos) env) R no s := by
  obtain ⟨h1, h2, h3⟩ := isLoc_of hl
  refine wpAny_Name (z.read (pos := pos) (by rw [hE.hs]; exact hE.fn) h1 ?_ ho h) h3
  unfold Env.kindOf; rw [hE.hs]; exact h2
theorem isOdd_ne {v : V} (h : isOdd v = false) : v ≠ .odd := fun e => by subst e; cases h

theorem sw_pure {α : Type} {M : Model} {A : Around} {E : Value → Shared → Prop} {s : Shared} {t : Sem α} {Q R : α → Shared → Prop} (h : wpAny M A t Q E s) (hm : ∀ a s, Q a s → R a s) : wpAny M A t R E s := wpAny_mono h (fun a s q => hm a s q) fun _ _ x => x

theorem se_none : SE G .none := by
  intro ln n sc x fr Q H P A s env hc nd hA hE z h
  refine onConst_el hc fun c k p hc => ?_
  have hc : c.ctorIdx = 0 := eq_of_beq hc
  exact Const.none.elim (motive := fun c => wpAny _ A (eval (.Constant c k p) env) _ no s) c hc (wpAny_Constant_none ⟨H, z, h⟩)
theorem se_bool {b : Bool} : SE G (.bool b) := by
  intro ln n sc x fr Q H P A s env hc nd hA hE z h
  refine onConst_el hc fun c k p hc => onCb_el hc fun d hc => beq_el hc ?_
  exact wpAny_Constant_bool ⟨H, z, h⟩
theorem se_int {i : Int} : SE G (.int i) := by
  intro ln n sc x fr Q H P A s env hc nd hA hE z h
  refine onConst_el hc fun c k p hc => onCi_el hc fun d hc => beq_el hc ?_
  exact wpAny_Constant_int ⟨H, z.toks, h⟩
theorem se_str {i : Nat} : SE G (.str i) := by
  intro ln n sc x fr Q H P A s env hc nd hA hE z h
  refine onConst_el hc fun c k p hc => onCs_el hc fun d hc => ?_
  obtain rfl := eq_of_beq hc
  exact wpAny_Constant_str ⟨H, z.toks, h⟩
theorem se_loc {i : Nat} : SE G (.loc i) := by
  intro ln n sc x fr Q H P A s env hc nd hA hE z h
  refine onName_el hc fun y p hc => ?_
  exact e_loc hE z hc (isOdd_ne (good_iff h).1) fun v hv => ⟨H, z, by rw [hv]; exact (good_iff h).2⟩
theorem se_gint {x : Str} {i : Int} : SE G (.gint x i) := by
  intro ln n sc x fr Q H P A s env hc nd hA hE z h
  exact onName_el hc fun y p hc => and_el hc fun _ h2 => and_el h2 fun h3 h4 => onInt_el h4 fun j t e h4 => e_glob hE z h3 e ⟨H, z, by rw [← show i = j from eq_of_beq h4]; exact h⟩
theorem se_attr {e : E} {k : Nat} (a : SE G e) : SE G (.attr e k) := by
  intro ln n sc x fr Q H P A s env hc nd hA hE z h
  refine onAttr_el hc fun f nme p hc => and_el hc fun hc h4 => and_el hc fun hc h3 => and_el hc fun h1 h2 => beq_el h3 ?_
  refine Attribute_any_ (then_ (a h1 nd hA hE z h) fun o H' s₁ z' q => ?_) (by rw [arm_eval_Attribute, base_plain h2])
  exact p_attr (of_decide_eq_true h4) z' q
theorem se_sub {e i : E} (a : SE G e) (b : SE G i) : SE G (.sub e i) := by
  intro ln n sc x fr Q H P A s env hc nd hA hE z h
  refine onSub_el hc fun f j p hc => and_el hc fun hc h3 => and_el hc fun h1 h2 => ?_
  refine Subscript_ (then_ (a h1 nd hA hE z h) fun o H' s₁ z' q => ?_)
  exact then_ (b h2 nd hA hE z' q) fun j H'' s₂ z'' q => p_sub h3 z'' q
@[elab_as_elim] theorem none_el {m : E → Prop} {e : E} (h : isNoneE e = true) (k : m .none) : m e := by cases e <;> first | exact k | exact Bool.noConfusion (show false = true from h)
theorem se_part {e : E} (a : SE G e) {sc : Scope} {l : Option Expr} (hc : chkO (isNoneE e) (chkE G.K ln sc e) l = true) (nd : ln.Nodup) (hA : AOk n A) (hE : EnvOK sc env) (z : Sit G ln P env fr H s) (h : wE G ln n e fr Q H) :
    wpAny (model G.prog G.w) A (evalPart l env) (Po G ln P env fr Q) no s := by
  cases l with
  | none => exact wpAny_pure ⟨H, z, none_el (m := fun e => wE G ln n e fr Q H → Q .none H) hc (fun h => h) h⟩
  | some x => exact a hc nd hA hE z h
theorem se_slice {e lo hi : E} (a : SE G e) (b : SE G lo) (c : SE G hi) : SE G (.slice e lo hi) := by
  intro ln n sc x fr Q H P A s env hc nd hA hE z h
  refine onSub_el hc fun f j p hc => onSlice_el hc fun l u st q hc => and_el hc fun hc h3 => and_el hc fun hc h2 => and_el hc fun h0 h1 => isNone_el h0 ?_
  refine Subscript_ (then_ (a h1 nd hA hE z h) fun o H' s₁ z' q => ?_)
  refine wpAny_Slice (then_ (se_part b h2 nd hA hE z' q) fun l H'' s₂ z'' q => ?_)
  exact then_ (se_part c h3 nd hA hE z'' q) fun u H₃ s₃ z₃ q => wpAny_pure (p_slice z₃ q)
theorem se_rev {e : E} (a : SE G e) : SE G (.rev e) := by
  intro ln n sc x fr Q H P A s env hc nd hA hE z h
  refine onSub_el hc fun f j p hc => onSlice_el hc fun l u st q hc => onSome_el hc fun t hc => onUn_el hc fun op y r hc => onConst_el hc fun c k' p' hc => onCi_el hc fun i hc =>
    and_el hc fun hc h1 => and_el hc fun hc hi => and_el hc fun hc ho => and_el hc fun hl hu => isNone_el hl (isNone_el hu ?_)
  obtain rfl := eq_of_beq ho
  obtain rfl := eq_of_beq hi
  refine Subscript_ (then_ (a h1 nd hA hE z h) fun o H' s₁ z' q => ?_)
  exact wpAny_Slice (wpAny_pure (wpAny_pure (evalPart_some_step (wpAny_UnaryOp (wpAny_Constant_int (PySem.P.neg_int (p_rev (z'.toks (t := s₁.toks + 1 + 1)) q)))))))
theorem se_bin {op : Operator} {e f : E} (a : SE G e) (b : SE G f) : SE G (.bin op e f) := by
  intro ln n sc x fr Q H P A s env hc nd hA hE z h
  refine onBin_el hc fun l o r p hc => and_el hc fun hc h3 => and_el hc fun h1 h2 => beq_el h1 ?_
  refine wpAny_BinOp (then_ (a h2 nd hA hE z h) fun o H' s₁ z' q => ?_)
  exact then_ (b h3 nd hA hE z' q) fun j H'' s₂ z'' q => p_bin z'' hA q
theorem se_neg {i : Int} : SE G (.neg i) := by
  intro ln n sc x fr Q H P A s env hc nd hA hE z h
  refine onUn_el hc fun op y r hc => onConst_el hc fun c k' p' hc => onCi_el hc fun j hc => and_el hc fun h1 h2 => ?_
  obtain rfl := eq_of_beq h1
  refine beq_el h2 ?_
  exact wpAny_UnaryOp (wpAny_Constant_int (PySem.P.neg_int ⟨H, z.toks (t := s.toks + 1 + 1), h⟩))
theorem se_not {e : E} (a : SE G e) : SE G (.not e) := by
  intro ln n sc x fr Q H P A s env hc nd hA hE z h
  refine onUn_el hc fun op y r hc => and_el hc fun h0 h1 => ?_
  obtain rfl := eq_of_beq h0
  refine wpAny_UnaryOp (then_ (a h1 nd hA hE z h) fun v H' s₁ z' q => ?_)
  split at q
  · rename_i b hb
    obtain rfl := of_bool hb
    exact not_of (wpAny_truthy_bool ⟨H', z', q⟩)
  · exact q.elim
theorem behind_of {op : CmpOp} {r : Expr} (h : notSet r = true) : behindInMarks op r = false := by cases r <;> first | rfl | cases h
theorem cmp_fin {T F : MH → Prop} {v : Value} {s' : Shared} {H' : MH} (q : ∃ c, v = .bool c ∧ Sit G ln P env fr H' s' ∧ (if c = true then T H' else F H')) : wpAny (model G.prog G.w) A (truthy v) (Pb G ln P env fr T F) no s' := by
  obtain ⟨c, rfl, z, q⟩ := q
  exact wpAny_truthy_bool ⟨H', z, q⟩
theorem cmp_val {v : Value} {s' : Shared} {H' : MH} (q : ∃ c, v = .bool c ∧ Sit G ln P env fr H' s' ∧ (if c = true then Q (.bool true) H' else Q (.bool false) H')) : Po G ln P env fr Q v s' := by
  obtain ⟨c, rfl, z, q⟩ := q
  cases c <;> exact ⟨H', z, q⟩
@[elab_as_elim] theorem cmp_el {K : Frag} {sc : Scope} {m : Expr → Prop} {op : CmpOp} {e f : E} {x : Expr} (hc : chkE K ln sc (.cmp op e f) x = true) (k : ∀ l r p, chkE K ln sc e l = true → chkE K ln sc f r = true → notSet r = true → m (.Compare l [op] [r] p)) : m x :=
  onCmp_el hc fun l os rs p hc => on1_el hc fun o hc => on1_el hc fun r hc => and_el hc fun hc h4 => and_el hc fun hc h3 => and_el hc fun h1 h2 => beq_el (m := fun o => m (.Compare l [o] [r] p)) h1 (k l r p h2 h3 h4)
theorem cmp_core {op : CmpOp} {e f : E} (a : SE G e) (b : SE G f) {sc : Scope} {l r : Expr} {R : V → V → MH → Prop} {K : Value → Shared → Prop} (h2 : chkE G.K ln sc e l = true) (h3 : chkE G.K ln sc f r = true) (nd : ln.Nodup) (hA : AOk n A) (hE : EnvOK sc env) (z : Sit G ln P env fr H s)
    (h : wE G ln n e fr (fun x => wE G ln n f fr (R x)) H) (hk : ∀ v w H' s', Sit G ln P env fr H' s' → R (V.of v) (V.of w) H' → wpAny (model G.prog G.w) A (compareOp op v w) K no s') :
    wpAny (model G.prog G.w) A (eval l env) (fun a s₁ => wpAny (model G.prog G.w) A (eval r env) (fun b s₂ => wpAny (model G.prog G.w) A (compareOp op a b) K no s₂) no s₁) no s := by
  refine then_ (a h2 nd hA hE z h) fun o H' s₁ z' q => ?_
  refine then_ (b h3 nd hA hE z' q) fun j H'' s₂ z'' q => ?_
  exact hk _ _ _ _ z'' q
theorem se_cmp {op : CmpOp} {e f : E} (a : SE G e) (b : SE G f) : SE G (.cmp op e f) := by
  intro ln n sc x fr Q H P A s env hc nd hA hE z h
  refine cmp_el hc fun l r p h2 h3 h4 => ?_
  exact wpAny_Compare1 (cmp_core a b h2 h3 nd hA hE z h fun _ _ _ _ z'' q => wpAny_mono (p_cmp z'' hA q) (fun v s₃ q => cmp_val q) fun _ _ x => x) (behind_of h4)
theorem sc_cmp {op : CmpOp} {e f : E} (a : SE G e) (b : SE G f) : SC G (.cmp op e f) := by
  intro ln n sc x fr T F H P A s env hc nd hA hE z h
  refine cmp_el hc fun l r p h2 h3 h4 => ?_
  exact wpAny_isTrue_Compare1 (cmp_core a b h2 h3 nd hA hE z h fun _ _ _ _ z'' q => wpAny_mono (p_cmp z'' hA q) (fun v s₃ q => cmp_fin q) fun _ _ x => x) (behind_of h4)
theorem last_of {o p : CmpOp} {r q : Expr} (h : notSet q = true) : lastMarks [o, p] [r, q] = false := behind_of h
@[elab_as_elim] theorem cmp2_el {K : Frag} {sc : Scope} {m : Expr → Prop} {o p : CmpOp} {e f g : E} {x : Expr} (hc : chkE K ln sc (.cmp2 o p e f g) x = true)
    (k : ∀ l r q ps, chkE K ln sc e l = true → chkE K ln sc f r = true → chkE K ln sc g q = true → notSet q = true → m (.Compare l [o, p] [r, q] ps)) : m x :=
  onCmp_el hc fun l os rs ps hc => onCons_el hc fun o' os hc => on1_el hc fun p' hc => onCons_el hc fun r rs hc => on1_el hc fun q hc =>
    and_el hc fun hc h7 => and_el hc fun hc _ => and_el hc fun hc h5 => and_el hc fun hc h4 => and_el hc fun hc h3 => and_el hc fun h1 h2 =>
    beq_el (m := fun o => m (.Compare l [o, p'] [r, q] ps)) h1 (beq_el (m := fun p => m (.Compare l [o, p] [r, q] ps)) h2 (k l r q ps h3 h4 h5 h7))
theorem se_cmp2 {o' p' : CmpOp} {e f g : E} (a : SE G e) (b : SE G f) (c : SE G g) : SE G (.cmp2 o' p' e f g) := by
  intro ln n sc x fr Q H P A s env hc nd hA hE z h
  refine cmp2_el hc fun l r q ps h3 h4 h5 h7 => ?_
  refine Compare_chain (rs := []) (ops := []) (then_ (a h3 nd hA hE z h) fun o H' s₁ z' q => ?_) (last_of h7)
  refine chain_link (then_ (b h4 nd hA hE z' q) fun j H'' s₂ z'' q => ?_)
  refine wpAny_mono (p_cmp z'' hA q) (fun v s₃ q => ?_) fun _ _ x => x
  obtain ⟨c', rfl, z3, q⟩ := q
  refine wpAny_truthy_bool ?_
  cases c'
  · exact ⟨H'', z3, q⟩
  · exact chain_last (then_ (c h5 nd hA hE z3 q) fun w H4 s₄ z4 q => wpAny_mono (p_cmp z4 hA q) (fun v s₃ q => cmp_val q) fun _ _ x => x)
theorem sc_cmp2 {o' p' : CmpOp} {e f g : E} (a : SE G e) (b : SE G f) (c : SE G g) : SC G (.cmp2 o' p' e f g) := by
  intro ln n sc x fr T F H P A s env hc nd hA hE z h
  refine cmp2_el hc fun l r q ps h3 h4 h5 h7 => ?_
  refine isTrue_chain (rs := []) (ops := []) (then_ (a h3 nd hA hE z h) fun o H' s₁ z' q => ?_) (last_of h7)
  refine test_link (then_ (b h4 nd hA hE z' q) fun j H'' s₂ z'' q => ?_)
  refine wpAny_mono (p_cmp z'' hA q) (fun v s₃ q => ?_) fun _ _ x => x
  obtain ⟨c', rfl, z3, q⟩ := q
  refine wpAny_truthy_bool ?_
  cases c'
  · exact ⟨H'', z3, q⟩
  · exact test_last (then_ (c h5 nd hA hE z3 q) fun w H4 s₄ z4 q => wpAny_mono (p_cmp z4 hA q) (fun v s₃ q => cmp_fin q) fun _ _ x => x)
end
end Mine
end
-- part M15
section
open PySem PySem.Calls PyProof.Rows PySem.W Builtin Builtin.ObjectAttr
set_option maxHeartbeats 4000000
set_option maxRecDepth 100000
namespace Mine

section
variable {G : Gd} {ln : List Str} {P : Part} {env : Env} {fr : List V} {H : MH} {s : Shared} {n : Nat} {A : Around} {Q : V → MH → Prop}

noncomputable abbrev tf (T F : MH → Prop) : V → MH → Prop := fun v H => match v with | .bool b => (b = true → T H) ∧ (b = false → F H) | _ => False
theorem tf_truthy {T F : MH → Prop} {v : Value} {s' : Shared} (q : Po G ln P env fr (tf T F) v s') : wpAny (model G.prog G.w) A (truthy v) (Pb G ln P env fr T F) no s' := by
  obtain ⟨H', z, q⟩ := q
  cases v <;> first | exact False.elim q | skip
  rename_i b
  refine wpAny_truthy_bool ⟨H', z, ?_⟩
  cases b
  · exact q.2 rfl
  · exact q.1 rfl

theorem sl_nil_an : SAnd G .nil := by
  intro ln n sc xs fr Q H P A s env pos hc ne nd hA hE z h
  exact absurd (nil_inv hc) ne
theorem sl_nil_or : SOr G .nil := by
  intro ln n sc xs fr Q H P A s env pos hc ne nd hA hE z h
  exact absurd (nil_inv hc) ne
theorem sl_nil_ev : SEs G .nil := by
  intro ln n sc xs fr Q H P A s env hc nd hA hE z h
  exact isEmpty_el (m := fun xs => wpAny _ A (spliced (xs.map fun x => (false, eval x env))) _ no s) hc (Calls.spliced_nil ⟨H, z, h⟩)
theorem sl_nil_tr : SCs G .nil := by
  intro all ln n sc xs fr T F H P A s env hc nd hA hE z h
  refine isEmpty_el (m := fun xs => wpAny _ A (allTrue _ xs env) _ no s) hc ?_
  cases all <;> exact wpAny_pure ⟨H, z, h⟩
theorem nil_es {K : Frag} {sc : Scope} {es : Es} (hc : chkEs K ln sc es [] = true) : es = .nil := by
  cases es with
  | nil => rfl
  | cons e es => exact Bool.noConfusion (show false = true from hc)

theorem sl_cons_ev {e : E} {es : Es} (a : SE G e) (b : SEs G es) : SEs G (.cons e es) := by
  intro ln n sc xs fr Q H P A s env hc nd hA hE z h
  refine cons_el (m := fun xs => wpAny _ A (spliced (xs.map fun x => (false, eval x env))) _ no s) hc fun x r _ h1 h2 => ?_
  refine Calls.spliced_cons (then_ (a h1 nd hA hE z h) fun v H' s₁ z' q => ?_)
  exact wpAny_mono (b h2 nd hA hE z' q) (fun vs s₂ q => q) fun _ _ x => x
theorem bool_first {op : BoolOp} {x y : Expr} {r : List Expr} {pos : Pos} {K : Value → Shared → Prop} (h : wpAny (model G.prog G.w) A (eval x env) (fun v s₁ => wpAny (model G.prog G.w) A (truthy v) (fun t s₂ => match op, t with
      | .And, false | .Or, true => K v s₂
      | _, _ => wpAny (model G.prog G.w) A (boolOp pos op (evalEach (y :: r) env)) K no s₂) no s₁) no s) : wpAny (model G.prog G.w) A (boolOp pos op (evalEach (x :: y :: r) env)) K no s := by
  show wpAny _ _ (do
      let v ← eval x env
      standAt pos
      let t ← holding [v] (truthy v)
      match op, t with
      | .And, false | .Or, true => pure v
      | _, _ => boolOp pos op (evalEach (y :: r) env)) _ _ _
  refine wpAny_bind (wpAny_mono h (fun v s₁ q => wpAny_bind (wpAny_standAt (wpAny_bind (wpAny_holding (wpAny_mono q (fun t s₂ q => ?_) fun _ _ x => x))))) fun _ _ x => x)
  cases op <;> cases t <;> first | exact wpAny_pure q | exact q
theorem an_core {e : E} {es : Es} (a : SE G e) (b : SAnd G es) {ln : List Str} {n : Nat} {sc : Scope} {x : Expr} {r : List Expr} {fr : List V} {Q : V → MH → Prop} {H : MH} {P : Part} {A : Around} {s : Shared} {env : Env} {pos : Pos}
    (h1 : chkE G.K ln sc e x = true) (h2 : chkEs G.K ln sc es r = true) (nd : ln.Nodup) (hA : AOk n A) (hE : EnvOK sc env) (z : Sit G ln P env fr H s) (h : wAnd G ln n (.cons e es) fr Q H) :
    wpAny (model G.prog G.w) A (boolOp pos .And (evalEach (x :: r) env)) (Po G ln P env fr Q) no s := by
  cases r with
  | nil =>
    obtain rfl := nil_es h2
    show wpAny _ _ (eval x env) _ _ _
    refine then_ (a h1 nd hA hE z h) fun v H' s₁ z' q => ⟨H', z', ?_⟩
    cases e : V.of v <;> rw [e] at q <;> first | exact q.elim | skip
    rename_i c
    cases c
    · exact q.2 rfl
    · exact q.1 rfl
  | cons y r =>
    refine bool_first (then_ (a h1 nd hA hE z h) fun v H' s₁ z' q => ?_)
    cases e : V.of v <;> rw [e] at q <;> first | exact q.elim | skip
    rename_i c
    obtain rfl := of_bool e
    refine wpAny_truthy_bool ?_
    cases c
    · exact ⟨H', z', q.2 rfl⟩
    · exact b h2 (List.cons_ne_nil _ _) nd hA hE z' (q.1 rfl)
theorem sl_cons_an {e : E} {es : Es} (a : SE G e) (b : SAnd G es) : SAnd G (.cons e es) := by
  intro ln n sc xs fr Q H P A s env pos hc ne nd hA hE z h
  exact cons_el (m := fun xs => wpAny _ A (boolOp pos .And (evalEach xs env)) _ no s) hc fun x r _ h1 h2 => an_core a b h1 h2 nd hA hE z h
theorem or_core {e : E} {es : Es} (a : SE G e) (b : SOr G es) {ln : List Str} {n : Nat} {sc : Scope} {x : Expr} {r : List Expr} {fr : List V} {Q : V → MH → Prop} {H : MH} {P : Part} {A : Around} {s : Shared} {env : Env} {pos : Pos}
    (h1 : chkE G.K ln sc e x = true) (h2 : chkEs G.K ln sc es r = true) (nd : ln.Nodup) (hA : AOk n A) (hE : EnvOK sc env) (z : Sit G ln P env fr H s) (h : wOr G ln n (.cons e es) fr Q H) :
    wpAny (model G.prog G.w) A (boolOp pos .Or (evalEach (x :: r) env)) (Po G ln P env fr Q) no s := by
  cases r with
  | nil =>
    obtain rfl := nil_es h2
    show wpAny _ _ (eval x env) _ _ _
    refine then_ (a h1 nd hA hE z h) fun v H' s₁ z' q => ⟨H', z', ?_⟩
    cases e : V.of v <;> rw [e] at q <;> first | exact q.elim | skip
    rename_i c
    cases c
    · exact q.1 rfl
    · exact q.2 rfl
  | cons y r =>
    refine bool_first (then_ (a h1 nd hA hE z h) fun v H' s₁ z' q => ?_)
    cases e : V.of v <;> rw [e] at q <;> first | exact q.elim | skip
    rename_i c
    obtain rfl := of_bool e
    refine wpAny_truthy_bool ?_
    cases c
    · exact b h2 (List.cons_ne_nil _ _) nd hA hE z' (q.1 rfl)
    · exact ⟨H', z', q.2 rfl⟩
theorem sl_cons_or {e : E} {es : Es} (a : SE G e) (b : SOr G es) : SOr G (.cons e es) := by
  intro ln n sc xs fr Q H P A s env pos hc ne nd hA hE z h
  exact cons_el (m := fun xs => wpAny _ A (boolOp pos .Or (evalEach xs env)) _ no s) hc fun x r _ h1 h2 => or_core a b h1 h2 nd hA hE z h
theorem sl_cons_tr {e : E} {es : Es} (a : SC G e) (b : SCs G es) : SCs G (.cons e es) := by
  intro all ln n sc xs fr T F H P A s env hc nd hA hE z h
  refine cons_el (m := fun xs => wpAny _ A (allTrue _ xs env) _ no s) hc fun x r _ h1 h2 => ?_
  cases all with
  | true =>
    refine wpAny_allTrue_And_cons (then_ (a h1 nd hA hE z (h : wC G _ _ e _ _ _ _)) fun v H' s₁ z' q => ?_)
    cases v
    · exact ⟨H', z', q⟩
    · exact b h2 nd hA hE z' q
  | false =>
    refine wpAny_allTrue_Or_cons (then_ (a h1 nd hA hE z (h : wC G _ _ e _ _ _ _)) fun v H' s₁ z' q => ?_)
    cases v
    · exact b h2 nd hA hE z' q
    · exact ⟨H', z', q⟩
theorem sl_nil : SL G .nil := ⟨sl_nil_ev, sl_nil_an, sl_nil_or, sl_nil_tr⟩
theorem sl_cons {e : E} {es : Es} (a : SA G e) (b : SL G es) : SL G (.cons e es) := ⟨sl_cons_ev a.ev b.ev, sl_cons_an a.ev b.an, sl_cons_or a.ev b.or, sl_cons_tr a.tr b.tr⟩

@[elab_as_elim] theorem and_form {K : Frag} {sc : Scope} {m : Expr → Prop} {e : E} {es : Es} {x : Expr} (hc : chkE K ln sc (.and e es) x = true) (k : ∀ y xs p, chkE K ln sc e y = true → chkEs K ln sc es xs = true → m (.BoolOp .And (y :: xs) p)) : m x :=
  onBool_el hc fun o xs p hc => onCons_el hc fun y xs hc => and_el hc fun hc h2 => and_el hc fun h0 h1 => beq_el' h0 (m := fun o => m (.BoolOp o (y :: xs) p)) (k y xs p h1 h2)
@[elab_as_elim] theorem or_form {K : Frag} {sc : Scope} {m : Expr → Prop} {e : E} {es : Es} {x : Expr} (hc : chkE K ln sc (.or e es) x = true) (k : ∀ y xs p, chkE K ln sc e y = true → chkEs K ln sc es xs = true → m (.BoolOp .Or (y :: xs) p)) : m x :=
  onBool_el hc fun o xs p hc => onCons_el hc fun y xs hc => and_el hc fun hc h2 => and_el hc fun h0 h1 => beq_el' h0 (m := fun o => m (.BoolOp o (y :: xs) p)) (k y xs p h1 h2)
theorem se_and {e : E} {es : Es} (a : SA G e) (b : SL G es) : SE G (.and e es) := by
  intro ln n sc x fr Q H P A s env hc nd hA hE z h
  refine and_form hc fun x xs p h1 h2 => ?_
  rw [arm_eval_BoolOp]
  exact an_core a.ev b.an h1 h2 nd hA hE z h
theorem se_or {e : E} {es : Es} (a : SA G e) (b : SL G es) : SE G (.or e es) := by
  intro ln n sc x fr Q H P A s env hc nd hA hE z h
  refine or_form hc fun x xs p h1 h2 => ?_
  rw [arm_eval_BoolOp]
  exact or_core a.ev b.or h1 h2 nd hA hE z h
theorem sc_and {e : E} {es : Es} (a : SA G e) (b : SL G es) : SC G (.and e es) := by
  intro ln n sc x fr T F H P A s env hc nd hA hE z h
  refine and_form hc fun x xs p h1 h2 => ?_
  refine wpAny_isTrue_BoolOp (wpAny_allTrue_And_cons (then_ (a.tr h1 nd hA hE z h) fun v H' s₁ z' q => ?_))
  cases v
  · exact ⟨H', z', q⟩
  · exact b.tr (all := true) h2 nd hA hE z' q
theorem sc_or {e : E} {es : Es} (a : SA G e) (b : SL G es) : SC G (.or e es) := by
  intro ln n sc x fr T F H P A s env hc nd hA hE z h
  refine or_form hc fun x xs p h1 h2 => ?_
  refine wpAny_isTrue_BoolOp (wpAny_allTrue_Or_cons (then_ (a.tr h1 nd hA hE z h) fun v H' s₁ z' q => ?_))
  cases v
  · exact b.tr (all := false) h2 nd hA hE z' q
  · exact ⟨H', z', q⟩
theorem sc_not {e : E} (a : SA G e) : SC G (.not e) := by
  intro ln n sc x fr T F H P A s env hc nd hA hE z h
  refine onUn_el hc fun op y r hc => and_el hc fun h0 h1 => beq_el' h0 ?_
  refine wpAny_isTrue_Not (then_ (a.tr (T := F) (F := T) h1 nd hA hE z h) fun v H' s₁ z' q => ?_)
  cases v <;> exact ⟨H', z', q⟩
@[elab_as_elim] theorem ife_form {K : Frag} {sc : Scope} {m : Expr → Prop} {t a b : E} {x : Expr} (hc : chkE K ln sc (.ife t a b) x = true) (k : ∀ t' a' b' p, chkE K ln sc t t' = true → chkE K ln sc a a' = true → chkE K ln sc b b' = true → m (.IfExp t' a' b' p)) : m x :=
  onIf_el hc fun t' a' b' p hc => and_el hc fun hc h3 => and_el hc fun h1 h2 => k t' a' b' p h1 h2 h3
theorem se_ife {t f g : E} (a : SA G t) (b : SA G f) (c : SA G g) : SE G (.ife t f g) := by
  intro ln n sc x fr Q H P A s env hc nd hA hE z h
  refine ife_form hc fun t' a' b' p h1 h2 h3 => ?_
  refine wpAny_IfExp (then_ (a.tr h1 nd hA hE z h) fun v H' s₁ z' q => ?_)
  cases v
  · exact c.ev h3 nd hA hE z' q
  · exact b.ev h2 nd hA hE z' q
theorem sc_ife {t f g : E} (a : SA G t) (b : SA G f) (c : SA G g) : SC G (.ife t f g) := by
  intro ln n sc x fr T F H P A s env hc nd hA hE z h
  refine ife_form hc fun t' a' b' p h1 h2 h3 => ?_
  refine isTrue_IfExp (then_ (a.tr h1 nd hA hE z h) fun v H' s₁ z' q => ?_)
  cases v
  · exact c.tr h3 nd hA hE z' q
  · exact b.tr h2 nd hA hE z' q
theorem sc_loc {i : Nat} : SC G (.loc i) := by
  intro ln n sc x fr T F H P A s env hc nd hA hE z h
  have h' : wE G ln n (.loc i) fr (tf T F) H := by
    show good _ _
    have h' : tf T F (fr.getD i .odd) H := h
    cases e : fr.getD i .odd <;> rw [e] at h' <;> exact h'
  have q := se_loc hc nd hA hE z h'
  revert q
  exact onName_el hc fun y p _ q => wpAny_isTrue_value (wpAny_mono q (fun v s₁ q => tf_truthy q) fun _ _ x => x)

theorem p_call {f : FId} {vs : List Value} (hA : AOk n A) (z : Sit G ln P env fr H s) (w : WCall G n f (vs.map V.of) Q H) : wpAny (model G.prog G.w) A (call (.ref (fAddr G.K f)) vs) (Po G ln P env fr Q) no s := by
  refine wpAny_call (codeAny_mono (w _ _ _ vs hA.i z.lock rfl) fun r s' q => ?_)
  obtain ⟨v, H', rfl, st, hq⟩ := q
  exact ⟨H', z.unlock st, hq⟩
@[elab_as_elim] theorem call_form {K : Frag} {sc : Scope} {m : Expr → Prop} {x : Expr} {f : Str} {r : Str → List Expr → Bool} {t : Str → Bool} (hc : (onCall x fun g xs ks _ => onName g fun y _ => ks.isEmpty && f == y && t y && r y xs) = true)
    (k : ∀ xs p q, t f = true → r f xs = true → m (.Call (.Name f p) xs [] q)) : m x :=
  onCall_el hc fun g xs ks q hc => onName_el (em := fun g => m (.Call g xs ks q)) hc fun y p hc => and_el hc fun hc h3 => and_el hc fun hc h2 => and_el hc fun h0 h1 =>
    isEmpty_el (m := fun ks => m (.Call (.Name y p) xs ks q)) h0 (beq_el (m := fun y => t y = true → r y xs = true → m (.Call (.Name y p) xs [] q)) h1 (k xs p q) h2 h3)
theorem se_call {f : Str} {es : Es} (b : SL G es) : SE G (.call f es) := by
  intro ln n sc x fr Q H P A s env hc nd hA hE z h
  refine call_form (K := G.K) (sc := sc) (m := fun x => wpAny _ A (eval x env) _ no s) hc fun xs p q h2 h3 => ?_
  refine Call_ (e_fn hE z h2 fun hk => ?_)
  rw [chkEs_trees q es xs h3]
  exact call_K hk (then_ (b.ev h3 nd hA hE z h) fun vs H' s₁ z' q => ⟨z'.st.KI, p_call (f := .top f) hA z' q⟩)
theorem se_new {c : Nat} {es : Es} (b : SL G es) : SE G (.new c es) := by
  intro ln n sc x fr Q H P A s env hc nd hA hE z h
  refine call_form (K := G.K) (sc := sc) (m := fun x => wpAny _ A (eval x env) _ no s) hc fun xs p q h2 h3 => ?_
  obtain ⟨hc7, h⟩ : c < 7 ∧ wEs G ln n es fr (fun vs => WNew G n c vs Q) H := h
  refine Call_ (e_fn hE z h2 fun hk => ?_)
  rw [chkEs_trees q es xs h3]
  exact call_K hk (then_ (b.ev h3 nd hA hE z h) fun vs H' s₁ z' q => ⟨z'.st.KI, p_new hA hc7 z' q⟩)
theorem se_sup {c k : Nat} {es : Es} (b : SL G es) : SE G (.sup c k es) := by
  intro ln n sc x fr Q H P A s env hc nd hA hE z h
  refine onCall_el hc fun g xs ks p hc => onAttr_el hc fun g nme ap hc => onName_el hc fun y p' hc => and_el hc fun hc h7 => and_el hc fun hc h6 => and_el hc fun hc h5 => and_el hc fun hc _ => and_el hc fun hc h3 => and_el hc fun hc h2 => and_el hc fun h0 h1 => isEmpty_el h0 ?_
  obtain rfl := eq_of_beq h1
  obtain rfl := eq_of_beq h3
  obtain ⟨rfl, rfl, h⟩ : k = 24 ∧ c = 7 ∧ wEs G ln n es fr (fun vs => WCall G n (.meth c k) vs Q) H := h
  refine meth_call (base_plain rfl) (of_decide_eq_true h6) h7 (chkEs_trees p es xs h5) (e_fn hE z h2 fun hk pl => ?_)
  exact p_clsMethod z (call_K keep_sup (then_ (b.ev h5 nd hA hE z.toks h) fun vs H' s₁ z' q => ⟨z'.st.KI, p_call (f := .meth 7 24) hA z' q⟩))
theorem meth_core {k : Nat} {es : Es} {xs : List Expr} {p : Pos} {v : Value} {pl : Sem Bool} {sc : Scope} (b : SL G es) (h5 : chkEs G.K ln sc es xs = true) (nd : ln.Nodup) (hA : AOk n A) (hE : EnvOK sc env) (z : Sit G ln P env fr H s)
    (q : wMeth G n (V.of v) k (fun R => wEs G ln n es fr R) Q H) :
    wpAny (model G.prog G.w) A (getMethod v (nm k) pl) (fun fx s₂ => wpAny (model G.prog G.w) A (callWith p fx.1 fx.2 (xs.map fun x => (false, eval x env)) []) (Po G ln P env fr Q) no s₂) no s := by
  refine vRef_el (m := fun v => wpAny _ A (getMethod v (nm k) pl) _ no s) q fun ad q' => ?_
  clear q
  cases e : H ad with
  | none => rw [e] at q'; exact q'.elim
  | some mo =>
    rw [e] at q'
    cases mo with
    | inst c fs =>
      obtain ⟨h8, h9, h10, c', h11, q⟩ := q'
      exact p_getMethod z rfl e h8 h9 h10 h11 (call_K (keep_meth h8 h9 h11) (then_ (b.ev h5 nd hA hE z q) fun vs H2 s₂ z2 q => ⟨z2.st.KI, p_call (f := .meth c' k) (vs := .ref ad :: vs) hA z2 q⟩))
    | list xs =>
      obtain ⟨rfl, q⟩ := q'
      exact p_getMethod_append z e (call_B (then_ (b.ev h5 nd hA hE z q) fun vs H2 s₂ z2 q => hList_el q fun xs e1 q => a1_el (m := fun vs => wpAny _ A (call _ ([.ref ad] ++ vs)) _ no s₂) q fun w q => p_append z2 e1 q.1 q.2.2))
    | dict m f =>
      obtain ⟨rfl, q⟩ := q'
      exact p_getMethod_get z e (call_B (then_ (b.ev h5 nd hA hE z q) fun vs H2 s₂ z2 q => hDict_el q fun m f e1 q => a2_el (m := fun vs => wpAny _ A (call _ ([.ref ad] ++ vs)) _ no s₂) q fun i d q =>
        vInt_el (m := fun i => wpAny _ A (call _ ([.ref ad] ++ [i, d])) _ no s₂) q fun j t q => p_dictGet z2 e1 rfl q.2))
    | ro xs => exact q'.elim
    | tup xs => exact q'.elim
theorem se_meth {o : E} {k : Nat} {es : Es} (a : SA G o) (b : SL G es) : SE G (.meth o k es) := by
  intro ln n sc x fr Q H P A s env hc nd hA hE z h
  refine onCall_el hc fun g xs ks p hc => onAttr_el hc fun g nme ap hc => and_el hc fun hc h7 => and_el hc fun hc h6 => and_el hc fun hc h5 => and_el hc fun hc _ => and_el hc fun hc h3 => and_el hc fun hc h2 => and_el hc fun h0 h1 => isEmpty_el h0 (beq_el h3 ?_)
  exact meth_call (base_plain h2) (of_decide_eq_true h6) h7 (chkEs_trees p es xs h5) (then_ (a.ev h1 nd hA hE z h) fun v H' s₁ z' q pl => meth_core b h5 nd hA hE z' q)
theorem bi_two (f : Str) : (∃ id, biVal f = .builtin id) ∨ ∃ T, biVal f = .type T := by
  unfold biVal
  split
  · exact .inr ⟨_, rfl⟩
  · exact .inl ⟨_, rfl⟩
theorem se_bi {k : Nat} {es : Es} (b : SL G es) : SE G (.bi k es) := by
  intro ln n sc x fr Q H P A s env hc nd hA hE z h
  refine call_form (K := G.K) (sc := sc) (m := fun x => wpAny _ A (eval x env) _ no s) hc fun xs p q h2 h3 => ?_
  refine Call_ (e_bi hE z h2 ?_)
  rw [chkEs_trees q es xs h3]
  have fin : wpAny _ A (spliced (xs.map fun x => (false, eval x env))) (fun vs s₁ => wpAny _ A (call (biVal (biName k)) ([] ++ vs)) (Po G ln P env fr Q) no s₁) no s := then_ (b.ev h3 nd hA hE z h) fun vs H' s₁ z' q => p_bi z' hA q
  rcases bi_two (biName k) with ⟨id, e⟩ | ⟨T, e⟩
  · rw [e] at fin ⊢; exact call_B fin
  · rw [e] at fin ⊢; exact call_T fin

end
end Mine
end
-- part M16
section
open PySem PySem.Calls PyProof.Rows PySem.W Builtin Builtin.ObjectAttr
set_option maxHeartbeats 4000000
set_option maxRecDepth 100000
namespace Mine

section
variable {G : Gd} {ln : List Str} {P : Part} {env : Env} {fr : List V} {H : MH} {s : Shared} {n : Nat} {A : Around} {Q : V → MH → Prop}

theorem srcO_noSeq {o : Obj} {src : Src} (h : SrcO o src) : noSeq o := by
  intro xs k e
  cases src with
  | lst a i => exact Data.noConfusion (h.2.symm.trans e)
  | tup a i => exact Data.noConfusion (h.2.symm.trans e)
  | byt ys i => obtain ⟨b, t, _, h2, _⟩ := h; exact Data.noConfusion (h2.symm.trans e)
  | rng x l st => rw [show o = _ from h] at e; exact Data.noConfusion e

theorem Sit.keepNew (z : Sit G ln P env fr H s) {o : Obj} {t : Nat} (hf : o.isFreed = false) : Sit G ln (P.put s.heap.objs.size o) env fr H { s with heap := s.heap.push o, toks := t } :=
  ⟨z.st.keepNew hf, z.f.keeps fun _ _ _ e => Heap.get?_push_of_some _ e⟩
theorem Sit.base {a : Addr} {o : Obj} (z : Sit G ln (P.put a o) env fr H s) (hp : P a = none) (hb : ∀ b o', G.base.get? b = some o' → P b = some o') : G.base.get? a = none := by
  cases q : G.base.get? a with
  | none => rfl
  | some o' => rw [hb a o' q] at hp; cases hp
theorem Sit.ownPut {a : Addr} {o : Obj} (z : Sit G ln (P.put a o) env fr H s) : ¬ Own env a := fun w => by
  have := (z.st.own a w).1
  rw [Part.put_same] at this; cases this
theorem Sit.keptTurn {a : Addr} {o o' : Obj} {h' : Heap} {t : Nat} (z : Sit G ln (P.put a o) env fr H s) (pa : G.base.get? a = none) (n : noSeq o) (hs : Heap.ExtBut a s.heap h') (ho : h'.get? a = some o') : Sit G ln (P.put a o') env fr H { s with heap := h', toks := t } :=
  ⟨z.st.keptTurn pa n hs ho, z.f.keeps fun b w o e => hs b o (fun q => z.ownPut (q ▸ w)) e⟩
theorem Sit.drop {a : Addr} {o : Obj} (z : Sit G ln (P.put a o) env fr H s) (hp : P a = none) (hb : ∀ b o', G.base.get? b = some o' → P b = some o') : Sit G ln P env fr H s :=
  ⟨z.st.lessP (fun b o' e => by rw [Part.put_ne _ _ (fun q => by rw [q, hp] at e; cases e)]; exact e) hb, z.f⟩
theorem Sit.dropEnd {a : Addr} {o : Obj} {h' : Heap} {t : Nat} (z : Sit G ln (P.put a o) env fr H s) (hp : P a = none) (hb : ∀ b o', G.base.get? b = some o' → P b = some o') (n : noSeq o) (hs : Heap.ExtBut a s.heap h') :
    Sit G ln P env fr H { s with heap := h', toks := t } := by
  have st := z.st
  obtain ⟨D, d1, d2, d3⟩ := st.lay
  have hn : H a = none := st.noSeqNone (Part.put_same _ _ _) n
  have pn : ∀ {b o'}, P b = some o' → b ≠ a := fun e q => by rw [q, hp] at e; cases e
  refine ⟨⟨st.gens, st.os, hb, fun b o' e => hs _ _ (pn e) (st.prot b o' (by rw [Part.put_ne _ _ (pn e)]; exact e)), fun b o' mo e q => st.sep b o' mo (by rw [Part.put_ne _ _ (pn e)]; exact e) q, fun b w => ?_,
    D, fun b mo e => ?_, fun b c fs e => ?_, d3⟩, z.f.keeps fun b w o e => hs b o (fun q => z.ownPut (q ▸ w)) e⟩
  · obtain ⟨p, q, o₂, r, y⟩ := st.own b w
    have hba : b ≠ a := fun q => z.ownPut (q ▸ w)
    rw [Part.put_ne _ _ hba] at p
    exact ⟨p, q, o₂, hs _ _ hba r, y⟩
  · refine (d1 b mo e).keeps (fun v q => hs _ _ (fun h => by rw [h, hn] at e; cases e) q) (fun c fs hc => ⟨rfl, fun v q => hs _ _ (fun h => ?_) q⟩)
    subst hc
    have := (d2 b c fs e).1
    rw [h, Part.put_same] at this; cases this
  · obtain ⟨p, q, r⟩ := d2 b c fs e
    have hba : D b ≠ a := fun h => by rw [h, Part.put_same] at p; cases p
    rw [Part.put_ne _ _ hba] at p
    exact ⟨p, q, r⟩

theorem Sit.pb (z : Sit G ln P env fr H s) : ∀ b o', G.base.get? b = some o' → P b = some o' := z.st.pb

theorem iter_new {Q : Src → MH → Prop} {o : Obj} {src : Src} (z : Sit G ln P env fr H s) (h : SrcO o src) (hf : o.isFreed = false) (hq : Q src H) {t : Nat} :
    Ps G ln P env fr Q (.ref s.heap.objs.size) { s with heap := s.heap.push o, toks := t } := ⟨_, o, src, H, rfl, z.st.pNone, h, z.keepNew hf, hq⟩

theorem p_iter {v : Value} {Q : Src → MH → Prop} (z : Sit G ln P env fr H s) (h : srcOf (V.of v) Q H) : wpAny (model G.prog G.w) A (pyIter v) (Ps G ln P env fr Q) no s := by
  cases v <;> first | exact False.elim h | skip
  · rename_i b t
    exact KBw.pyIter_bytes (iter_new (src := .byt _ 0) z ⟨b, t, rfl, rfl, rfl⟩ rfl h)
  · rename_i a
    have h : (match H a with
      | some (.list _) | some (.ro _) => Q (.lst a 0) H
      | some (.tup _) => Q (.tup a 0) H
      | _ => False) := h
    cases e : H a with
    | none => rw [e] at h; exact h.elim
    | some m =>
      rw [e] at h
      cases m <;> first | exact h.elim | skip
      · obtain ⟨vs, q, r⟩ := z.list e
        exact wpAny_pyIter_list q.isList (iter_new (src := .lst a 0) z ⟨rfl, rfl⟩ rfl h)
      · obtain ⟨vs, q, r⟩ := z.ro e
        exact wpAny_pyIter_list q (iter_new (src := .lst a 0) z ⟨rfl, rfl⟩ rfl h)
      · obtain ⟨vs, q, r⟩ := z.tup e
        exact wpAny_pyIter_tuple (isTuple_of q) (iter_new (src := .tup a 0) z ⟨rfl, rfl⟩ rfl h)

theorem ext_of {a : Addr} {h h' : Heap} (x : Heap.SameBut a h h') : Heap.ExtBut a h h' := fun b o n e => (x.2 b n).trans e

theorem iter_self {it : Addr} {o : Obj} {src : Src} {R : Value → Shared → Prop} {E : Value → Shared → Prop} (z : Sit G ln (P.put it o) env fr H s) (ho : SrcO o src) (h : R (.ref it) s) : wpAny (model G.prog G.w) A (pyIter (.ref it)) R E s := by
  have hg := z.st.prot it o (Part.put_same _ _ _)
  cases src with
  | lst a i => exact wpAny_pyIter_listiter (l := a) (i := i) ⟨o, hg, ho.1, ho.2⟩ h
  | tup a i =>
    have hit : s.heap.IsTupleIter it a i := ⟨o, hg, ho.1, ho.2⟩
    refine wpAny_pyIter_slot hit.typeIs PySem.F.slot_tuple_iterator_iter (wpAny_call_entry PySem.F.slot_tuple_iterator_iter hit.typeIs PySem.F.entry_tuple_iterator_iter ?_ (PySem.F.args_tuple_iterator_iter_1 _))
    show wpAny _ _ (ret (.ref it)) _ _ s
    exact wpAny_pure ⟨_, rfl, "tuple_iterator", _, hit.typeIs, PySem.F.slot_tuple_iterator_next.lookup, h⟩
  | byt xs i =>
    obtain ⟨b, t, h1, h2, _⟩ := ho
    exact KBw.pyIter_self (b := b) (t := t) (i := i) ⟨o, hg, h1, h2⟩ h
  | rng x l st =>
    have hit : IsRangeIter s.heap it x l st := by rw [show o = _ from ho] at hg; exact hg
    have hT : s.TypeIs (.ref it) "range_iterator" := ⟨_, hit, rfl⟩
    refine wpAny_pyIter_slot hT PySem.F.slot_range_iterator_iter (wpAny_call_entry PySem.F.slot_range_iterator_iter hT PySem.F.entry_range_iterator_iter ?_ (PySem.F.args_range_iterator_iter_1 _))
    show wpAny _ _ (ret (.ref it)) _ _ s
    exact wpAny_pure ⟨_, rfl, "range_iterator", _, hT, PySem.F.slot_range_iterator_next.lookup, h⟩

noncomputable def PNext (G : Gd) (ln : List Str) (P : Part) (env : Env) (fr : List V) (H : MH) (it : Addr) : Option (V × Src) → Option Value → Shared → Prop
  | none, v, s' => v = none ∧ Sit G ln P env fr H s'
  | some (w, src'), v, s' => ∃ x o', v = some x ∧ V.of x = w ∧ SrcO o' src' ∧ Sit G ln (P.put it o') env fr H s'
theorem next_get {xs : List V} {vs : Array Value} (e : vs.toList.map V.of = xs) (i : Nat) : xs[i]? = (vs[i]?).map V.of := by rw [← e, List.getElem?_map, Array.getElem?_toList]
theorem p_next {it : Addr} {o : Obj} {src : Src} {r : Option (V × Src)} (z : Sit G ln (P.put it o) env fr H s) (hA : AOk n A) (hp : P it = none) (hb : ∀ b o', G.base.get? b = some o' → P b = some o') (ho : SrcO o src) (h : src.next H = some r) :
    wpAny (model G.prog G.w) A (pyNext (.ref it)) (PNext G ln P env fr H it r) no s := by
  have hg := z.st.prot it o (Part.put_same _ _ _)
  have base := z.base hp hb
  have ns := srcO_noSeq ho
  have listy : ∀ {a : Addr} {i : Nat} {xs : List V} {vs : Array Value}, s.heap.IsListIter it a i → s.heap.IsList a vs → vs.toList.map V.of = xs → r = (xs[i]?.map fun v => (v, Src.lst a (i + 1))) →
      wpAny (model G.prog G.w) A (pyNext (.ref it)) (PNext G ln P env fr H it r) no s := by
    intro a i xs vs hi hl e hr
    rw [hr, next_get e]
    cases q : vs[i]? with
    | none => exact wpAny_pyNext_list_end hA.hh hi hl q fun h' hs => ⟨rfl, z.dropEnd (t := s.toks) hp hb ns hs⟩
    | some x => exact wpAny_pyNext_list_item hi hl q fun h' ⟨o', g', c', d'⟩ hs => ⟨x, o', rfl, rfl, ⟨c', d'⟩, z.keptTurn (t := s.toks) base ns (ext_of hs) g'⟩
  cases src with
  | lst a i =>
    have h : (match H a with
      | some (.list xs) | some (.ro xs) => some (xs[i]?.map fun v => (v, Src.lst a (i + 1)))
      | _ => none) = some r := h
    have hi : s.heap.IsListIter it a i := ⟨o, hg, ho.1, ho.2⟩
    cases e : H a with
    | none => rw [e] at h; exact clash rfl h
    | some m =>
      rw [e] at h
      cases m <;> first | exact clash rfl h | skip
      · obtain ⟨vs, q, r⟩ := z.list e
        exact listy hi q.isList r (Option.some.inj h).symm
      · obtain ⟨vs, q, r⟩ := z.ro e
        exact listy hi q r (Option.some.inj h).symm
  | tup a i =>
    have h : (match H a with
      | some (.tup xs) => some (xs[i]?.map fun v => (v, Src.tup a (i + 1)))
      | _ => none) = some r := h
    have hi : s.heap.IsTupleIter it a i := ⟨o, hg, ho.1, ho.2⟩
    cases e : H a with
    | none => rw [e] at h; exact clash rfl h
    | some m =>
      rw [e] at h
      cases m <;> first | exact clash rfl h | skip
      obtain ⟨vs, hl, e⟩ := z.tup e
      rw [← Option.some.inj h, next_get e]
      cases q : vs[i]? with
      | none => exact wpAny_pyNext_tuple_end hA.hh hi (isTuple_of hl) q fun h' hs => ⟨rfl, z.dropEnd (t := s.toks) hp hb ns hs⟩
      | some x => exact wpAny_pyNext_tuple_item hi (isTuple_of hl) q fun h' ⟨o', g', c', d'⟩ hs => ⟨x, o', rfl, rfl, ⟨c', d'⟩, z.keptTurn (t := s.toks) base ns (ext_of hs) g'⟩
  | byt xs i =>
    obtain ⟨b, t, h1, h2, e⟩ := ho
    have hi : KBw.IsBytesIter s.heap it b t i := ⟨o, hg, h1, h2⟩
    have hx : xs[i]? = (b[i]?).map (fun c => (c.toNat : Int)) := by rw [← e, List.getElem?_map, Array.getElem?_toList]
    rw [← Option.some.inj (show some _ = some r from h), hx]
    cases q : b[i]? with
    | none => exact KBw.next_end hA.hh hi q fun h' hs => ⟨rfl, z.dropEnd (t := s.toks) hp hb ns hs⟩
    | some x => exact KBw.next_item hi q fun h' ⟨o', g', c', d'⟩ hs => ⟨_, o', rfl, rfl, ⟨b, t, c', d', e⟩, z.keptTurn (t := s.toks + 1) base ns (ext_of hs) g'⟩
  | rng x l st =>
    have hi : IsRangeIter s.heap it x l st := by rw [show o = _ from ho] at hg; exact hg
    cases l with
    | zero =>
      rw [← Option.some.inj (show some _ = some r from h)]
      exact wpAny_pyNext_range_end hA.hh hi (by simp) fun h' hs => ⟨rfl, z.dropEnd (t := s.toks) hp hb ns hs⟩
    | succ k =>
      rw [← Option.some.inj (show some _ = some r from h)]
      refine wpAny_pyNext_range_item hi (by exact Int.ofNat_le.mpr (by lia)) fun h' g' hs => ⟨_, _, rfl, rfl, ?_, z.keptTurn (t := s.toks + 1) base ns (ext_of hs) g'⟩
      show _ = _
      have : ((k + 1 : Nat) : Int) - 1 = (k : Int) := by lia
      rw [this]

theorem small_nat {a b : Int} (ha : rsm a) (hb : rsm b) : Builtin.Range.small a b 1 = true := small_one (by have := ha.1; lia) (by have := ha.2; omega) (by have := hb.1; lia) (by have := hb.2; omega)
theorem rangeSize_back (a b : Int) : Builtin.Range.rangeSize a b (-1) = ((a - b).toNat : Int) := by
  unfold Builtin.Range.rangeSize
  rw [if_neg (by decide)]
  simp only [show (-(-1) : Int) = 1 by decide, Int.ediv_one]
  split <;> lia
theorem small_back {a b : Int} (ha : rsm a) (hb : rsm b) : Builtin.Range.small a b (-1) = true := by
  obtain ⟨a1, a2⟩ := ha
  obtain ⟨b1, b2⟩ := hb
  unfold Builtin.Range.small
  rw [rangeSize_back]
  simp only [Builtin.Range.rangeFitsLong, Bool.and_eq_true, Bool.or_eq_true, decide_eq_true_eq, beq_iff_eq, show ¬ (-1 : Int) > 0 by decide, if_false]
  refine ⟨⟨⟨⟨⟨by lia, by lia⟩, by lia, by lia⟩, by decide, by decide⟩, by exact Int.natCast_nonneg _, by lia⟩, .inr ⟨by lia, by lia⟩⟩
theorem rng_iter {a b c : Int} {l : Nat} {h' : Heap} {tk : Nat} {t u v : Tok} {Q : Src → MH → Prop} (z : Sit G ln P env fr H { s with heap := h', toks := tk }) {r : Addr} (hr : IsRange h' r a b c t u v) (hs : Builtin.Range.small a b c = true) (hl : Builtin.Range.rangeSize a b c = (l : Int))
    (h : Q (.rng a l c) H) : wpAny (model G.prog G.w) A (pyIter (.ref r)) (Ps G ln P env fr Q) no { s with heap := h', toks := tk } := by
  refine wpAny_pyIter_range (s := { s with heap := h', toks := tk }) hr hs ?_
  rw [hl]
  exact iter_new (src := .rng a l c) (s := { s with heap := h', toks := tk }) z rfl rfl h
theorem p_range {vs : List Value} {Q : Src → MH → Prop} (z : Sit G ln P env fr H s) (h : wRng (vs.map V.of) Q H) : wpAny (model G.prog G.w) A (call (.type "range") vs) (fun v s₁ => wpAny (model G.prog G.w) A (pyIter v) (Ps G ln P env fr Q) no s₁) no s := by
  rcases vs with _ | ⟨v, vs⟩
  · exact h.elim
  refine vInt_el (m := fun v => wpAny _ A (call _ (v :: vs)) _ no s) h fun a t1 h => ?_
  rcases vs with _ | ⟨v, vs⟩
  · have hr := small_nat (show rsm 0 from ⟨by decide, by decide⟩) h.1
    refine call_range_1 (rng_iter (l := a.toNat) ?_ (IsRange.new ..) hr ?_ h.2)
    · exact z.heap fun _ _ e => Heap.get?_push_of_some _ e
    · rw [rangeSize_nat]; simp
  refine vInt_el (m := fun v => wpAny _ A (call _ (.int a t1 :: v :: vs)) _ no s) h fun b t2 h => ?_
  rcases vs with _ | ⟨v, vs⟩
  · refine call_range_2 (rng_iter ?_ (IsRange.new ..) (small_nat h.1 h.2.1) (rangeSize_nat _ _) h.2.2)
    exact z.heap fun _ _ e => Heap.get?_push_of_some _ e
  refine vInt_el (m := fun v => wpAny _ A (call _ (.int a t1 :: .int b t2 :: v :: vs)) _ no s) h fun c t3 h => ?_
  rcases vs with _ | ⟨v, vs⟩
  · obtain ⟨q1, q2, rfl, q3⟩ := h
    refine call_range_3 (by decide) (rng_iter ?_ (IsRange.new ..) (small_back q1 q2) (rangeSize_back _ _) q3) (.inl (PyProof.noPylong_small (by decide)))
    exact z.heap fun _ _ e => Heap.get?_push_of_some _ e
  · exact h.elim
theorem ssrc_bi {k : Nat} {es : Es} (b : SL G es) : SSrc G (.bi k es) := by
  intro ln n sc x fr Q H P A s env hc nd hA hE z h
  rcases k with _ | _ | _ | _ | _ | _ | _ | _ | k <;> first | exact False.elim h | skip
  refine call_form (K := G.K) (sc := sc) (m := fun x => wpAny _ A (eval x env) _ no s) hc fun xs p q h2 h3 => ?_
  rw [bv_range] at h2
  refine Call_ (e_bi hE z h2 ?_)
  rw [chkEs_trees q es xs h3]
  exact call_T (then_ (b.ev h3 nd hA hE z h) fun vs H' s₁ z' q => p_range z' q)
theorem ssrc_of {e : E} (a : SE G e) {sc : Scope} {x : Expr} {Q : Src → MH → Prop} (hc : chkE G.K ln sc e x = true) (nd : ln.Nodup) (hA : AOk n A) (hE : EnvOK sc env) (z : Sit G ln P env fr H s)
    (h : wE G ln n e fr (fun v => srcOf v Q) H) : wpAny (model G.prog G.w) A (eval x env) (fun v s₁ => wpAny (model G.prog G.w) A (pyIter v) (Ps G ln P env fr Q) no s₁) no s :=
  wpAny_mono (a hc nd hA hE z h) (fun v s₁ q => let ⟨H', z', q⟩ := q; p_iter z' q) fun _ _ x => x
theorem ssrc_loc {i : Nat} : SSrc G (.loc i) := by
  intro ln n sc x fr Q H P A s env hc nd hA hE z h
  refine ssrc_of se_loc hc nd hA hE z ?_
  have h' : srcOf (fr.getD i .odd) Q H := h
  show good _ _
  cases e : fr.getD i .odd with
  | odd => rw [e] at h'; exact h'.elim
  | _ => rw [e] at h'; exact h'
theorem ssrc_attr {e : E} {k : Nat} (a : SA G e) : SSrc G (.attr e k) := by
  intro ln n sc x fr Q H P A s env hc nd hA hE z h
  exact ssrc_of (se_attr a.ev) hc nd hA hE z h
theorem ssrc_slice {e lo hi : E} (a : SA G e) (b : SA G lo) (c : SA G hi) : SSrc G (.slice e lo hi) := by
  intro ln n sc x fr Q H P A s env hc nd hA hE z h
  exact ssrc_of (se_slice a.ev b.ev c.ev) hc nd hA hE z h
theorem ssrc_meth {o : E} {k : Nat} {es : Es} (a : SA G o) (b : SL G es) : SSrc G (.meth o k es) := by
  intro ln n sc x fr Q H P A s env hc nd hA hE z h
  exact ssrc_of (se_meth a b) hc nd hA hE z h

theorem sc_call {f : Str} {es : Es} (b : SL G es) : SC G (.call f es) := by
  intro ln n sc x fr T F H P A s env hc nd hA hE z h
  have q := se_call b (Q := tf T F) hc nd hA hE z h
  revert q
  exact onCall_el hc fun g xs ks p _ q => wpAny_isTrue_value (wpAny_mono q (fun v s₁ q => tf_truthy q) fun _ _ x => x)
theorem sc_meth {o : E} {k : Nat} {es : Es} (a : SA G o) (b : SL G es) : SC G (.meth o k es) := by
  intro ln n sc x fr T F H P A s env hc nd hA hE z h
  have q := se_meth a b (Q := tf T F) hc nd hA hE z h
  revert q
  exact onCall_el hc fun g xs ks p _ q => wpAny_isTrue_value (wpAny_mono q (fun v s₁ q => tf_truthy q) fun _ _ x => x)

theorem se_list {es : Es} (b : SL G es) : SE G (.list es) := by
  intro ln n sc x fr Q H P A s env hc nd hA hE z h
  refine onList_el hc fun xs p hc => List_ ?_
  rw [chkEs_trees p es xs hc]
  exact then_ (b.ev hc nd hA hE z h) fun vs H' s₁ z' q => wpAny_newList ⟨_, z'.newList (by rw [List.toList_toArray]), q.2 _ z'.hNone⟩ (by rw [← List.length_map (f := V.of)]; exact q.1)
theorem se_tup {es : Es} (b : SL G es) : SE G (.tup es) := by
  intro ln n sc x fr Q H P A s env hc nd hA hE z h
  refine onTuple_el hc fun xs k p hc => Tuple_ ?_
  rw [chkEs_trees p es xs hc]
  exact then_ (b.ev hc nd hA hE z h) fun vs H' s₁ z' q => wpAny_newTuple ⟨_, z'.newTup (by rw [List.toList_toArray]), q.2 _ z'.hNone⟩ (by rw [← List.length_map (f := V.of)]; exact q.1)
theorem se_dict0 : SE G .dict0 := by
  intro ln n sc x fr Q H P A s env hc nd hA hE z h
  refine onDict_el hc fun ks vs p hc => and_el hc fun h1 h2 => isEmpty_el h1 (isEmpty_el h2 ?_)
  rw [PySem.eval_Dict_empty]
  refine wpAny_bind (wpAny_standAt ?_)
  unfold newDict
  refine wpAny_newObj_type ?_ (by show _ ≤ _; decide)
  have hsz : s.heap.objs.size ≠ sysModules := by
    obtain ⟨o, es, ep, ho, _⟩ := z.st.mg
    have h3 : 3 < s.heap.objs.size := Heap.lt_size ho
    intro q
    have h4 : s.heap.objs.size = 1 := q
    lia
  exact ⟨_, z.new (mo := .dict 0 fun _ => none) (t := s.toks) rfl (fun _ _ => nofun) (fun D => ⟨_, ⟨_, Heap.get?_push_size _ rfl, rfl⟩, Heap.IntMap.new _, Heap.DictLe.new _, fun _ => rfl, hsz⟩), h _ z.hNone⟩
end
end Mine
end
-- part M17
section
open PySem PySem.Calls PyProof.Rows PySem.W Builtin Builtin.ObjectAttr
set_option maxHeartbeats 4000000
set_option maxRecDepth 100000
namespace Mine

section
variable {G : Gd} {ln : List Str} {P : Part} {env : Env} {fr : List V} {H : MH} {s : Shared} {n : Nat} {A : Around} {Q : V → MH → Prop}

@[elab_as_elim] theorem ne_form {K : Frag} {sc : Scope} {m : Expr → Prop} {e : E} {x : Expr} (hc : chkE K ln sc (.nonEmpty e) x = true) (k : ∀ l p q, chkE K ln sc e l = true → m (.Compare l [.NotEq] [.List [] q] p)) : m x :=
  onCmp_el hc fun l os rs p hc => on1_el hc fun o hc => on1_el hc fun r hc => onList_el (em := fun r => m (.Compare l [o] [r] p)) hc fun es q hc => and_el hc fun hc h1 => and_el hc fun h2 h3 =>
    isEmpty_el (m := fun es => m (.Compare l [o] [.List es q] p)) h3 (beq_el' (m := fun o => m (.Compare l [o] [.List [] q] p)) h2 (k l p q h1))
theorem ne_core {e : E} (a : SA G e) {sc : Scope} {l : Expr} {q : Pos} {R : V → MH → Prop} {K : Value → Shared → Prop} (h1 : chkE G.K ln sc e l = true) (nd : ln.Nodup) (hA : AOk n A) (hE : EnvOK sc env) (z : Sit G ln P env fr H s) (h : wE G ln n e fr R H)
    (hk : ∀ v H' s', Sit G ln P env fr H' s' → R (V.of v) H' → ∃ a xs, v = .ref a ∧ H' a = some (.list xs) ∧ ∀ s'', Sit G ln P env fr H' s'' → K (.bool (!xs.isEmpty)) s'') :
    wpAny (model G.prog G.w) A (eval l env) (fun a s₁ => wpAny (model G.prog G.w) A (eval (.List [] q) env) (fun b s₂ => wpAny (model G.prog G.w) A (compareOp .NotEq a b) K no s₂) no s₁) no s := by
  refine then_ (a.ev h1 nd hA hE z h) fun v H' s₁ z' w => ?_
  obtain ⟨ad, xs, rfl, e, hk⟩ := hk v H' s₁ z' w
  refine List_ (Calls.spliced_nil (wpAny_newList ?_))
  have z2 := z'.push { cls := .type "list", data := .seq ([] : List Value).toArray } (t := s₁.toks)
  exact p_nonEmpty z2 hA e ⟨_, Heap.get?_push_size _ rfl, rfl, _, rfl⟩ (hk _ z2)
theorem se_nonEmpty {e : E} (a : SA G e) : SE G (.nonEmpty e) := by
  intro ln n sc x fr Q H P A s env hc nd hA hE z h
  refine ne_form hc fun l p q h1 => wpAny_Compare1 (ne_core a h1 nd hA hE z h fun v H' s' z' w => ?_) rfl
  cases v <;> first | exact False.elim w | skip
  rename_i ad
  have w : (match H' ad with | some (.list xs) => Q (.bool (!xs.isEmpty)) H' | _ => False) := w
  cases e : H' ad with
  | none => rw [e] at w; exact w.elim
  | some m =>
    rw [e] at w
    cases m <;> first | exact w.elim | exact ⟨ad, _, rfl, e, fun s'' z'' => ⟨H', z'', w⟩⟩
theorem sc_nonEmpty {e : E} (a : SA G e) : SC G (.nonEmpty e) := by
  intro ln n sc x fr T F H P A s env hc nd hA hE z h
  refine ne_form hc fun l p q h1 => wpAny_isTrue_Compare1 (ne_core a h1 nd hA hE z h fun v H' s' z' w => ?_) rfl
  cases v <;> first | exact False.elim w | skip
  rename_i ad
  have w : (match H' ad with | some (.list xs) => (xs ≠ [] → T H') ∧ (xs = [] → F H') | _ => False) := w
  cases e : H' ad with
  | none => rw [e] at w; exact w.elim
  | some m =>
    rw [e] at w
    cases m <;> first | exact w.elim | skip
    rename_i xs
    refine ⟨ad, xs, rfl, e, fun s'' z'' => wpAny_truthy_bool ⟨H', z'', ?_⟩⟩
    cases xs with
    | nil => exact w.2 rfl
    | cons x r => exact w.1 (List.cons_ne_nil _ _)

@[elab_as_elim] theorem eqp_form {K : Frag} {sc : Scope} {m : Expr → Prop} {e : E} {i j : Int} {x : Expr} (hc : chkE K ln sc (.eqPair e i j) x = true)
    (k : ∀ l p q n k1 k2 p1 p2, chkE K ln sc e l = true → m (.Compare l [.Eq] [.Tuple [.Constant (.int i) k1 p1, .Constant (.int j) k2 p2] n q] p)) : m x :=
  onCmp_el hc fun l os rs p hc => on1_el hc fun o hc => on1_el hc fun r hc => onTuple_el (em := fun r => m (.Compare l [o] [r] p)) hc fun es n q hc => onCons_el (m := fun es => m (.Compare l [o] [.Tuple es n q] p)) hc fun c1 es hc =>
    on1_el (m := fun es => m (.Compare l [o] [.Tuple (c1 :: es) n q] p)) hc fun c2 hc => onConst_el (em := fun c1 => m (.Compare l [o] [.Tuple [c1, c2] n q] p)) hc fun d1 k1 p1 hc =>
    onConst_el (em := fun c2 => m (.Compare l [o] [.Tuple [.Constant d1 k1 p1, c2] n q] p)) hc fun d2 k2 p2 hc => onCi_el (cm := fun d1 => m (.Compare l [o] [.Tuple [.Constant d1 k1 p1, .Constant d2 k2 p2] n q] p)) hc fun i' hc =>
    onCi_el (cm := fun d2 => m (.Compare l [o] [.Tuple [.Constant (.int i') k1 p1, .Constant d2 k2 p2] n q] p)) hc fun j' hc => and_el hc fun hc h4 => and_el hc fun hc h3 => and_el hc fun h1 h2 =>
    beq_el' (m := fun o => m (.Compare l [o] [.Tuple [.Constant (.int i') k1 p1, .Constant (.int j') k2 p2] n q] p)) h1
      (beq_el (m := fun i' => m (.Compare l [.Eq] [.Tuple [.Constant (.int i') k1 p1, .Constant (.int j') k2 p2] n q] p)) h3
        (beq_el (m := fun j' => m (.Compare l [.Eq] [.Tuple [.Constant (.int i) k1 p1, .Constant (.int j') k2 p2] n q] p)) h4 (k l p q n k1 k2 p1 p2 h2)))
theorem eqp_core {e : E} (a : SA G e) {sc : Scope} {l : Expr} {q : Pos} {x y : Int} {m k1 k2 : Nat} {p1 p2 : Pos} {R : V → MH → Prop} {K : Value → Shared → Prop} (h1 : chkE G.K ln sc e l = true) (nd : ln.Nodup) (hA : AOk n A) (hE : EnvOK sc env) (z : Sit G ln P env fr H s) (h : wE G ln n e fr R H)
    (hk : ∀ v H' s', Sit G ln P env fr H' s' → R (V.of v) H' → ∃ a i j, v = .ref a ∧ H' a = some (.tup [.int i, .int j]) ∧ ∀ s'', Sit G ln P env fr H' s'' → K (.bool (i == x && j == y)) s'') :
    wpAny (model G.prog G.w) A (eval l env) (fun a s₁ => wpAny (model G.prog G.w) A (eval (.Tuple [.Constant (.int x) k1 p1, .Constant (.int y) k2 p2] m q) env) (fun b s₂ => wpAny (model G.prog G.w) A (compareOp .Eq a b) K no s₂) no s₁) no s := by
  refine then_ (a.ev h1 nd hA hE z h) fun v H' s₁ z' w => ?_
  obtain ⟨ad, i, j, rfl, e, hk⟩ := hk v H' s₁ z' w
  refine Tuple_ (Calls.spliced_cons (wpAny_Constant_int (k := k1) (pos := p1) (Calls.spliced_cons (wpAny_Constant_int (k := k2) (pos := p2) (Calls.spliced_nil (wpAny_newTuple ?_))))))
  have z2 := z'.push { cls := .type "tuple", data := .seq [Value.int x s₁.toks, .int y (s₁.toks + 1)].toArray } (t := s₁.toks + 1 + 1)
  exact p_eqPair z2 hA e ⟨_, Heap.get?_push_size _ rfl, rfl, _, rfl⟩ (hk _ z2)
theorem pair_inv {o : Option MO} {q : Int → Int → Prop} (w : match o with | some (.tup [.int i, .int j]) => q i j | _ => False) : ∃ i j, o = some (.tup [.int i, .int j]) ∧ q i j := by
  rcases o with _ | m
  · exact w.elim
  cases m <;> first | exact w.elim | skip
  rename_i xs
  rcases xs with _ | ⟨x, xs⟩
  · exact w.elim
  rcases xs with _ | ⟨y, xs⟩
  · cases x <;> exact w.elim
  cases x <;> first | exact w.elim | skip
  cases y <;> first | exact w.elim | skip
  rcases xs with _ | ⟨_, _⟩
  · exact ⟨_, _, rfl, w⟩
  · exact w.elim
theorem se_eqPair {e : E} {i j : Int} (a : SA G e) : SE G (.eqPair e i j) := by
  intro ln n sc x fr Q H P A s env hc nd hA hE z h
  refine eqp_form hc fun l p q m k1 k2 p1 p2 h1 => wpAny_Compare1 (eqp_core a h1 nd hA hE z h fun v H' s' z' w => ?_) rfl
  cases v <;> first | exact False.elim w | skip
  obtain ⟨i', j', e, w⟩ := pair_inv w
  exact ⟨_, i', j', rfl, e, fun s'' z'' => ⟨H', z'', w⟩⟩
theorem sc_eqPair {e : E} {i j : Int} (a : SA G e) : SC G (.eqPair e i j) := by
  intro ln n sc x fr T F H P A s env hc nd hA hE z h
  refine eqp_form hc fun l p q m k1 k2 p1 p2 h1 => wpAny_isTrue_Compare1 (eqp_core a h1 nd hA hE z h fun v H' s' z' w => ?_) rfl
  cases v <;> first | exact False.elim w | skip
  obtain ⟨i', j', e, w⟩ := pair_inv (q := fun i' j' => ((i' = i ∧ j' = j) → T H') ∧ (¬ (i' = i ∧ j' = j) → F H')) w
  refine ⟨_, i', j', rfl, e, fun s'' z'' => wpAny_truthy_bool ⟨H', z'', ?_⟩⟩
  cases q1 : i' == i with
  | false => exact w.2 fun q => by rw [q.1, beq_self_eq_true] at q1; cases q1
  | true =>
    cases q2 : j' == j with
    | false => exact w.2 fun q => by rw [q.2, beq_self_eq_true] at q2; cases q2
    | true => exact w.1 ⟨eq_of_beq q1, eq_of_beq q2⟩

theorem se_pick {es : Es} {e : E} (b : SL G es) (a : SA G e) : SE G (.pick es e) := by
  intro ln n sc x fr Q H P A s env hc nd hA hE z h
  refine onSub_el hc fun f j p hc => onList_el hc fun xs q hc => and_el hc fun hc h3 => and_el hc fun h1 h2 => Subscript_ (List_ ?_)
  rw [chkEs_trees q es xs h1]
  refine then_ (b.ev h1 nd hA hE z h) fun vs H' s₁ z' w => ?_
  obtain ⟨hz, w⟩ := w
  have zk := z'.keepNew (o := { cls := .type "list", data := .seq vs.toArray }) (t := s₁.toks) rfl
  refine wpAny_newList (then_ (a.ev h2 nd hA hE zk w) fun v H2 s₂ z2 w => ?_) (by rw [List.length_map] at hz; exact hz)
  have hb : big = 16777216 := rfl
  have hl : s₂.heap.IsList s₁.heap.objs.size vs.toArray := ⟨_, z2.st.prot _ _ (Part.put_same _ _ _), rfl, _, rfl⟩
  cases v <;> first | exact False.elim w | skip
  rename_i k t
  obtain ⟨h0, y, hy, w⟩ := w
  obtain ⟨x, hx, rfl⟩ := getElem_of (vs := vs.toArray) (by rw [List.toList_toArray]) hy
  have hlt : k.toNat < (vs.map V.of).length := (List.getElem?_eq_some_iff.mp hy).1
  exact tail_any hl.typeIs slot_list_getitem.lookup (wpAny_getItem_list hl h0 (by lia) hx ⟨H2, z2.drop z'.st.pNone z'.pb, w⟩) (subscripted_plain h3 _ _)
end
end Mine
end
-- part M18
section
open PySem PySem.Calls PyProof.Rows PySem.W Builtin Builtin.ObjectAttr
set_option maxHeartbeats 4000000
set_option maxRecDepth 100000
namespace Mine

structure CS (ln : List Str) (sc cs : Scope) (t : Nat) (y : Str) : Prop where
  kind : cs.kind = .function
  dot : (".0" : Str) ∉ ln
  look : ∀ x ∈ cs.names, cs.names.lookup x.1 = some x.2
  kinds : ∀ x ∈ cs.names, compKind sc y x.1 x.2 = true
  one : (cs.names.filter (·.2 == .cell)).length ≤ 1
  tgt : isLoc ln cs t y = true
theorem cs_of {ln : List Str} {sc cs : Scope} {t : Nat} {y : Str} (h : compScOk ln sc cs t y = true) : CS ln sc cs t y := by
  unfold compScOk at h
  simp only [Bool.and_eq_true, beq_iff_eq, Bool.not_eq_true', decide_eq_true_iff, List.all_eq_true] at h
  obtain ⟨⟨⟨⟨⟨⟨h1, h2⟩, h3⟩, _⟩, _⟩, h4⟩, h5⟩ := h
  exact ⟨h1, by simpa using h2, fun x hx => (h3 x hx).1, fun x hx => (h3 x hx).2, h4, h5⟩

theorem lookup_mapKind (g : Str → NameKind → NameKind) : ∀ (names : List (Str × NameKind)) (x : Str), (names.map fun p => (p.1, g p.1 p.2)).lookup x = (names.lookup x).map (g x)
  | [], _ => rfl
  | (n, k) :: r, x => by
    rw [List.map_cons, List.lookup_cons, List.lookup_cons]
    cases h : x == n with
    | true => rw [eq_of_beq h]; rfl
    | false => exact lookup_mapKind g r x
theorem compScope_lookup (sc cs : Scope) (x : Str) : (compScope sc cs).names.lookup x = (cs.names.lookup x).map fun k => if (k == .free && sc.kind == .function && sc.names.lookup x == some .cell) = true then .cell else k := by
  have e : (compScope sc cs).names = cs.names.map fun p => (p.1, (fun n k => if (k == NameKind.free && sc.kind == .function && sc.names.lookup n == some .cell) = true then NameKind.cell else k) p.1 p.2) := by
    unfold compScope
    refine List.map_congr_left fun p _ => ?_
    obtain ⟨n, k⟩ := p
    dsimp only
    split <;> rfl
  rw [e]; exact lookup_mapKind (fun n k => if (k == NameKind.free && sc.kind == .function && sc.names.lookup n == some .cell) = true then NameKind.cell else k) _ _
theorem comp_local {sc cs : Scope} {x : Str} (h : (compScope sc cs).names.lookup x = some .local) : cs.names.lookup x = some .local := by
  rw [compScope_lookup, Option.map_eq_some_iff] at h
  obtain ⟨k, h1, h2⟩ := h
  split at h2
  · cases h2
  · rw [h1, h2]
theorem comp_cell {sc cs : Scope} {x : Str} (h : (compScope sc cs).names.lookup x = some .cell) : cs.names.lookup x = some .cell ∨ (cs.names.lookup x = some .free ∧ sc.names.lookup x = some .cell) := by
  rw [compScope_lookup, Option.map_eq_some_iff] at h
  obtain ⟨k, h1, h2⟩ := h
  split at h2
  · rename_i q
    simp only [Bool.and_eq_true, beq_iff_eq] at q
    rw [q.1.1] at h1
    exact .inr ⟨h1, q.2⟩
  · rw [h1, h2]; exact .inl rfl

section
variable {M : Model} {A : Around} {E : Value → Shared → Prop} {s : Shared}

theorem closure_go {env : Env} (f : Str × NameKind → List (Str × Addr) → Sem (ForInStep (List (Str × Addr))))
    (hf : ∀ name kind cs, f (name, kind) cs = if kind == .free then (do let a ← cellOf env name; pure (.yield ((name, a) :: cs))) else pure (.yield cs)) :
    ∀ (names : List (Str × NameKind)) (acc : List (Str × Addr)), (∀ n, (n, .free) ∈ names → ∃ c, env.cells.lookup n = some c) →
      ∃ cl, forIn names acc f = pure cl ∧ (∀ x c, cl.lookup x = some c → (env.cells.lookup x = some c ∧ (x, .free) ∈ names) ∨ acc.lookup x = some c) ∧ (∀ x, (x, .free) ∈ names ∨ ((acc.lookup x).isSome ∧ acc.lookup x = env.cells.lookup x) → cl.lookup x = env.cells.lookup x)
  | [], acc, _ => ⟨acc, by rw [List.forIn_nil], fun x c h => .inr h, fun x h => h.elim (fun h => nomatch h) (·.2)⟩
  | (name, kind) :: r, acc, h => by
    rw [List.forIn_cons, hf]
    by_cases hk : kind = .free
    · subst hk
      obtain ⟨c, hc⟩ := h name List.mem_cons_self
      obtain ⟨cl, h1, h2, h3⟩ := closure_go f hf r ((name, c) :: acc) fun n hn => h n (List.mem_cons_of_mem _ hn)
      refine ⟨cl, ?_, fun x d hx => ?_, fun x hx => h3 x ?_⟩
      · rw [if_pos (by rfl)]
        have : cellOf env name = pure c := by unfold cellOf; rw [hc]
        rw [this]
        exact h1
      · rcases h2 x d hx with ⟨a, b⟩ | a
        · exact .inl ⟨a, List.mem_cons_of_mem _ b⟩
        · rw [List.lookup_cons] at a
          cases q : x == name with
          | true => rw [q] at a; cases a; rw [eq_of_beq q]; exact .inl ⟨hc, List.mem_cons_self⟩
          | false => rw [q] at a; exact .inr a
      · rw [List.lookup_cons]
        cases q : x == name with
        | true => rw [eq_of_beq q]; exact .inr ⟨rfl, hc.symm⟩
        | false =>
          rcases hx with hx | hx
          · rcases List.mem_cons.mp hx with e | hx
            · cases e; simp at q
            · exact .inl hx
          · exact .inr hx
    · have hb : (kind == NameKind.free) = false := by simpa using hk
      obtain ⟨cl, h1, h2, h3⟩ := closure_go f hf r acc fun n hn => h n (List.mem_cons_of_mem _ hn)
      refine ⟨cl, ?_, fun x d hx => ?_, fun x hx => h3 x ?_⟩
      · rw [hb]; exact h1
      · rcases h2 x d hx with ⟨a, b⟩ | a
        · exact .inl ⟨a, List.mem_cons_of_mem _ b⟩
        · exact .inr a
      · rcases hx with hx | hx
        · rcases List.mem_cons.mp hx with e | hx
          · cases e; exact absurd rfl hk
          · exact .inl hx
        · exact .inr hx
theorem closure_ok {env : Env} {cs : Scope} (h : ∀ n, (n, .free) ∈ cs.names → ∃ c, env.cells.lookup n = some c) :
    ∃ cl, closureFor cs env = pure cl ∧ (∀ x c, cl.lookup x = some c → env.cells.lookup x = some c ∧ (x, .free) ∈ cs.names) ∧ (∀ x, (x, .free) ∈ cs.names → cl.lookup x = env.cells.lookup x) := by
  obtain ⟨cl, h1, h2, h3⟩ := closure_go (env := env) (fun x r => match x with | (name, kind) => if kind == .free then (do let a ← cellOf env name; pure (.yield ((name, a) :: r))) else pure (.yield r)) (fun _ _ _ => rfl) cs.names [] h
  refine ⟨cl, ?_, fun x c hx => ?_, fun x hx => h3 x (.inl hx)⟩
  · unfold closureFor
    have e : ∀ (t : Sem (List (Str × Addr))), t = pure cl → (t >>= fun r => pure r) = pure cl := fun t ht => by rw [ht]; rfl
    exact e _ h1
  · rcases h2 x c hx with a | a
    · exact a
    · cases a

theorem cellsFrom_none {n : Nat} : ∀ {names : List (Str × NameKind)} {acc : List (Str × Addr)}, names.filter (·.2 == .cell) = [] → cellsFrom n names acc = acc ∧ ∀ h, pushCells h names = h
  | [], _, _ => ⟨rfl, fun _ => rfl⟩
  | (name, kind) :: r, acc, h => by
    rw [List.filter_cons] at h
    cases q : kind == NameKind.cell with
    | true => simp [q] at h
    | false =>
      simp only [q, Bool.false_eq_true, if_false] at h
      obtain ⟨a, b⟩ := cellsFrom_none (n := n) (acc := acc) h
      unfold cellsFrom
      refine ⟨by simp only [q, Bool.false_eq_true, if_false]; exact a, fun hp => ?_⟩
      unfold pushCells
      simp only [q, Bool.false_eq_true, if_false]; exact b hp
theorem cellsFrom_one {n : Nat} {y : Str} : ∀ {names : List (Str × NameKind)} {acc : List (Str × Addr)}, names.filter (·.2 == .cell) = [(y, .cell)] →
    cellsFrom n names acc = (y, n) :: acc ∧ ∀ h, pushCells h names = h.push { cls := .type "cell", data := .cell none }
  | [], _, h => by cases h
  | (name, kind) :: r, acc, h => by
    rw [List.filter_cons] at h
    cases q : kind == NameKind.cell with
    | true =>
      simp only [q, if_true, List.cons.injEq, Prod.mk.injEq] at h
      obtain ⟨⟨rfl, _⟩, h⟩ := h
      unfold cellsFrom
      refine ⟨by simp only [q, if_true]; exact (cellsFrom_none h).1, fun hp => ?_⟩
      unfold pushCells
      simp only [q, if_true]; exact (cellsFrom_none (n := 0) (acc := []) h).2 _
    | false =>
      simp only [q, Bool.false_eq_true, if_false] at h
      obtain ⟨a, b⟩ := cellsFrom_one (n := n) (acc := acc) h
      unfold cellsFrom
      refine ⟨by simp only [q, Bool.false_eq_true, if_false]; exact a, fun hp => ?_⟩
      unfold pushCells
      simp only [q, Bool.false_eq_true, if_false]; exact b hp

theorem nfe_around {cs : Scope} {globals : Addr} {cl : List (Str × Addr)} {qual : Str} {outer : Env} {Q : Env → Shared → Prop}
    (hQ : Q { scope := cs, locals := s.heap.objs.size, globals, cells := cellsFrom (s.heap.objs.size + 1) cs.names cl, qual, func := none, code := outer.code, frame := outer.frame, builtins := outer.builtins }
      { s with heap := pushCells (s.heap.push { cls := .type "dict", data := .dict #[] }) cs.names }) :
    wpAny M A (newFunctionEnv cs globals cl [] qual none .none (some outer)) Q E s := by
  simp only [newFunctionEnv, Option.isSome_some, if_true]
  refine wpAny_bind (wpAny_alloc ?_)
  refine wpAny_bind (wpAny_layCells _ (fun name kind cells => by cases hkc : kind == NameKind.cell <;> simp [hkc]) _ _ _ _ ?_)
  rw [show ({ s with heap := s.heap.push { cls := .type "dict", data := .dict #[] } } : Shared).heap.objs.size = s.heap.objs.size + 1 from Heap.size_push ..]
  exact wpAny_bind (wpAny_pure (wpAny_pure hQ))
end

section
variable {G : Gd} {P : Part} {W W' : Addr → Prop} {H H' : MH} {s s' : Shared}

theorem St.inner {s₁ : Shared} (x : St G P W H s) (k : ∀ b o, s.heap.get? b = some o → s₁.heap.get? b = some o) (hg : s₁.gens = s.gens) (ho : s₁.os = s.os)
    (hW : ∀ a, W' a → W a ∨ (s.heap.objs.size ≤ a ∧ ∃ o, s₁.heap.get? a = some o ∧ noSeq o)) : St G (lockP P (fun a => W a ∧ ¬ W' a) s₁.heap) W' H s₁ := by
  have x₁ := x.keeps k hg ho
  obtain ⟨D, d1, d2, d3⟩ := x.lay
  have nw : ∀ {a}, ¬ (W a ∧ ¬ W' a) → lockP P (fun a => W a ∧ ¬ W' a) s₁.heap a = P a := fun h => if_neg h
  have iw : ∀ {a}, (W a ∧ ¬ W' a) → lockP P (fun a => W a ∧ ¬ W' a) s₁.heap a = s₁.heap.get? a := fun h => if_pos h
  refine ⟨x₁.gens, x₁.os, fun a o e => ?_, fun a o e => ?_, fun a o mo p q => ?_, fun a w => ?_, D, fun a mo e => (d1 a mo e).keeps (fun v => k _ v) (fun _ _ _ => ⟨rfl, fun v => k _ v⟩), fun a c fs e => ?_, d3⟩
  · have := x.pb a o e
    rw [nw (fun w => by rw [(x.own a w.1).1] at this; cases this)]; exact this
  · by_cases w : W a ∧ ¬ W' a
    · rw [iw w] at e; exact e
    · rw [nw w] at e; exact x₁.prot a o e
  · by_cases w : W a ∧ ¬ W' a
    · rw [(x.own a w.1).2.1] at q; cases q
    · rw [nw w] at p; exact x.sep a o mo p q
  · rw [nw (fun q => q.2 w)]
    rcases hW a w with h | ⟨h, o, h1, h2⟩
    · obtain ⟨p, q, o, r, n⟩ := x₁.own a h
      exact ⟨p, q, o, r, n⟩
    · exact ⟨x.pNone' h, x.hNone h, o, h1, h2⟩
  · obtain ⟨p, q, r⟩ := d2 a c fs e
    refine ⟨by rw [nw (fun w => r w.1)]; exact p, q, fun w => ?_⟩
    rcases hW _ w with h | ⟨h, _⟩
    · exact r h
    · obtain ⟨v, hv⟩ := (d1 a _ e).atD
      exact absurd (Heap.lt_size hv) (Nat.not_lt.mpr h)

theorem St.outer {s₁ : Shared} {h' : Heap} {C : Addr} (x : St G P W H s) (k : ∀ b o, s.heap.get? b = some o → s₁.heap.get? b = some o) (y : St G (lockP P (fun a => W a ∧ ¬ W' a) s₁.heap) W' H' s')
    (hC : W' C) (hCW : ¬ W C) (hs : ∀ b o, b ≠ C → s'.heap.get? b = some o → h'.get? b = some o) : St G P W H' { s' with heap := h' } := by
  obtain ⟨D, d1, d2, d3⟩ := y.lay
  have nw : ∀ {a}, ¬ (W a ∧ ¬ W' a) → lockP P (fun a => W a ∧ ¬ W' a) s₁.heap a = P a := fun h => if_neg h
  have iw : ∀ {a}, (W a ∧ ¬ W' a) → lockP P (fun a => W a ∧ ¬ W' a) s₁.heap a = s₁.heap.get? a := fun h => if_pos h
  have lp : ∀ {a o}, P a = some o → lockP P (fun a => W a ∧ ¬ W' a) s₁.heap a = some o := fun {a o} e => by
    rw [nw (fun w => by rw [(x.own a w.1).1] at e; cases e)]; exact e
  have pC : P C = none := by
    have := (y.own C hC).1
    rw [nw (fun q => q.2 hC)] at this; exact this
  have own : ∀ a, W a → P a = none ∧ H' a = none ∧ ∃ o, h'.get? a = some o ∧ noSeq o := fun a w => by
    have hac : a ≠ C := fun q => hCW (q ▸ w)
    obtain ⟨p, q, o, r, n⟩ := x.own a w
    by_cases w' : W' a
    · obtain ⟨p', q', o', r', n'⟩ := y.own a w'
      exact ⟨p, q', o', hs _ _ hac r', n'⟩
    · have z : lockP P (fun a => W a ∧ ¬ W' a) s₁.heap a = some o := by rw [iw ⟨w, w'⟩]; exact k _ _ r
      exact ⟨p, y.noSeqNone z n, o, hs _ _ hac (y.prot _ _ z), n⟩
  refine ⟨y.gens, y.os, x.pb, fun a o e => hs _ _ (fun q => by rw [q, pC] at e; cases e) (y.prot a o (lp e)), fun a o mo e => y.sep a o mo (lp e), own, D, fun a mo e => ?_, fun a c fs e => ?_, d3⟩
  · have hac : a ≠ C := fun q => by rw [q, (y.own C hC).2.1] at e; cases e
    refine (d1 a mo e).keeps (fun v => hs _ v hac) (fun c fs hc => ⟨rfl, fun v => hs _ v (fun q => ?_)⟩)
    subst hc
    exact (d2 a c fs e).2.2 (q ▸ hC)
  · obtain ⟨p, q, r⟩ := d2 a c fs e
    have nwD : ¬ W (D a) := fun w => by
      obtain ⟨_, _, o, ro, n⟩ := x.own _ w
      rw [iw ⟨w, r⟩, k _ _ ro] at p; cases p
    exact ⟨by rw [nw (fun w => nwD w.1)] at p; exact p, q, nwD⟩
end
end Mine
end
-- part M19
section
open PySem PySem.Calls PyProof.Rows PySem.W Builtin Builtin.ObjectAttr
set_option maxHeartbeats 4000000
set_option maxRecDepth 100000
namespace Mine

noncomputable abbrev compEnv (sc cs : Scope) (cl : List (Str × Addr)) (env : Env) (h : Heap) : Env :=
  { scope := compScope sc cs, locals := h.objs.size, globals := env.globals, cells := cellsFrom (h.objs.size + 1) cs.names cl, qual := env.qual, func := none, code := env.code, frame := env.frame, builtins := env.builtins }
noncomputable abbrev compHeap (cs : Scope) (h : Heap) : Heap := pushCells (h.push { cls := .type "dict", data := .dict #[] }) cs.names

section
variable {G : Gd} {ln : List Str} {P : Part} {env : Env} {fr : List V} {H : MH} {s : Shared} {n : Nat} {A : Around} {Q : V → MH → Prop} {sc cs : Scope} {t : Nat} {y : Str} {cl : List (Str × Addr)}

theorem lt_ne {a b : Nat} (h : a < b) : a ≠ b := Nat.ne_of_lt h
theorem lt_ne1 {a b : Nat} (h : a < b) : a ≠ b + 1 := Nat.ne_of_lt (Nat.lt_succ_of_lt h)
theorem not_self1 {b : Nat} : ¬ b + 1 < b := Nat.not_lt.mpr (Nat.le_succ _)
theorem compHeap_keeps (cs : Scope) (h : Heap) : ∀ b o, h.get? b = some o → (compHeap cs h).get? b = some o := fun b o e => pushCells_keeps _ _ b o (Heap.get?_push_of_some _ e)

theorem comp_cases (c : CS ln sc cs t y) (hE : EnvOK sc env) (f : FrOK ln env s.heap fr) (h2 : ∀ x c, cl.lookup x = some c → env.cells.lookup x = some c ∧ (x, .free) ∈ cs.names) (h3 : ∀ x, (x, .free) ∈ cs.names → cl.lookup x = env.cells.lookup x)
    {x : Str} (hx : (compEnv sc cs cl env s.heap).kindOf x = some .cell) :
    (∃ a, (compEnv sc cs cl env s.heap).cells.lookup x = some a ∧ env.cells.lookup x = some a ∧ env.kindOf x = some .cell ∧ cs.names.lookup x = some .free) ∨
    (x = y ∧ cs.names.lookup x = some .cell ∧ (compEnv sc cs cl env s.heap).cells.lookup x = some (s.heap.objs.size + 1) ∧ (compHeap cs s.heap).IsCell (s.heap.objs.size + 1) none) := by
  have one : cs.names.filter (·.2 == .cell) = [] ∨ cs.names.filter (·.2 == .cell) = [(y, .cell)] := by
    have o := c.one
    cases q : cs.names.filter (·.2 == .cell) with
    | nil => exact .inl rfl
    | cons p r =>
      have hp : p ∈ cs.names.filter (·.2 == .cell) := by rw [q]; exact List.mem_cons_self
      obtain ⟨hm, hk⟩ := List.mem_filter.mp hp
      obtain ⟨a, k⟩ := p
      have hk' : k = .cell := by simpa using hk
      subst hk'
      have := c.kinds _ hm
      have : a = y := eq_of_beq this
      subst this
      rw [q] at o
      cases r with
      | nil => exact .inr rfl
      | cons _ _ => simp at o
  rcases comp_cell hx with hc | ⟨hf, hs⟩
  · have hm := mem_of_lookup hc
    have hy : x = y := eq_of_beq (c.kinds _ hm)
    have hfm : (x, NameKind.cell) ∈ cs.names.filter (·.2 == .cell) := List.mem_filter.mpr ⟨hm, by rfl⟩
    rcases one with e | e
    · rw [e] at hfm; cases hfm
    · obtain ⟨e1, e2⟩ := cellsFrom_one (n := s.heap.objs.size + 1) (acc := cl) e
      refine .inr ⟨hy, hc, ?_, ?_⟩
      · show (cellsFrom (s.heap.objs.size + 1) cs.names cl).lookup x = _
        rw [e1, hy]; simp
      · unfold compHeap
        rw [e2]
        have := Heap.get?_push_size (s.heap.push { cls := .type "dict", data := .dict #[] }) (o := { cls := .type "cell", data := .cell none }) rfl
        rw [Heap.size_push] at this
        exact ⟨_, this, rfl⟩
  · have hm := mem_of_lookup hf
    have hk : env.kindOf x = some .cell := by unfold Env.kindOf; rw [hE.hs]; exact hs
    obtain ⟨a, ov, ha, _, _⟩ := f.cells x hk
    refine .inl ⟨a, ?_, ha, hk, hf⟩
    show (cellsFrom (s.heap.objs.size + 1) cs.names cl).lookup x = _
    have hcl : cl.lookup x = some a := (h3 x hm).trans ha
    rcases one with e | e
    · rw [(cellsFrom_none e).1]; exact hcl
    · rw [(cellsFrom_one e).1, List.lookup_cons]
      have hne : (x == y) = false := by
        cases q : x == y with
        | false => rfl
        | true =>
          have := eq_of_beq q; subst this
          have hyc : (x, NameKind.cell) ∈ cs.names := (List.mem_filter.mp (by rw [e]; exact List.mem_cons_self : (x, NameKind.cell) ∈ cs.names.filter (·.2 == .cell))).1
          have := c.look _ hyc
          rw [hf] at this; cases this
      rw [hne]; exact hcl

theorem lookup_getD_set {i j : Nat} (h : j ≠ i) (v : V) : (fr.set i v).getD j .odd = fr.getD j .odd := by
  simp [List.getD_eq_getElem?_getD, List.getElem?_set_ne (Ne.symm h)]
theorem getD_set_odd {i : Nat} : (fr.set i .odd).getD i .odd = .odd := by
  rw [List.getD_eq_getElem?_getD, List.getElem?_set]
  simp only [if_true]
  split <;> rfl

theorem comp_in (c : CS ln sc cs t y) (nd : ln.Nodup) (hE : EnvOK sc env) {a : Addr} {o : Obj} (z : Sit G ln (P.put a o) env fr H s) (hp : P a = none) (hb : ∀ b o', G.base.get? b = some o' → P b = some o') (h2 : ∀ x c, cl.lookup x = some c → env.cells.lookup x = some c ∧ (x, .free) ∈ cs.names) (h3 : ∀ x, (x, .free) ∈ cs.names → cl.lookup x = env.cells.lookup x) :
    ∃ P', P' a = none ∧ Sit G ln (P'.put a o) (compEnv sc cs cl env s.heap) (fr.set t .odd) H { s with heap := compHeap cs s.heap } ∧
    (∀ fr' H' s' h', Sit G ln P' (compEnv sc cs cl env s.heap) fr' H' s' → (∀ j, j ≠ t → fr'.getD j .odd = (fr.set t .odd).getD j .odd) → Heap.SameBut s.heap.objs.size s'.heap h' → Sit G ln P env fr H' { s' with heap := h' }) := by
  have cases' := fun {x} => comp_cases (x := x) c hE z.f h2 h3
  have kept := compHeap_keeps cs s.heap
  obtain ⟨CE, hCE⟩ : ∃ CE, CE = compEnv sc cs cl env s.heap := ⟨_, rfl⟩
  obtain ⟨CH, hCH⟩ : ∃ CH, CH = compHeap cs s.heap := ⟨_, rfl⟩
  have nsC : CH.Ns s.heap.objs.size (fun _ => none) := by rw [hCH]; exact (Heap.Ns.new s.heap (.type "dict")).keeps (pushCells_keeps _ _)
  have cl0 : CE.locals = s.heap.objs.size := by rw [hCE]
  have kl : ∀ {x}, CE.kindOf x = some .local → cs.names.lookup x = some .local := fun {x} h => comp_local (sc := sc) (by rw [hCE] at h; exact h)
  rw [← hCE, ← hCH] at cases' ⊢
  rw [← hCH] at kept
  clear hCH hCE h2 h3
  have htt := isLoc_of c.tgt
  have lts : ∀ {x b}, env.kindOf x = some .cell → env.cells.lookup x = some b → b < s.heap.objs.size := fun {x b} hx hb => by
    obtain ⟨b', ov, e, hc, _⟩ := z.f.cells x hx
    rw [Option.some.inj (hb.symm.trans e)]
    exact hc.lt
  have ltl : env.locals < s.heap.objs.size := by obtain ⟨m, hn, _⟩ := z.f.ns; exact hn.lt
  have notC : ¬ Own env s.heap.objs.size := fun w => w.elim (fun w => lt_ne ltl w.symm) fun ⟨x, hx, hb⟩ => Nat.lt_irrefl _ (lts hx hb)
  have wh : ∀ {x b}, CE.kindOf x = some .cell → CE.cells.lookup x = some b → (env.cells.lookup x = some b ∧ env.kindOf x = some .cell ∧ cs.names.lookup x = some .free ∧ b < s.heap.objs.size) ∨ (x = y ∧ b = s.heap.objs.size + 1 ∧ CH.IsCell b none) := fun {x b} hx hb =>
    (cases' hx).imp (fun ⟨d, e1, e2, e3, e4⟩ => by rw [Option.some.inj (hb.symm.trans e1)]; exact ⟨e2, e3, e4, lts e3 e2⟩) fun ⟨xy, _, e1, e2⟩ => ⟨xy, Option.some.inj (hb.symm.trans e1), by rw [Option.some.inj (hb.symm.trans e1)]; exact e2⟩
  have ownW : ∀ b, Own CE b → Own env b ∨ (s.heap.objs.size ≤ b ∧ ∃ o, CH.get? b = some o ∧ noSeq o) := fun b w => by
    rcases w with w | ⟨x, hx, hb⟩
    · rw [w, cl0]; exact .inr ⟨Nat.le_refl _, noSeq_ns nsC⟩
    · exact (wh hx hb).imp (fun e => .inr ⟨x, e.2.1, e.1⟩) fun e => ⟨by rw [e.2.1]; exact Nat.le_succ _, noSeq_cell e.2.2⟩
  have na : ¬ Own env a := z.ownPut
  have ntt : ∀ {x i}, cs.names.lookup x = some .free → ln[i]? = some x → i ≠ t := fun {x i} e4 hi q => by
    have hxy : x = y := Option.some.inj (hi.symm.trans (q ▸ htt.1))
    rcases htt.2.1 with r | r <;> (rw [← hxy, e4] at r; cases r)
  refine ⟨lockP P (fun b => Own env b ∧ ¬ Own CE b) CH, (if_neg (fun q => na q.1)).trans hp, ⟨?_, ?_⟩, ?_⟩
  · have i := z.st.inner (s₁ := { s with heap := CH }) kept rfl rfl ownW
    have e : (lockP (P.put a o) (fun b => Own env b ∧ ¬ Own CE b) CH) = (Part.put (lockP P (fun b => Own env b ∧ ¬ Own CE b) CH) a o) := by
      funext b
      by_cases hb : b = a
      · rw [hb]
        exact (if_neg (fun q => na q.1)).trans ((Part.put_same ..).trans (Part.put_same ..).symm)
      · rw [Part.put_ne _ _ hb]
        unfold lockP
        rw [Part.put_ne _ _ hb]
    rw [← e]; exact i
  · refine ⟨by rw [List.length_set]; exact z.f.len, ⟨_, by rw [cl0]; exact nsC, fun i x hi hx ho => ?_⟩, fun x hx => ?_, fun x x' b hx hx' hb hb' => ?_, fun x b hx hb => ?_⟩
    · exfalso
      have hk := c.kinds _ (mem_of_lookup (kl hx))
      have : x = y ∨ x = ".0" := ((Bool.or_eq_true _ _).mp hk).imp eq_of_beq eq_of_beq
      rcases this with xy | xd
      · rw [nodup_idx nd hi (xy ▸ htt.1)] at ho
        exact ho getD_set_odd
      · exact c.dot (xd ▸ List.mem_of_getElem? hi)
    · rcases cases' hx with ⟨d, e1, e2, e3, e4⟩ | ⟨xy, e0, e1, e2⟩
      · obtain ⟨b, ov, hb, hc, hv⟩ := z.f.cells x e3
        rw [← Option.some.inj (e2.symm.trans hb)] at hc
        refine ⟨d, ov, e1, hc.keeps kept, fun i hi ho => ?_⟩
        rw [lookup_getD_set (ntt e4 hi)] at ho ⊢
        exact hv i hi ho
      · refine ⟨_, none, e1, e2, fun i hi ho => ?_⟩
        rw [nodup_idx nd hi (xy ▸ htt.1)] at ho
        exact absurd getD_set_odd ho
    · rcases wh hx hb with e | e <;> rcases wh hx' hb' with f | f
      · exact z.f.inj x x' _ e.2.1 f.2.1 e.1 f.1
      · exact absurd e.2.2.2 (f.2.1 ▸ not_self1)
      · exact absurd f.2.2.2 (e.2.1 ▸ not_self1)
      · exact e.1.trans f.1.symm
    · rw [cl0]
      rcases wh hx hb with e | e
      · exact lt_ne e.2.2.2
      · rw [e.2.1]; exact Nat.succ_ne_self _
  · intro fr' H' s' h' z' hag hs
    have zP := z.drop hp hb
    have st := zP.st.outer (s₁ := { s with heap := CH }) (h' := h') kept z'.st (.inl cl0.symm) notC (fun b o' hbc e => (hs.2 b hbc).trans e)
    have old : ∀ b, Own env b → ¬ Own CE b → ∀ o', s.heap.get? b = some o' → h'.get? b = some o' := fun b w w' o' e =>
      (hs.2 b (fun q => notC (q ▸ w))).trans (z'.st.prot b o' ((if_pos ⟨w, w'⟩).trans (kept _ _ e)))
    refine ⟨st, z.f.len, ?_, fun x hx => ?_, z.f.inj, z.f.ne⟩
    · obtain ⟨m, ⟨o', es, ep, ho, r⟩, q⟩ := z.f.ns
      refine ⟨m, ⟨o', es, ep, old _ (.inl rfl) (fun w => ?_) _ ho, r⟩, q⟩
      rcases w with w | ⟨x, hx, hb⟩
      · exact lt_ne ltl (w.trans cl0)
      · rcases wh hx hb with e | e
        · exact z.f.ne x _ e.2.1 e.1 rfl
        · exact lt_ne1 ltl e.2.1
    · obtain ⟨b, ov, e, ⟨o', ho, hd⟩, q⟩ := z.f.cells x hx
      by_cases w' : Own CE b
      · rcases w' with w' | ⟨x', hx', hb'⟩
        · exact absurd (w'.trans cl0) (lt_ne (lts hx e))
        · rcases wh hx' hb' with f | f
          · have xx := z.f.inj x x' b hx f.2.1 e f.1
            obtain ⟨b', ov', f1, ⟨o2, ho2, hd2⟩, f3⟩ := z'.f.cells x' hx'
            rw [← Option.some.inj (hb'.symm.trans f1)] at ho2
            refine ⟨b, ov', e, ⟨o2, (hs.2 b (lt_ne (lts hx e))).trans ho2, hd2⟩, fun i hi ho3 => ?_⟩
            have hit := ntt f.2.2.1 (xx ▸ hi)
            have hg : fr'.getD i .odd = fr.getD i .odd := (hag i hit).trans (lookup_getD_set hit _)
            rw [← hg] at ho3 ⊢
            exact f3 i (xx ▸ hi) ho3
          · exact absurd (lts hx e) (f.2.1 ▸ not_self1)
      · exact ⟨b, ov, e, ⟨o', old b (.inr ⟨x, hx, e⟩) w' _ ho, hd⟩, q⟩

theorem set_fold {it : Expr} (h : notSet it = true) (x : Value) : foldedSetIterable it env x = pure x := by cases it <;> first | rfl | exact Bool.noConfusion (show false = true from h)

theorem se_comp {elt src : E} {t : Nat} {conds : Es} (a : SA G src) : SE G (.comp elt t src conds) := by
  intro ln n sc x fr Q H P A s env hc nd hA hE z h
  refine onComp_el hc fun ex gens cs pos hc => on1_el hc fun g hc => ?_
  obtain ⟨tg, it, ifs, asy⟩ := g
  refine onName_el (em := fun tg => wpAny _ A (eval (.ListComp ex [⟨tg, it, ifs, asy⟩] cs pos) env) _ no s) hc fun y yp hc => and_el hc fun hc h6 => and_el hc fun hc h5 => and_el hc fun hc h4 => and_el hc fun hc h3 => and_el hc fun hc h2 => and_el hc fun h0 h1 =>
    beq_el' (m := fun asy => wpAny _ A (eval (.ListComp ex [⟨.Name y yp, it, ifs, asy⟩] cs pos) env) _ no s) h0 ?_
  clear hc
  have c := cs_of h2
  obtain ⟨cl, k1, k2, k3⟩ := closure_ok (env := env) (cs := cs) fun m hm => by
    have := c.kinds _ hm
    have hk : env.kindOf m = some .cell := by unfold Env.kindOf; rw [hE.hs]; exact eq_of_beq this
    obtain ⟨b, ov, hb, _⟩ := z.f.cells m hk
    exact ⟨b, hb⟩
  rw [eval_ListComp]
  refine wpAny_comprehension_free (g := ⟨.Name y yp, it, ifs, 0⟩) (gs := []) (cl := cl) rfl (set_fold (it := it) h6) k1 c.kind (fun x hx hl => by rw [c.look x hx, hl]) ?_
  show wpAny _ A (eval it env) _ no s
  refine wpAny_mono (a.src h1 nd hA hE z h) (fun v s₁ w => wpAny_mono w (fun itv s₂ w => ?_) fun _ _ x => x) fun _ _ x => x
  obtain ⟨b, o, sr, H', rfl, hp, hso, z2, w⟩ := w
  refine wpAny_newList ?_
  have z3 := z2.newList (vs := ([] : List Value).toArray) (xs := []) (t := s₂.toks) (k := 0) rfl
  refine nfe_around ?_
  have hw := w _ z2.hNone
  have fE : relabel cs env = compScope sc cs := by rw [← hE.hs]; rfl
  rw [fE]
  obtain ⟨P', hp', z4, back⟩ := comp_in c nd hE z3 hp z.pb k2 k3
  have hE' : EnvOK (compScope sc cs) (compEnv sc cs cl env (s₂.heap.push { cls := .type "list", data := .seq ([] : List Value).toArray })) := ⟨rfl, hE.gl, hE.bi, c.kind⟩
  have run := hw (compScope sc cs) cs ex it y yp pos ifs h3 h4 h5 P' A _ _ b o hA hE' hp' (z2.base hp z.pb) hso z4
  have fin : ∀ s₃ : Shared, s₃ = { s₂ with heap := compHeap cs (s₂.heap.push { cls := .type "list", data := .seq ([] : List Value).toArray }) } →
      codeAny (model G.prog G.w) A (.compLoop (.ListComp ex [⟨.Name y yp, it, ifs, 0⟩] cs pos) 0 (.ref b) (.ref s₂.heap.objs.size) (compEnv sc cs cl env (s₂.heap.push { cls := .type "list", data := .seq ([] : List Value).toArray })))
        (compPost (model G.prog G.w) A no none (Po G ln P env fr Q) (.ref s₂.heap.objs.size) (s₂.heap.push { cls := .type "list", data := .seq ([] : List Value).toArray }).objs.size) s₃ := by
    rintro s₃ rfl
    refine codeAny_mono run fun r s' q => ?_
    obtain ⟨f, fr', H2, rfl, z5, hag, q⟩ := q
    obtain ⟨m, hn, _⟩ := z5.f.ns
    exact ⟨m, hn, fun h' hs => ⟨H2, back fr' H2 s' h' z5 hag hs, q⟩⟩
  exact codeAny_compStart_list (fin _ rfl) (iter_self z4 hso (fin _ rfl))
end
end Mine
end
-- part M20
section
open PySem PySem.Calls PyProof.Rows PySem.W Builtin Builtin.ObjectAttr
set_option maxHeartbeats 4000000
set_option maxRecDepth 100000
namespace Mine

section
variable {G : Gd}
theorem sc_no {e : E} (hw : ∀ {ln : List Str} {n : Nat} {fr : List V} {T F : MH → Prop} {H : MH}, wC G ln n e fr T F H = False) : SC G e := by
  intro ln n sc x fr T F H P A s env hc nd hA hE z h
  exact (hw ▸ h : False).elim
theorem ss_no {e : E} (hw : ∀ {ln : List Str} {n : Nat} {fr : List V} {Q : Src → MH → Prop} {H : MH}, wSrc G ln n e fr Q H = False) : SSrc G e := by
  intro ln n sc x fr Q H P A s env hc nd hA hE z h
  exact (hw ▸ h : False).elim

theorem sa (e : E) : SA G e :=
  E.rec (motive_1 := SA G) (motive_2 := SL G)
    ⟨se_none, sc_no rfl, ss_no rfl⟩
    (fun b => ⟨se_bool, sc_no rfl, ss_no rfl⟩)
    (fun i => ⟨se_int, sc_no rfl, ss_no rfl⟩)
    (fun k => ⟨se_str, sc_no rfl, ss_no rfl⟩)
    (fun i => ⟨se_loc, sc_loc, ssrc_loc⟩)
    (fun x i => ⟨se_gint, sc_no rfl, ss_no rfl⟩)
    (fun e k a => ⟨se_attr a.ev, sc_no rfl, ssrc_attr a⟩)
    (fun e i a b => ⟨se_sub a.ev b.ev, sc_no rfl, ss_no rfl⟩)
    (fun e l h a b c => ⟨se_slice a.ev b.ev c.ev, sc_no rfl, ssrc_slice a b c⟩)
    (fun e a => ⟨se_rev a.ev, sc_no rfl, ss_no rfl⟩)
    (fun op e f a b => ⟨se_bin a.ev b.ev, sc_no rfl, ss_no rfl⟩)
    (fun i => ⟨se_neg, sc_no rfl, ss_no rfl⟩)
    (fun e a => ⟨se_not a.ev, sc_not a, ss_no rfl⟩)
    (fun op e f a b => ⟨se_cmp a.ev b.ev, sc_cmp a.ev b.ev, ss_no rfl⟩)
    (fun o p e f g a b c => ⟨se_cmp2 a.ev b.ev c.ev, sc_cmp2 a.ev b.ev c.ev, ss_no rfl⟩)
    (fun e es a b => ⟨se_and a b, sc_and a b, ss_no rfl⟩)
    (fun e es a b => ⟨se_or a b, sc_or a b, ss_no rfl⟩)
    (fun t f g a b c => ⟨se_ife a b c, sc_ife a b c, ss_no rfl⟩)
    (fun f es b => ⟨se_call b, sc_call b, ss_no rfl⟩)
    (fun c es b => ⟨se_new b, sc_no rfl, ss_no rfl⟩)
    (fun c k es b => ⟨se_sup b, sc_no rfl, ss_no rfl⟩)
    (fun o k es a b => ⟨se_meth a b, sc_meth a b, ssrc_meth a b⟩)
    (fun f es b => ⟨se_bi b, sc_no rfl, ssrc_bi b⟩)
    (fun es b => ⟨se_list b, sc_no rfl, ss_no rfl⟩)
    (fun es b => ⟨se_tup b, sc_no rfl, ss_no rfl⟩)
    ⟨se_dict0, sc_no rfl, ss_no rfl⟩
    (fun elt t src conds a b c => ⟨se_comp b, sc_no rfl, ss_no rfl⟩)
    (fun e a => ⟨se_nonEmpty a, sc_nonEmpty a, ss_no rfl⟩)
    (fun e x y a => ⟨se_eqPair a, sc_eqPair a, ss_no rfl⟩)
    (fun es i b a => ⟨se_pick b a, sc_no rfl, ss_no rfl⟩)
    sl_nil
    (fun e es a b => sl_cons a b) e
theorem sl (es : Es) : SL G es :=
  Es.rec (motive_1 := SA G) (motive_2 := SL G)
    (sa _) (fun _ => sa _) (fun _ => sa _) (fun _ => sa _) (fun _ => sa _) (fun _ _ => sa _) (fun _ _ _ => sa _) (fun _ _ _ _ => sa _) (fun _ _ _ _ _ _ => sa _) (fun _ _ => sa _) (fun _ _ _ _ _ => sa _) (fun _ => sa _) (fun _ _ => sa _)
    (fun _ _ _ _ _ => sa _) (fun _ _ _ _ _ _ _ _ => sa _) (fun _ _ _ _ => sa _) (fun _ _ _ _ => sa _) (fun _ _ _ _ _ _ => sa _) (fun _ _ _ => sa _) (fun _ _ _ => sa _) (fun _ _ _ _ => sa _) (fun _ _ _ _ _ => sa _) (fun _ _ _ => sa _)
    (fun _ _ => sa _) (fun _ _ => sa _) (sa _) (fun _ _ _ _ _ _ _ => sa _) (fun _ _ => sa _) (fun _ _ _ _ => sa _) (fun _ _ _ _ => sa _)
    sl_nil (fun e es a b => sl_cons a b) es
end
end Mine
end
-- part M21
section
open PySem PySem.Calls PyProof.Rows PySem.W Builtin Builtin.ObjectAttr
set_option maxHeartbeats 4000000
set_option maxRecDepth 100000
namespace Mine

noncomputable def hTup (o : Option MO) (q : List V → Prop) : Prop := @Option.casesOn MO (fun _ => Prop) o False fun m => @MO.casesOn (fun _ => Prop) m (fun _ => False) (fun _ => False) q (fun _ _ => False) (fun _ _ => False)
theorem hTup_el {C : Prop} {o : Option MO} {q : List V → Prop} (h : hTup o q) (k : ∀ xs, o = some (.tup xs) → q xs → C) : C := by
  cases o with
  | none => exact h.elim
  | some m => cases m <;> first | exact k _ rfl h | exact h.elim
noncomputable def wT (t : Tgt) (v : V) (fr : List V) (Q : List V → MH → Prop) (H : MH) : Prop :=
  match t with
  | .v i => Q (fr.set i v) H
  | .tup is => vRef v fun a => hTup (H a) fun xs => xs.length = is.length ∧ Q (setAll fr is xs) H
noncomputable def wSetA (o : V) (k : Nat) (v : V) (T : MH → Prop) (H : MH) : Prop :=
  vRef o fun a => hInst (H a) fun c fs => c < 7 ∧ k < 22 ∧ fs.length ≤ 100 ∧ v ≠ .odd ∧ T (upd H a (.inst c (fput fs k v)))
noncomputable def wAug (op : Operator) (a b : V) (Q : V → MH → Prop) (H : MH) : Prop :=
  op = .Add ∧ vInt a fun x => vInt b fun y => Q (.int (x + y)) H

mutual
noncomputable def wS (G : Gd) (ln : List Str) (n : Nat) : S → List V → (Fl → List V → MH → Prop) → MH → Prop
  | .expr e, fr, Q, H => wE G ln n e fr (fun _ => Q .next fr) H
  | .pass, fr, Q, H => Q .next fr H
  | .brk, fr, Q, H => Q .brk fr H
  | .cont, fr, Q, H => Q .cont fr H
  | .ret e, fr, Q, H => wE G ln n e fr (fun v => Q (.ret v) fr) H
  | .raise, _, _, _ => False
  | .asg t e, fr, Q, H => wE G ln n e fr (fun v => wT t v fr (Q .next)) H
  | .asgT is es, fr, Q, H => wEs G ln n es fr (fun vs H => vs.length = is.length ∧ vs.length ≤ big ∧ Q .next (setAll fr is vs) H) H
  | .sattr o k e, fr, Q, H => wE G ln n e fr (fun v => wE G ln n o fr fun ov => wSetA ov k v (Q .next fr)) H
  | .ssub o i e, fr, Q, H => wE G ln n e fr (fun v => wE G ln n o fr fun ov => wE G ln n i fr fun iv => wSet ov iv v (Q .next fr)) H
  | .aug i op e, fr, Q, H => good (fr.getD i .odd) (wE G ln n e fr (fun v => wAug op (fr.getD i .odd) v (fun r => Q .next (fr.set i r))) H)
  | .ife t a b, fr, Q, H => wC G ln n t fr (wB G ln n a fr Q) (wB G ln n b fr Q) H
  | .while t b, fr, Q, H => WWhile G ln n t b fr Q H
  | .for t src b, fr, Q, H => wSrc G ln n src fr (fun sr => WFor G ln n t b sr fr Q) H
termination_by structural s => s
noncomputable def wB (G : Gd) (ln : List Str) (n : Nat) : Ss → List V → (Fl → List V → MH → Prop) → MH → Prop
  | .nil, fr, Q, H => Q .next fr H
  | .cons s ss, fr, Q, H => wS G ln n s fr (fun fl fr' H => match fl with | .next => wB G ln n ss fr' Q H | fl => Q fl fr' H) H
termination_by structural s => s
end

noncomputable abbrev Pf (G : Gd) (ln : List Str) (P : Part) (env : Env) (Q : Fl → List V → MH → Prop) : Flow → Shared → Prop := fun f s' => ∃ fr' H', Sit G ln P env fr' H' s' ∧ Q (Fl.of f) fr' H'

noncomputable def SS (G : Gd) (st : S) : Prop := ∀ {ln : List Str} {n : Nat} {sc : Scope} {x : Stmt} {fr : List V} {Q : Fl → List V → MH → Prop} {H : MH} {P : Part} {A : Around} {s : Shared} {env : Env},
  chkS G.K ln sc st x = true → ln.Nodup → AOk n A → EnvOK sc env → Sit G ln P env fr H s → wS G ln n st fr Q H → wpAny (model G.prog G.w) A (exec x env) (Pf G ln P env Q) no s
noncomputable def SB (G : Gd) (b : Ss) : Prop := ∀ {ln : List Str} {n : Nat} {sc : Scope} {xs : List Stmt} {fr : List V} {Q : Fl → List V → MH → Prop} {H : MH} {P : Part} {A : Around} {s : Shared} {env : Env},
  chkB G.K ln sc b xs = true → ln.Nodup → AOk n A → EnvOK sc env → Sit G ln P env fr H s → wB G ln n b fr Q H → wpAny (model G.prog G.w) A (execs xs env) (Pf G ln P env Q) no s

section
variable {G : Gd} {ln : List Str} {P : Part} {env : Env} {fr : List V} {H : MH} {s : Shared} {n : Nat} {A : Around}

theorem ofno {α : Type} {M : Model} {A : Around} {t : Sem α} {Q : α → Shared → Prop} {E : Value → Shared → Prop} {s : Shared} (h : wpAny M A t Q no s) : wpAny M A t Q E s := wpAny_mono h (fun _ _ x => x) fun _ _ x => x.elim

theorem setAll_set : ∀ (is : List Nat) (vs : List V) (fr : List V) (i : Nat) (v : V), i ∉ is → setAll (fr.set i v) is vs = (setAll fr is vs).set i v := by
  intro is
  induction is with
  | nil => intro vs fr i v _; cases vs <;> rfl
  | cons j is ih =>
    intro vs fr i v h
    cases vs with
    | nil => rfl
    | cons w vs =>
      show setAll ((fr.set i v).set j w) is vs = (setAll (fr.set j w) is vs).set i v
      have hij : i ≠ j := fun q => h (by rw [q]; exact List.mem_cons_self)
      rw [List.set_comm v w hij, ih vs _ i v fun q => h (List.mem_cons_of_mem _ q)]
theorem setAll_snoc : ∀ (is : List Nat) (vs : List V) (fr : List V) (i : Nat) (v : V), is.length = vs.length → setAll fr (is ++ [i]) (vs ++ [v]) = (setAll fr is vs).set i v := by
  intro is
  induction is with
  | nil => intro vs fr i v h; rw [List.length_eq_zero_iff.mp h.symm]; rfl
  | cons j is ih =>
    intro vs fr i v h
    cases vs with
    | nil => exact absurd h (Nat.succ_ne_zero _)
    | cons w vs => exact ih vs _ i v (Nat.succ.inj h)
theorem setAll_rev : ∀ (is : List Nat) (vs : List V) (fr : List V), is.length = vs.length → is.Nodup → setAll fr is.reverse vs.reverse = setAll fr is vs := by
  intro is
  induction is with
  | nil => intro vs fr h _; rw [List.length_eq_zero_iff.mp h.symm]; rfl
  | cons j is ih =>
    intro vs fr h nd
    cases vs with
    | nil => exact absurd h (Nat.succ_ne_zero _)
    | cons w vs =>
      obtain ⟨h1, h2⟩ := List.nodup_cons.mp nd
      rw [List.reverse_cons, List.reverse_cons, setAll_snoc _ _ _ _ _ (by rw [List.length_reverse, List.length_reverse]; exact Nat.succ.inj h), ih vs fr (Nat.succ.inj h) h2]
      exact (setAll_set is vs fr j w h1).symm

noncomputable def StoresAt (ln : List Str) (env : Env) (i : Nat) (f : Value → Sem Unit) : Prop :=
  ∃ x, ln[i]? = some x ∧ (env.kindOf x = some .local ∨ env.kindOf x = some .cell) ∧ ∀ (M : Model) (A : Around) (v : Value) (Q : Unit → Shared → Prop) (E : Value → Shared → Prop) (s : Shared), wpAny M A (storeName env x v) Q E s → wpAny M A (f v) Q E s
inductive Stores (ln : List Str) (env : Env) : List Nat → List (Value → Sem Unit) → Prop
  | nil : Stores ln env [] []
  | cons {i f is fs} : StoresAt ln env i f → Stores ln env is fs → Stores ln env (i :: is) (f :: fs)
theorem Stores.snoc {i : Nat} {f : Value → Sem Unit} (a : StoresAt ln env i f) {is : List Nat} {fs : List (Value → Sem Unit)} (h : Stores ln env is fs) : Stores ln env (is ++ [i]) (fs ++ [f]) := by
  induction h with
  | nil => exact .cons a .nil
  | cons b _ ih => exact .cons b ih
theorem Stores.rev {is : List Nat} {fs : List (Value → Sem Unit)} (h : Stores ln env is fs) : Stores ln env is.reverse fs.reverse := by
  induction h with
  | nil => exact .nil
  | cons b _ ih => rw [List.reverse_cons, List.reverse_cons]; exact Stores.snoc b ih

theorem p_stores (nd : ln.Nodup) (hk : env.scope.kind = .function) {M : Model} : ∀ (is : List Nat) (fs : List (Value → Sem Unit)) (vs : List Value) (fr : List V) (s : Shared), Stores ln env is fs → vs.length = is.length → Sit G ln P env fr H s →
    wpAny M A (assignInOrder fs vs) (fun _ s' => Sit G ln P env (setAll fr is (vs.map V.of)) H s') no s := by
  intro is fs vs fr s h
  induction h generalizing vs fr s with
  | nil => intro hl z; rw [List.length_eq_zero_iff.mp hl]; exact wpAny_pure z
  | @cons i f is fs a _ ih =>
    intro hl z
    obtain ⟨x, h1, h2, h3⟩ := a
    cases vs with
    | nil => exact absurd hl.symm (Nat.succ_ne_zero _)
    | cons v vs =>
      show wpAny M A (do holding vs (f v); assignInOrder fs vs) _ _ _
      exact wpAny_bind (wpAny_holding (h3 _ _ _ _ _ _ (z.store nd hk h1 h2 fun s' z' => ih vs _ s' (Nat.succ.inj hl) z')))

theorem storesAt_name {sc : Scope} {i : Nat} {x : Str} {pos : Pos} (hE : EnvOK sc env) (h : isLoc ln sc i x = true) : StoresAt ln env i (assign (.Name x pos) env) := by
  obtain ⟨h1, h2, _⟩ := isLoc_of h
  exact ⟨x, h1, by unfold Env.kindOf; rw [hE.hs]; exact h2, fun M A v Q E s h => PySem.wpAny_assign_Name h⟩
theorem stores_tup {sc : Scope} (hE : EnvOK sc env) : ∀ (is : List Nat) (ts : List Expr), is.length = ts.length → (is.zip ts).all (fun p => onName p.2 fun y _ => isLoc ln sc p.1 y) = true →
    Stores ln env is ((assignEach ts env).map (·.2)) ∧ (assignEach ts env).length = is.length ∧ (assignEach ts env).findIdx? (·.1) = none := by
  intro is
  induction is with
  | nil => intro ts hl _; rw [List.length_eq_zero_iff.mp hl.symm]; exact ⟨.nil, rfl, rfl⟩
  | cons i is ih =>
    intro ts hl h
    cases ts with
    | nil => exact absurd hl (Nat.succ_ne_zero _)
    | cons t ts =>
      refine and_el (show (onName t (fun y _ => isLoc ln sc i y) && (is.zip ts).all (fun p => onName p.2 fun y _ => isLoc ln sc p.1 y)) = true from h) fun h1 h2 => ?_
      obtain ⟨a, b, c⟩ := ih ts (Nat.succ.inj hl) h2
      refine onName_el h1 fun y p h1 => ?_
      have e : assignEach (.Name y p :: ts) env = (false, assign (.Name y p) env) :: assignEach ts env := rfl
      rw [e]
      refine ⟨.cons (storesAt_name hE h1) a, congrArg Nat.succ b, ?_⟩
      rw [List.findIdx?_cons, c]; rfl

theorem p_target {t : Tgt} {x : Expr} {sc : Scope} {v : Value} {Q : List V → MH → Prop} (hc : chkT ln sc t x = true) (nd : ln.Nodup) (hA : AOk n A) (hE : EnvOK sc env) (z : Sit G ln P env fr H s) (h : wT t (V.of v) fr Q H) :
    wpAny (model G.prog G.w) A (assign x env v) (fun _ s' => ∃ fr' H', Sit G ln P env fr' H' s' ∧ Q fr' H') no s := by
  have hk : env.scope.kind = .function := by rw [hE.hs]; exact hE.fn
  cases t with
  | v i =>
    refine onName_el hc fun y p hc => ?_
    obtain ⟨y, h1, h2, h3⟩ := storesAt_name (pos := p) hE hc
    exact h3 _ _ _ _ _ _ (z.store nd hk h1 h2 fun s' z' => ⟨_, _, z', h⟩)
  | tup is =>
    refine onTuple_el hc fun ts k p hc => and_el hc fun c1 c2 => ?_
    obtain ⟨a, b, c⟩ := stores_tup hE is ts (eq_of_beq c1) c2
    refine vRef_el (m := fun v => wpAny _ A (assign (.Tuple ts k p) env v) _ no s) h fun ad h => hTup_el h fun xs e h => ?_
    obtain ⟨vs, q, r⟩ := z.tup e
    have hl := len_of r
    refine wpAny_assign_Tuple hA.hh (isTuple_of q) (by rw [b, hl, h.1]) c fun h' hs => ?_
    have z' : Sit G ln P env fr H { s with heap := h' } := z.heap (t := s.toks) fun b o e => hs b o (Nat.ne_of_lt (Heap.lt_size e)) e
    refine wpAny_mono (p_stores nd hk _ _ _ _ _ a (by rw [Array.length_toList, hl, h.1]) z') (fun _ s' z2 => ⟨_, _, z2, ?_⟩) fun _ _ x => x
    rw [r]; exact h.2
end
end Mine
end
-- part M22
section
open PySem PySem.Calls PyProof.Rows PySem.W Builtin Builtin.ObjectAttr
set_option maxHeartbeats 4000000
set_option maxRecDepth 100000
namespace Mine
section
variable {G : Gd} {ln : List Str} {P : Part} {env : Env} {fr : List V} {H : MH} {s : Shared} {n : Nat} {A : Around}

theorem kindF {sc : Scope} (hE : EnvOK sc env) : env.scope.kind = .function := by rw [hE.hs]; exact hE.fn
theorem inter_no {sc : Scope} (hE : EnvOK sc env) : interactive env = false := by unfold interactive; rw [kindF hE]; rfl
theorem stop {K : Bool} (h : K = true) (q : K = false) : False := by rw [q] at h; cases h

theorem ss_expr {e : E} : SS G (.expr e) := by
  intro ln n sc x fr Q H P A s env hc nd hA hE z h
  refine onExpr_el hc fun x p hc => and_el hc fun h1 h2 => wpAny_Expr_any (then_ ((sa e).ev h1 nd hA hE z h) fun v H' s₁ z' q => ⟨_, H', z', q⟩) (inter_no hE) ?_
  exact Expr.Call.elim (motive_1 := fun x => swapsWith x none p.line env = pure false) x (eq_of_beq h2) fun _ _ _ _ => rfl
theorem ss_pass : SS G .pass := by
  intro ln n sc x fr Q H P A s env hc nd hA hE z h
  exact onPass_el hc fun p _ => wpAny_Pass ⟨_, _, z, h⟩
theorem ss_brk : SS G .brk := by
  intro ln n sc x fr Q H P A s env hc nd hA hE z h
  exact onBreak_el hc fun p _ => wpAny_Break ⟨_, _, z, h⟩
theorem ss_cont : SS G .cont := by
  intro ln n sc x fr Q H P A s env hc nd hA hE z h
  exact onCont_el hc fun p _ => wpAny_Continue ⟨_, _, z, h⟩
theorem ss_raise : SS G .raise := by
  intro ln n sc x fr Q H P A s env hc nd hA hE z h
  exact (show False from h).elim
theorem ss_ret {e : E} : SS G (.ret e) := by
  intro ln n sc x fr Q H P A s env hc nd hA hE z h
  refine onRet_el hc fun o p hc => ?_
  cases o with
  | none => exact wpAny_Return_none ⟨_, _, z, none_el (m := fun e => wE G ln n e fr (fun v => Q (.ret v) fr) H → Q (.ret .none) fr H) hc (fun h => h) h⟩
  | some x => exact wpAny_Return_some (then_ ((sa e).ev hc nd hA hE z h) fun v H' s₁ z' q => ⟨_, H', z', q⟩)

theorem sole_no {t x : Expr} {line : Nat} {sc : Scope} (hE : EnvOK sc env) (h : asgOk sc t x = true) : swapsWith x (some t) line env = pure false := by
  cases x <;> first | rfl | exact Bool.noConfusion (show false = true from h) | skip
  rename_i gens scope pos
  cases t <;> try rfl
  rename_i y p
  have h' : sc.names.lookup y = some .cell := eq_of_beq h
  show (pure (env.blockKind == .function && env.kindOf y == some .local && p.line == pos.line && !(scope.names.any fun (n, k) => n == y && (k == .local || k == .cell))) : Sem Bool) = pure false
  have hk : env.kindOf y = some .cell := by unfold Env.kindOf; rw [hE.hs]; exact h'
  rw [hk]
  have : (some NameKind.cell == some NameKind.local) = false := rfl
  rw [this, Bool.and_false, Bool.false_and, Bool.false_and]

theorem asg_plain {t : Tgt} {t' x : Expr} {sc : Scope} {v : Value} (h1 : chkT ln sc t t' = true) (h3 : asgOk sc t' x = true) : swappedStores [t'] x env = pure none ∧ assignAll v ((assignEach [t'] env).map (·.2)) = assign t' env v := by
  cases t with
  | v i => exact onName_el (em := fun t' => swappedStores [t'] x env = pure none ∧ assignAll v ((assignEach [t'] env).map (·.2)) = assign t' env v) h1 fun _ _ _ => ⟨rfl, rfl⟩
  | tup is =>
    refine onTuple_el (em := fun t' => asgOk sc t' x = true → swappedStores [t'] x env = pure none ∧ assignAll v ((assignEach [t'] env).map (·.2)) = assign t' env v) h1 (fun ts k p _ h3 => ⟨?_, rfl⟩) h3
    cases x <;> first | rfl | exact Bool.noConfusion (show false = true from h3)
theorem ss_asg {t : Tgt} {e : E} : SS G (.asg t e) := by
  intro ln n sc x fr Q H P A s env hc nd hA hE z h
  refine onAsg_el hc fun ts x p hc => on1_el hc fun t' hc => and_el hc fun hc h3 => and_el hc fun h1 h2 => ?_
  refine wpAny_Assign_stores (then_ ((sa e).ev h2 nd hA hE z h) fun v H' s₁ z' q => ?_) (sole_no hE h3) (asg_plain (v := .none) h1 h3).1
  rw [(asg_plain h1 h3).2]
  exact wpAny_mono (p_target h1 nd hA hE z' q) (fun _ s' q => q) fun _ _ x => x

theorem stores_names {sc : Scope} (hE : EnvOK sc env) (f : Expr → Option Str) (hf : ∀ t y, f t = some y → ∃ p, t = .Name y p) :
    ∀ (is : List Nat) (ts : List Expr), is.length = ts.length → (is.zip ts).all (fun p => onName p.2 fun y _ => isLoc ln sc p.1 y) = true → (ts.filterMap f).length = ts.length →
    Stores ln env is ((ts.filterMap f).map fun n => bindName env n) := by
  intro is
  induction is with
  | nil => intro ts hl _ _; rw [List.length_eq_zero_iff.mp hl.symm]; exact .nil
  | cons i is ih =>
    intro ts hl h hm
    cases ts with
    | nil => exact absurd hl (Nat.succ_ne_zero _)
    | cons t ts =>
      refine and_el (show (onName t (fun y _ => isLoc ln sc i y) && (is.zip ts).all (fun p => onName p.2 fun y _ => isLoc ln sc p.1 y)) = true from h) fun h1 h2 => ?_
      rw [List.filterMap_cons] at hm ⊢
      cases q : f t with
      | none =>
        rw [q] at hm
        exact absurd (hm ▸ List.length_filterMap_le f ts : (t :: ts).length ≤ ts.length) (Nat.not_succ_le_self _)
      | some y =>
        rw [q] at hm
        obtain ⟨p, e⟩ := hf t y q
        rw [e] at h1
        obtain ⟨a1, a2, _⟩ := isLoc_of (show isLoc ln sc i y = true from h1)
        exact .cons ⟨y, a1, by unfold Env.kindOf; rw [hE.hs]; exact a2, fun M A v Q E s h => wpAny_bindName h⟩ (ih ts (Nat.succ.inj hl) h2 (Nat.succ.inj hm))

noncomputable def SwOk (ts : List Expr) (z : Sem (Option (List Str))) : Prop :=
  z = pure none ∨ ∃ f : Expr → Option Str, (∀ t y, f t = some y → ∃ p, t = .Name y p) ∧ (ts.filterMap f).length = ts.length ∧ z = pure (some (ts.filterMap f))
theorem sw_ite {ts : List Expr} {c : Prop} {d : Decidable c} {a b : Sem (Option (List Str))} (ha : c → SwOk ts a) (hb : ¬ c → SwOk ts b) : SwOk ts (@ite _ c d a b) := by
  cases d with
  | isTrue h => exact ha h
  | isFalse h => exact hb h
theorem ite_some {α : Type} {c : Prop} {d : Decidable c} {a y : α} (h : (@ite _ c d (some a) none) = some y) : a = y := by
  cases d with
  | isTrue _ => exact Option.some.inj h
  | isFalse _ => cases h
theorem none_ne {α : Type} {y : α} {P : Prop} (h : (none : Option α) = some y) : P := by cases h
theorem swapped_or {ts xs : List Expr} {k k' : Nat} {p p' : Pos} (h : (xs.all (foldedForSure 8) || !xs.all (constantsAlone 8)) = true) :
    SwOk ts (swappedStores [.Tuple ts k p] (.Tuple xs k' p') env) := by
  delta swappedStores
  dsimp only
  refine sw_ite (fun _ => .inl rfl) fun _ => sw_ite (fun _ => .inl rfl) fun _ => sw_ite (fun _ => .inl rfl) fun hn => sw_ite (fun _ => .inl rfl) fun h1 => sw_ite (fun h2 => ?_) fun _ => .inr ⟨_, ?_, ?_, rfl⟩
  · rw [h2] at h
    exact absurd ((Bool.or_false _).symm.trans h) h1
  · intro t y ht
    cases t <;> first | exact none_ne ht | exact ⟨_, by rw [← ite_some ht]⟩
  · rw [Bool.or_eq_true, not_or] at hn
    exact of_decide_eq_true ((Bool.not_eq_false _).mp (fun q => hn.1 (by first | exact congrArg not q | skip)))
end
end Mine
end
-- part M23
section
open PySem PySem.Calls PyProof.Rows PySem.W Builtin Builtin.ObjectAttr
set_option maxHeartbeats 4000000
set_option maxRecDepth 100000
namespace Mine
section
variable {G : Gd} {ln : List Str} {P : Part} {env : Env} {fr : List V} {H : MH} {s : Shared} {n : Nat} {A : Around}

theorem ss_asgT {is : List Nat} {es : Es} : SS G (.asgT is es) := by
  intro ln n sc x fr Q H P A s env hc nd hA hE z h
  refine onAsg_el hc fun ts x p hc => on1_el hc fun t' hc => onTuple_el hc fun tl k p1 hc => onTuple_el hc fun xs k2 p2 hc => and_el hc fun hc h4 => and_el hc fun hc h3 => and_el hc fun h1 h2 => and_el h1 fun h1 h1' => ?_
  clear hc
  have h1 := eq_of_beq h1
  have hk := kindF hE
  rw [exec_Assign_arm]
  refine wpAny_bind (wpAny_standAt ?_)
  show wpAny _ A ((pure false : Sem Bool) >>= _) _ _ s
  refine wpAny_bind (wpAny_pure ?_)
  rw [if_neg (by decide)]
  refine wpAny_bind (Tuple_ ?_)
  rw [chkEs_trees p2 es xs h2]
  refine wpAny_mono ((sl es).ev h2 nd hA hE z h) (fun vs s₁ q => ?_) fun _ _ x => x
  obtain ⟨H', z', q⟩ := q
  obtain ⟨q1, q2, q⟩ := q
  rw [List.length_map] at q1 q2
  refine wpAny_newTuple ?_ q2
  have z2 := z'.push { cls := .type "tuple", data := .seq vs.toArray } (t := s₁.toks)
  have hT : ({ s₁ with heap := s₁.heap.push { cls := .type "tuple", data := .seq vs.toArray } } : Shared).heap.IsTuple s₁.heap.objs.size vs.toArray := ⟨_, Heap.get?_push_size _ rfl, rfl, _, rfl⟩
  rcases swapped_or (env := env) (ts := tl) (k := k) (k' := k2) (p := p1) (p' := p2) h4 with sw | ⟨f, f1, f2, sw⟩
  · rw [sw]
    refine wpAny_bind (wpAny_pure ?_)
    show wpAny _ A (do assign (.Tuple tl k p1) env (.ref s₁.heap.objs.size); pure Flow.next) _ _ _
    obtain ⟨a, b, c⟩ := stores_tup hE is tl h1 h1'
    refine wpAny_bind (wpAny_assign_Tuple hA.hh hT (by rw [b, List.size_toArray, q1]) c fun h' hs => ?_)
    have z3 : Sit G ln P env fr H' { s₁ with heap := h' } := z2.heap (t := s₁.toks) fun b o e => hs b o (Nat.ne_of_lt (Heap.lt_size e)) e
    refine wpAny_mono (p_stores nd hk _ _ _ _ _ a (by rw [List.toList_toArray]; exact q1) z3) (fun _ s' z4 => wpAny_pure ⟨_, _, z4, ?_⟩) fun _ _ x => x
    rw [List.toList_toArray]; exact q
  · rw [sw]
    refine wpAny_bind (wpAny_pure ?_)
    have st := stores_names hE f f1 is tl h1 h1' f2
    have hl : (tl.filterMap f).length = vs.toArray.size := by rw [f2, List.size_toArray, q1, h1]
    show wpAny _ A (do
      rule "assign.swapped-stores"
      let items ← unpackItems (.ref s₁.heap.objs.size) (tl.filterMap f).length none
      assignInOrder ((tl.filterMap f).reverse.map fun n => bindName env n) items.reverse
      pure Flow.next) _ _ _
    refine wpAny_bind (wpAny_rule ?_)
    rw [hl]
    refine wpAny_bind (wpAny_unpackItems_tuple hA.hh hT fun h' hs => ?_)
    have z3 : Sit G ln P env fr H' { s₁ with heap := h' } := z2.heap (t := s₁.toks) fun b o e => hs b o (Nat.ne_of_lt (Heap.lt_size e)) e
    rw [List.map_reverse, List.toList_toArray]
    refine wpAny_bind (wpAny_mono (p_stores nd hk _ _ _ _ _ st.rev (by rw [List.length_reverse, List.length_reverse]; exact q1) z3) (fun _ s' z4 => wpAny_pure ⟨_, _, z4, ?_⟩) fun _ _ x => x)
    rw [List.map_reverse, setAll_rev is _ fr (by rw [List.length_map]; exact q1.symm) (of_decide_eq_true h3)]
    exact q

theorem no_swap_a {x o : Expr} {y : Str} {p : Pos} {line : Nat} : swapsWith x (some (.Attribute o y p)) line env = pure false ∧ swappedStores [.Attribute o y p] x env = pure none := ⟨by cases x <;> rfl, by cases x <;> rfl⟩
theorem no_swap_s {x o i : Expr} {p : Pos} {line : Nat} : swapsWith x (some (.Subscript o i p)) line env = pure false := by cases x <;> rfl
theorem ss_sattr {o e : E} {k : Nat} : SS G (.sattr o k e) := by
  intro ln n sc x fr Q H P A s env hc nd hA hE z h
  refine onAsg_el hc fun ts x p hc => on1_el hc fun t' hc => onAttr_el hc fun y nme p1 hc => and_el hc fun hc h4 => and_el hc fun hc h3 => and_el hc fun h1 h2 => beq_el h2 ?_
  have ns := fun line => no_swap_a (env := env) (x := x) (o := y) (y := nm k) (p := p1) (line := line)
  refine wpAny_Assign_stores (then_ ((sa e).ev h4 nd hA hE z h) fun v H' s₁ z' q => ?_) (ns p.line).1 (ns 0).2
  show wpAny _ A (assign (.Attribute y (nm k) p1) env v) _ _ _
  rw [arm_assign_Attribute]
  refine wpAny_bind (wpAny_holding (then_ ((sa o).ev h1 nd hA hE z' q) fun ov H2 s₂ z2 q => wpAny_bind (wpAny_standAt (wpAny_bind (wpAny_holding ?_)))))
  refine vRef_el q fun a q => hInst_el q fun c fs he q => ?_
  obtain ⟨c1, c2, c3, c4, q⟩ := q
  exact wpAny_mono (p_setAttr (T := fun H => Q .next fr H) z2 rfl he c1 c2 c3 q) (fun _ s' q => wpAny_release (q.elim fun H3 q => ⟨_, H3, q.1, q.2⟩)) fun _ _ x => x

theorem ss_ssub {o i e : E} : SS G (.ssub o i e) := by
  intro ln n sc x fr Q H P A s env hc nd hA hE z h
  refine onAsg_el hc fun ts x p hc => on1_el hc fun t' hc => onSub_el hc fun y j p1 hc => and_el hc fun hc h4 => and_el hc fun hc h3 => and_el hc fun h1 h2 => ?_
  refine wpAny_Assign_Subscript (then_ ((sa e).ev h3 nd hA hE z h) fun v H' s₁ z' q => ?_) (no_swap_s (o := y) (i := j) (p := p1))
  refine then_ ((sa o).ev h1 nd hA hE z' q) fun ov H2 s₂ z2 q => then_ ((sa i).ev h2 nd hA hE z2 q) fun iv H3 s₃ z3 q => ?_
  exact wpAny_mono (p_setItem z3 q) (fun _ s' q => q.elim fun H4 q => ⟨_, H4, q.1, q.2⟩) fun _ _ x => x

theorem ss_aug {i : Nat} {op : Operator} {e : E} : SS G (.aug i op e) := by
  intro ln n sc x fr Q H P A s env hc nd hA hE z h
  refine onAug_el hc fun t o x p hc => onName_el hc fun y p1 hc => and_el hc fun hc h3 => and_el hc fun h1 h2 => beq_el h2 ?_
  have ho := (good_iff h).1
  have h := (good_iff h).2
  obtain ⟨a1, a2, _⟩ := isLoc_of h1
  have hk := kindF hE
  have a3 : env.kindOf y = some .local ∨ env.kindOf y = some .cell := by unfold Env.kindOf; rw [hE.hs]; exact a2
  refine wpAny_AugAssign_Name (z.read (pos := p1) hk a1 a3 (isOdd_ne ho) fun old hold => then_ ((sa e).ev h3 nd hA hE z h) fun v H' s₁ z' q => ?_)
  rw [← hold] at q
  obtain ⟨rfl, q⟩ := q
  exact vInt_el q fun x' t1 q => vInt_el q fun y' t2 q => PySem.P.iadd_int (z'.toks.store nd hk a1 a3 fun s' z2 => ⟨_, _, z2, q⟩)

theorem ss_ife {t : E} {a b : Ss} (sa1 : SB G a) (sb1 : SB G b) : SS G (.ife t a b) := by
  intro ln n sc x fr Q H P A s env hc nd hA hE z h
  refine onSIf_el hc fun t' a' b' p hc => and_el hc fun hc h3 => and_el hc fun h1 h2 => wpAny_If (then_ ((sa t).tr h1 nd hA hE z h) fun v H' s₁ z' q => ?_)
  cases v
  · exact sb1 h3 nd hA hE z' q
  · exact sa1 h2 nd hA hE z' q
theorem ss_while {t : E} {b : Ss} : SS G (.while t b) := by
  intro ln n sc x fr Q H P A s env hc nd hA hE z h
  refine onWhile_el hc fun t' b' o p hc => and_el hc fun hc h3 => and_el hc fun h1 h2 => isEmpty_el h1 ?_
  exact wpAny_While (codeAny_mono (h sc t' b' h2 h3 P A s env hA hE z) fun r s' ⟨f, fr', H', e, z', q⟩ => by rw [e]; exact ⟨fr', H', z', q⟩)
theorem ss_for {t : Tgt} {src : E} {b : Ss} : SS G (.for t src b) := by
  intro ln n sc x fr Q H P A s env hc nd hA hE z h
  refine onFor_el hc fun t' x b' o p hc => and_el hc fun hc h3 => and_el hc fun hc h2 => and_el hc fun h0 h1 => isEmpty_el h0 (and_el h2 fun h2 h2' => ?_)
  refine wpAny_For (wpAny_mono ((sa src).src h2 nd hA hE z h) (fun v s₁ w => wpAny_mono w (fun it s₂ q => ?_) fun _ _ x => x) fun _ _ x => x) (set_fold h2')
  obtain ⟨a, o, sr, H', rfl, hp, ho, z', q⟩ := q
  exact codeAny_mono (q sc t' b' h1 h3 P A s₂ env a o hA hE hp (z'.base hp z.pb) ho z') fun r s' ⟨f, fr', H', e, z', q⟩ => by rw [e]; exact ⟨fr', H', z', q⟩
theorem sb_nil : SB G .nil := by
  intro ln n sc x fr Q H P A s env hc nd hA hE z h
  exact isEmpty_el (m := fun x => wpAny _ A (execs x env) _ no s) hc (wpAny_execs_nil ⟨_, _, z, h⟩)
theorem sb_cons {st : S} {ss : Ss} (a : SS G st) (b : SB G ss) : SB G (.cons st ss) := by
  intro ln n sc x fr Q H P A s env hc nd hA hE z h
  refine onCons_el (m := fun x => wpAny _ A (execs x env) _ no s) hc fun x xs hc => and_el hc fun h1 h2 => wpAny_execs_cons (wpAny_mono (a h1 nd hA hE z h) (fun f s₁ q => ?_) fun _ _ x => x)
  obtain ⟨fr', H', z', q⟩ := q
  cases f with
  | next => exact b h2 nd hA hE z' q
  | brk => exact ⟨fr', H', z', q⟩
  | cont => exact ⟨fr', H', z', q⟩
  | ret v => exact ⟨fr', H', z', q⟩

theorem sb (b : Ss) : SB G b :=
  Ss.rec (motive_1 := SS G) (motive_2 := SB G) (fun e => ss_expr) ss_pass ss_brk ss_cont (fun e => ss_ret) ss_raise (fun t e => ss_asg) (fun is es => ss_asgT) (fun o k e => ss_sattr) (fun o i e => ss_ssub) (fun i op e => ss_aug)
    (fun t a b x y => ss_ife x y) (fun t b x => ss_while) (fun t src b x => ss_for) sb_nil (fun s ss a b => sb_cons a b) b
end
end Mine
end
-- part M24
section
open PySem PySem.Calls PyProof.Rows PySem.W Builtin Builtin.ObjectAttr
set_option maxHeartbeats 4000000
set_option maxRecDepth 100000
namespace Mine

theorem zip_lookup_isSome {n : Str} : ∀ (ps : List Str) (vals : List Value), vals.length = ps.length → n ∈ ps → ((ps.zip vals).lookup n).isSome = true := by
  intro ps
  induction ps with
  | nil => intro vals _ h; cases h
  | cons p ps ih =>
    intro vals hl hn
    cases vals with
    | nil => exact absurd hl.symm (Nat.succ_ne_zero _)
    | cons v vals =>
      rw [List.zip_cons_cons, List.lookup_cons]
      cases q : n == p with
      | true => rfl
      | false => exact ih vals (Nat.succ.inj hl) ((List.mem_cons.mp hn).resolve_left fun e => by rw [e, beq_self_eq_true] at q; cases q)
theorem zip_filterMap (S : List (Str × Value)) : ∀ (ps : List Str) (vals : List Value), vals.length = ps.length → (∀ x v, (x, v) ∈ ps.zip vals → S.lookup x = some v) → (ps.filterMap fun n => (S.lookup n).map (n, ·)) = ps.zip vals := by
  intro ps
  induction ps with
  | nil => intro vals hl _; rw [List.length_eq_zero_iff.mp hl]; rfl
  | cons p ps ih =>
    intro vals hl h
    cases vals with
    | nil => exact absurd hl.symm (Nat.succ_ne_zero _)
    | cons v vals =>
      rw [List.zip_cons_cons, List.filterMap_cons, h p v List.mem_cons_self]
      show (p, v) :: _ = _
      rw [ih vals (Nat.succ.inj hl) fun x w hw => h x w (List.mem_cons_of_mem _ hw)]
theorem zip_lookup : ∀ (ps : List Str) (vals : List Value), ps.Nodup → ∀ x v, (x, v) ∈ ps.zip vals → (ps.zip vals).lookup x = some v := by
  intro ps
  induction ps with
  | nil => intro vals _ x v h; cases h
  | cons p ps ih =>
    intro vals nd x v h
    cases vals with
    | nil => cases h
    | cons w vals =>
      rw [List.zip_cons_cons] at h ⊢
      rw [List.lookup_cons]
      rcases List.mem_cons.mp h with e | e
      · cases e; rw [beq_self_eq_true]
      · have hne : x ≠ p := fun q => (List.nodup_cons.mp nd).1 (q ▸ (List.of_mem_zip e).1)
        rw [beq_eq_false_iff_ne.mpr hne]
        exact ih vals (List.nodup_cons.mp nd).2 x v e

theorem forIn_same {S : List (Str × Value)} : ∀ (l : List (Str × Value)), (∀ x ∈ l, (S.lookup x.1).isSome = true) →
    (forIn l S fun x b => if (b.lookup x.1).isNone = true then pure (ForInStep.yield (b ++ [(x.1, x.2)])) else pure (ForInStep.yield b)) = (pure S : Sem (List (Str × Value))) := by
  intro l
  induction l with
  | nil => intro _; rfl
  | cons x l ih =>
    intro h
    have hx := h x List.mem_cons_self
    rw [List.forIn_cons, if_neg (by rw [Option.isNone_iff_eq_none]; intro q; rw [q] at hx; cases hx), pure_bind]
    exact ih fun y hy => h y (List.mem_cons_of_mem _ hy)

noncomputable def dsOf (n : Nat) (d : Option (Array Value)) : List Value := (d.getD #[]).toList.drop ((d.getD #[]).toList.length - n)
theorem binds_gen {fd : FuncData} {vals : List Value} {ps : List Str} {S : List (Str × Value)} {M : Model} {A : Around} {E : Value → Shared → Prop} {s : Shared} {Q : List (Str × Value) → Shared → Prop} {ok : Option (Array Value) → Prop}
    (h1 : fd.params.posonlyargs = []) (h2 : fd.params.kwonlyargs = []) (h3 : fd.params.vararg = none) (h4 : fd.params.kwarg = none)
    (h5 : fd.params.args.map (·.arg) = ps) (hl : vals.length ≤ ps.length) (hd : ∀ (R : Option (Array Value) → Shared → Prop), (∀ d, ok d → R d s) → wpAny M A (seqItems? fd.defaults) R E s)
    (hm : ∀ d, ok d → (ps.take (ps.length - (dsOf ps.length d).length)).filter (fun n => ((ps.zip vals).lookup n).isNone) = [])
    (hS : ∀ d, ok d → (forIn ((ps.drop (ps.length - (dsOf ps.length d).length)).zip (dsOf ps.length d)) (ps.zip vals) fun x b => if (b.lookup x.1).isNone = true then pure (ForInStep.yield (b ++ [(x.1, x.2)])) else pure (ForInStep.yield b)) = (pure S : Sem (List (Str × Value))))
    (hq : Q (ps.filterMap fun n => (S.lookup n).map (n, ·)) s) : wpAny M A (bindArgs fd ⟨vals, []⟩) Q E s := by
  obtain ⟨name, qual, ⟨po, ar, va, ko, kd, kw, df⟩, r4, r5, r6, r7, r8, r9⟩ := fd
  obtain rfl : po = [] := h1
  obtain rfl : ko = [] := h2
  obtain rfl : va = none := h3
  obtain rfl : kw = none := h4
  unfold bindArgs
  dsimp only at h5 hd ⊢
  have e0 : List.map (fun x => x.arg) ([] : List Arg) ++ List.map (fun x => x.arg) ar = ps := h5
  rw [e0]
  refine wpAny_bind (wpAny_pure ?_)
  refine wpAny_bind (hd _ fun d ho => ?_)
  rw [if_neg (by rw [Bool.and_eq_true, decide_eq_true_iff]; exact fun h => absurd h.1 (Nat.not_lt.mpr hl))]
  have hm := hm d ho
  have hS := hS d ho
  unfold dsOf at hm hS
  dsimp only
  rw [hm, if_neg (by decide)]
  refine wpAny_bind (wpAny_of_eq hS ?_)
  refine wpAny_bind (wpAny_pure ?_)
  rw [if_neg (by intro h; cases h)]
  refine wpAny_pure ?_
  show Q (List.filterMap _ (ps ++ [])) s
  rw [List.append_nil]
  exact hq
theorem binds_plain {fd : FuncData} {vals : List Value} {ps : List Str} {M : Model} {A : Around} {E : Value → Shared → Prop} {s : Shared} {Q : List (Str × Value) → Shared → Prop} (h1 : fd.params.posonlyargs = []) (h2 : fd.params.kwonlyargs = []) (h3 : fd.params.vararg = none) (h4 : fd.params.kwarg = none)
    (h5 : fd.params.args.map (·.arg) = ps) (nd : ps.Nodup) (hl : vals.length = ps.length) (hd : ∀ (R : Option (Array Value) → Shared → Prop), (∀ d, R d s) → wpAny M A (seqItems? fd.defaults) R E s) (hq : Q (ps.zip vals) s) :
    wpAny M A (bindArgs fd ⟨vals, []⟩) Q E s := by
  refine binds_gen (S := ps.zip vals) (ok := fun _ => True) h1 h2 h3 h4 h5 (Nat.le_of_eq hl) (fun R h => hd R fun d => h d trivial) (fun d _ => List.filter_eq_nil_iff.mpr fun n hn q => ?_) (fun d _ => forIn_same _ fun x hx => zip_lookup_isSome _ _ hl (List.mem_of_mem_drop (List.of_mem_zip (show (x.1, x.2) ∈ _ from hx)).1)) ?_
  · have := zip_lookup_isSome _ _ hl (List.mem_of_mem_take hn)
    rw [Option.isNone_iff_eq_none.mp q] at this
    cases this
  · rw [zip_filterMap _ _ _ hl (zip_lookup _ _ nd)]
    exact hq
end Mine
end
-- part M25
section
open PySem PySem.Calls PyProof.Rows PySem.W Builtin Builtin.ObjectAttr
set_option maxHeartbeats 4000000
set_option maxRecDepth 100000
namespace Mine

noncomputable def seqAt (K : Frag) (T : Addr) (q : Array Value → Bool) : Bool := match K.lookup T with
  | some ⟨_, _, .seq vs _, _⟩ => q vs
  | _ => false
theorem seqAt_el {C : Prop} {K : Frag} {T : Addr} {q : Array Value → Bool} (h : seqAt K T q = true) (k : ∀ c d vs n sl, K.lookup T = some ⟨c, d, .seq vs n, sl⟩ → q vs = true → C) : C := by
  unfold seqAt at h
  cases e : K.lookup T with
  | none => rw [e] at h; exact Bool.noConfusion h
  | some o =>
    obtain ⟨c, d, dt, sl⟩ := o
    rw [e] at h
    cases dt <;> first | exact k _ _ _ _ _ e h | exact Bool.noConfusion (show false = true from h)
noncomputable def seqLike (K : Frag) (d : Value) : Bool := match d with
  | .none => true
  | .ref T => seqAt K T fun _ => true
  | _ => false

noncomputable def isStmts (f : List Stmt → Bool) : FuncBody → Bool
  | .stmts b => f b
  | _ => false

noncomputable def fdOk (K : Frag) (np : Nat) (ln : List Str) (b : Ss) (fd : FuncData) : Bool :=
  fd.params.posonlyargs.isEmpty && fd.params.kwonlyargs.isEmpty && fd.params.vararg.isNone && fd.params.kwarg.isNone && fd.params.args.map (·.arg) == ln.take np && decide (np ≤ ln.length) && decide ln.Nodup &&
  isStmts (chkB K ln fd.scope b) fd.body && fd.scope.kind == .function && !fd.scope.isCoroutine && !fd.scope.isGenerator && fd.globals == mainGlobals && fd.builtins == builtinsNs && fd.closure.isEmpty && seqLike K fd.defaults &&
  codeIn K fd.code fd.qualname && (ln.take np).all (fun x => fd.scope.names.lookup x == some .local || fd.scope.names.lookup x == some .cell)
noncomputable def fnAt (K : Frag) (f : FId) (q : FuncData → Bool) : Bool := match K.lookup (fAddr K f) with
  | some ⟨_, _, .func fd, _⟩ => q fd
  | _ => false
theorem fnAt_el {C : Prop} {K : Frag} {f : FId} {q : FuncData → Bool} (h : fnAt K f q = true) (k : ∀ c d fd sl, K.lookup (fAddr K f) = some ⟨c, d, .func fd, sl⟩ → q fd = true → C) : C := by
  unfold fnAt at h
  cases e : K.lookup (fAddr K f) with
  | none => rw [e] at h; exact Bool.noConfusion h
  | some o =>
    obtain ⟨c, d, dt, sl⟩ := o
    rw [e] at h
    cases dt <;> first | exact k _ _ _ _ e h | exact Bool.noConfusion (show false = true from h)
noncomputable def fnOk (K : Frag) (f : FId) (np : Nat) (ln : List Str) (b : Ss) : Bool := fnAt K f (fdOk K np ln b)
structure FdF (K : Frag) (np : Nat) (ln : List Str) (b : Ss) (fd : FuncData) : Prop where
  po : fd.params.posonlyargs = []
  ko : fd.params.kwonlyargs = []
  va : fd.params.vararg = none
  kw : fd.params.kwarg = none
  ps : fd.params.args.map (·.arg) = ln.take np
  len : (ln.take np).length = np
  nl : np ≤ ln.length
  nd : ln.Nodup
  bd : ∃ body, fd.body = .stmts body ∧ chkB K ln fd.scope b body = true
  fn : fd.scope.kind = .function
  co : fd.scope.isCoroutine = false
  ge : fd.scope.isGenerator = false
  gl : fd.globals = mainGlobals
  bi : fd.builtins = builtinsNs
  cl : fd.closure = []
  df : seqLike K fd.defaults = true
  cd : codeIn K fd.code fd.qualname = true
  ks : ∀ x ∈ ln.take np, fd.scope.names.lookup x = some .local ∨ fd.scope.names.lookup x = some .cell
theorem isEmpty_of {α : Type} {l : List α} (h : l.isEmpty = true) : l = [] := List.isEmpty_iff.mp h
theorem isNone_of {α : Type} {l : Option α} (h : l.isNone = true) : l = none := Option.isNone_iff_eq_none.mp h
theorem fdF_of {K : Frag} {np : Nat} {ln : List Str} {b : Ss} {fd : FuncData} (h : fdOk K np ln b fd = true) : FdF K np ln b fd :=
  and_el h fun h c17 => and_el h fun h c16 => and_el h fun h c15 => and_el h fun h c14 => and_el h fun h c13 => and_el h fun h c12 => and_el h fun h c11 => and_el h fun h c10 => and_el h fun h c9 => and_el h fun h c8 =>
  and_el h fun h c7 => and_el h fun h c6 => and_el h fun h c5 => and_el h fun h c4 => and_el h fun h c3 => and_el h fun c1 c2 =>
  have c6 := of_decide_eq_true c6
  ⟨isEmpty_of c1, isEmpty_of c2, isNone_of c3, isNone_of c4, eq_of_beq c5, by rw [List.length_take, Nat.min_eq_left c6], c6, of_decide_eq_true c7,
    by unfold isStmts at c8; cases e : fd.body <;> rw [e] at c8 <;> first | exact ⟨_, rfl, c8⟩ | exact Bool.noConfusion (show false = true from c8),
    eq_of_beq c9, not_of' c10, not_of' c11, eq_of_beq c12, eq_of_beq c13, isEmpty_of c14, c15, c16, fun x hx => ((Bool.or_eq_true ..).mp (List.all_eq_true.mp c17 x hx)).imp eq_of_beq eq_of_beq⟩

theorem cellsFrom_has (x : Str) : ∀ (names : List (Str × NameKind)) (n : Nat) (acc : List (Str × Addr)), (x, NameKind.cell) ∈ names ∨ (acc.lookup x).isSome = true → ((cellsFrom n names acc).lookup x).isSome = true := by
  intro names
  induction names with
  | nil => intro n acc h; exact h.elim (fun h => nomatch h) id
  | cons p r ih =>
    obtain ⟨name, kind⟩ := p
    intro n acc h
    unfold cellsFrom
    by_cases hk : (kind == NameKind.cell) = true
    · rw [if_pos hk]
      refine ih _ _ ?_
      rw [List.lookup_cons]
      cases q : x == name with
      | true => exact .inr rfl
      | false => exact h.imp (fun h => (List.mem_cons.mp h).resolve_left fun e => by rw [(Prod.mk.inj e).1, beq_self_eq_true] at q; cases q) id
    · rw [if_neg hk]
      exact ih _ _ (h.imp (fun h => (List.mem_cons.mp h).resolve_left fun e => hk (by rw [← (Prod.mk.inj e).2]; rfl)) id)

theorem bindL_out (k : Str → Option NameKind) (x : Str) : ∀ (l : List (Str × Value)) (m : Str → Option Value), (∀ v, (x, v) ∉ l) → bindL k l m x = m x := by
  intro l
  induction l with
  | nil => intro m _; rfl
  | cons p r ih =>
    obtain ⟨n, v⟩ := p
    intro m h
    unfold bindL
    rw [ih _ fun w hw => h w (List.mem_cons_of_mem _ hw)]
    by_cases q : k n = some .local
    · rw [if_pos q]
      exact if_neg (fun e => h v (by rw [e]; exact List.mem_cons_self))
    · rw [if_neg q]
theorem bindC_out (k : Str → Option NameKind) (x : Str) : ∀ (l : List (Str × Value)) (m : Str → Option Value), (∀ v, (x, v) ∉ l) → bindC k l m x = m x := by
  intro l
  induction l with
  | nil => intro m _; rfl
  | cons p r ih =>
    obtain ⟨n, v⟩ := p
    intro m h
    unfold bindC
    rw [ih _ fun w hw => h w (List.mem_cons_of_mem _ hw)]
    by_cases q : k n = some .local
    · rw [if_pos q]
    · rw [if_neg q]
      exact if_neg (fun e => h v (by rw [e]; exact List.mem_cons_self))
theorem bindL_at (k : Str → Option NameKind) {x : Str} {v : Value} (hk : k x = some .local) : ∀ (ps : List Str) (vals : List Value) (m : Str → Option Value) (i : Nat), ps.Nodup → ps[i]? = some x → vals[i]? = some v → bindL k (ps.zip vals) m x = some v := by
  intro ps
  induction ps with
  | nil => intro vals m i _ h _; cases h
  | cons p ps ih =>
    intro vals m i nd h1 h2
    cases vals with
    | nil => cases h2
    | cons w vals =>
      rw [List.zip_cons_cons]
      unfold bindL
      cases i with
      | zero =>
        obtain rfl := Option.some.inj h1
        obtain rfl := Option.some.inj h2
        rw [bindL_out k _ _ _ fun v hv => (List.nodup_cons.mp nd).1 (List.of_mem_zip hv).1, if_pos hk]
        exact if_pos rfl
      | succ i => exact ih vals _ i (List.nodup_cons.mp nd).2 h1 h2
theorem bindC_at (k : Str → Option NameKind) {x : Str} {v : Value} (hk : k x ≠ some .local) : ∀ (ps : List Str) (vals : List Value) (m : Str → Option Value) (i : Nat), ps.Nodup → ps[i]? = some x → vals[i]? = some v → bindC k (ps.zip vals) m x = some v := by
  intro ps
  induction ps with
  | nil => intro vals m i _ h _; cases h
  | cons p ps ih =>
    intro vals m i nd h1 h2
    cases vals with
    | nil => cases h2
    | cons w vals =>
      rw [List.zip_cons_cons]
      unfold bindC
      cases i with
      | zero =>
        obtain rfl := Option.some.inj h1
        obtain rfl := Option.some.inj h2
        rw [bindC_out k _ _ _ fun v hv => (List.nodup_cons.mp nd).1 (List.of_mem_zip hv).1, if_neg hk]
        exact if_pos rfl
      | succ i => exact ih vals _ i (List.nodup_cons.mp nd).2 h1 h2

section
variable {G : Gd} {P : Part} {W : Addr → Prop} {H : MH} {s : Shared} {n : Nat} {A : Around} {Q : V → MH → Prop} {ln : List Str} {b : Ss}

theorem St.out (x : St G P W H s) : St G P noW H s := by
  obtain ⟨D, d1, d2, d3⟩ := x.lay
  exact ⟨x.gens, x.os, x.pb, x.prot, x.sep, fun _ w => w.elim, D, d1, fun a c fs e => ⟨(d2 a c fs e).1, (d2 a c fs e).2.1, id⟩, d3⟩

noncomputable abbrev fr0 (ln : List Str) (args : List V) : List V := args ++ List.replicate (ln.length - args.length) .odd

theorem call_core {f : FId} {full : List V} {vs0 vs : List Value} {fc : Value} {fdct : Option Addr} {fd : FuncData} {fsl : Array (Option Value)} (hA : AOkI (n + 1) A) (x : St G P noW H s) (hv : vs.map V.of = full) (hK : G.K.lookup (fAddr G.K f) = some ⟨fc, fdct, .func fd, fsl⟩) (F : FdF G.K full.length ln b fd)
    (hb : ∀ {E : Value → Shared → Prop} {R : List (Str × Value) → Shared → Prop}, R ((ln.take full.length).zip vs) s → wpAny (model G.prog G.w) A.in1 (bindArgs fd ⟨vs0, []⟩) R E s)
    (h : wB G ln n b (fr0 ln full) (@lk _ ⟨fun fl _ H' => match fl with | .ret v => Q v H' | .next => Q .none H' | _ => False⟩) H) :
    codeAny (model G.prog G.w) A (.call (.ref (fAddr G.K f)) ⟨vs0, []⟩) (fun r s' => ∃ v H', r = .ok (.ret v) ∧ St G P noW H' s' ∧ Q (V.of v) H') s := by
  have hnd : (ln.take full.length).Nodup := F.nd.sublist (List.take_sublist _ _)
  obtain ⟨body, hbody, hchk⟩ := F.bd
  have ho := x.KI _ _ hK
  refine codeAny_call_function hA.depth ho rfl F.co F.ge hbody (codeRec_of x.KI F.cd) (hb ?_)
  rw [F.cl]
  refine wpAny_newFunctionEnv_cells F.fn (fun y hy => (F.ks y.1 (List.of_mem_zip (show (y.1, y.2) ∈ _ from hy)).1).elim .inl fun e => .inr ⟨e, cellsFrom_has _ _ _ _ (.inl (mem_of_lookup e))⟩) fun env he s₁ X => ?_
  have X' := X.toInCall
  obtain ⟨h₁, tk, hs1, hk1⟩ := X.done
  have hsc : env.scope = fd.scope := by rw [he]; rfl
  have hloc : env.locals = s.heap.objs.size := by rw [he]; rfl
  have hcells : env.cells = cellsFrom (s.heap.objs.size + 1) fd.scope.names [] := by rw [he]; rfl
  have hE : EnvOK fd.scope env := ⟨hsc, by rw [he]; exact F.gl, by rw [he]; exact F.bi, F.fn⟩
  clear he hb
  have hown : ∀ a, Own env a → noW a ∨ (s.heap.objs.size ≤ a ∧ ∃ o, s₁.heap.get? a = some o ∧ noSeq o) := fun a w => .inr (by
    rcases w with w | ⟨y, hy, hc⟩
    · rw [w]; exact ⟨Nat.le_of_eq hloc.symm, noSeq_ns X'.ns⟩
    · exact ⟨hloc ▸ Nat.le_of_lt (X.above y a (mem_of_lookup hc)), noSeq_cell (X.cell y a hc)⟩)
  have st := x.inner (W' := Own env) (s₁ := s₁) X'.keep (by rw [hs1]) (by rw [hs1]) hown
  have eP : lockP P (fun a => noW a ∧ ¬ Own env a) s₁.heap = P := funext fun a => if_neg fun q => q.1
  rw [eP] at st
  have hget : ∀ i, (fr0 ln full).getD i .odd ≠ .odd → ∃ v, vs[i]? = some v ∧ V.of v = (fr0 ln full).getD i .odd ∧ i < full.length := fun i ho => by
    rw [List.getD_eq_getElem?_getD] at ho ⊢
    rcases Nat.lt_or_ge i full.length with hi | hi
    · rw [List.getElem?_append_left hi] at ho ⊢
      rw [← hv, List.getElem?_map] at ho ⊢
      cases q : vs[i]? with
      | none => rw [q] at ho; exact absurd rfl ho
      | some v => exact ⟨v, rfl, rfl, by rw [hv]; exact hi⟩
    · rw [List.getElem?_append_right hi, List.getElem?_replicate] at ho
      by_cases q : i - full.length < ln.length - full.length
      · rw [if_pos q] at ho; exact absurd rfl ho
      · rw [if_neg q] at ho; exact absurd rfl ho
  have z : Sit G ln P env (fr0 ln full) H s₁ := by
    refine ⟨st, ⟨?_, ⟨_, X'.ns, fun i y hi hy ho => ?_⟩, fun y hy => ?_, fun y y' c hy hy' hc hc' => ?_, fun y c hy hc => ?_⟩⟩
    · rw [List.length_append, List.length_replicate, Nat.add_sub_of_le F.nl]
    · obtain ⟨v, hv1, hv2, hi'⟩ := hget i ho
      exact ⟨v, bindL_at _ hy _ _ _ i hnd (by rw [List.getElem?_take, if_pos hi']; exact hi) hv1, hv2⟩
    · have hm : (y, NameKind.cell) ∈ fd.scope.names := mem_of_lookup (by rw [← hsc]; exact hy)
      have hs := cellsFrom_has y fd.scope.names (s.heap.objs.size + 1) [] (.inl hm)
      rw [← hcells] at hs
      obtain ⟨c, hc⟩ := Option.isSome_iff_exists.mp hs
      refine ⟨c, _, hc, X.cell y c hc, fun i hi ho => ?_⟩
      obtain ⟨v, hv1, hv2, hi'⟩ := hget i ho
      exact ⟨v, bindC_at _ (by rw [hy]; decide) _ _ _ i hnd (by rw [List.getElem?_take, if_pos hi']; exact hi) hv1, hv2⟩
    · exact name_of_addr X.apart (mem_of_lookup hc) (mem_of_lookup hc')
    · exact Nat.ne_of_gt (X.above y c (mem_of_lookup hc))
  refine ⟨x.lim.keeps X'.keep, codeAny_func (ofno (wpAny_mono (sb b hchk F.nd (hA.deeper env) hE z h) (fun fl s' q => ?_) fun _ _ x => x))⟩
  obtain ⟨fr', H', z', q⟩ := q
  cases fl with
  | ret v => exact ⟨v, H', rfl, z'.st.out, q⟩
  | next => exact ⟨.none, H', rfl, z'.st.out, q⟩
  | brk => exact q.elim
  | cont => exact q.elim
theorem WCall.intro {f : FId} {args : List V} (hf : fnOk G.K f args.length ln b = true)
    (h : wB G ln n b (fr0 ln args) (@lk _ ⟨fun fl _ H' => match fl with | .ret v => Q v H' | .next => Q .none H' | _ => False⟩) H) : WCall G (n + 1) f args Q H := by
  intro P A s vs hA x hv
  refine fnAt_el hf fun fc fdct fd fsl hK hf => ?_
  have F := fdF_of hf
  refine call_core (full := args) hA x hv hK F (fun {E R} hR => binds_plain F.po F.ko F.va F.kw F.ps (F.nd.sublist (List.take_sublist _ _)) (by rw [F.len, ← hv, List.length_map]) (fun R hR => ?_) hR) h
  have df := F.df
  cases e : fd.defaults <;> rw [e] at df <;> first | exact Bool.noConfusion (show false = true from df) | skip
  · exact wpAny_pure (hR _)
  · exact seqAt_el df fun _ _ _ _ _ q _ => wpAny_seqItems (x.KI _ _ q) rfl (hR _)
end
end Mine
end
-- part M26
section
open PySem PySem.Calls PyProof.Rows PySem.W Builtin Builtin.ObjectAttr
set_option maxHeartbeats 4000000
set_option maxRecDepth 100000
namespace Mine
section
variable {G : Gd} {P : Part} {W : Addr → Prop} {H : MH} {s : Shared} {n : Nat} {A : Around} {ln : List Str}

theorem WCall.mono {f : FId} {args : List V} {Q R : V → MH → Prop} (h : WCall G n f args Q H) (hr : ∀ v H', Q v H' → R v H') : WCall G n f args R H :=
  fun P A s vs hA x hv => codeAny_mono (h P A s vs hA x hv) fun r s' ⟨v, H', e, st, q⟩ => ⟨v, H', e, st, hr _ _ q⟩
theorem WCall.sub {f : FId} {args : List V} {Q : V → MH → Prop} {H₂ : MH} (hs : Sub H₂ H) (h : WCall G n f args Q H₂) : WCall G n f args Q H :=
  fun P A s vs hA x hv => h P A s vs hA (x.sub hs) hv

theorem tests_false {env : Env} : ∀ (xs : List Expr), (forIn xs false fun c r => if r = true then do let ok ← isTrue c env (eval c env); pure (ForInStep.yield ok) else pure (ForInStep.yield r)) = (pure false : Sem Bool) := by
  intro xs
  induction xs with
  | nil => rfl
  | cons x xs ih => rw [List.forIn_cons, if_neg (by decide), pure_bind]; exact ih
theorem tests_eq {env : Env} : ∀ (xs : List Expr), (forIn xs true fun c r => if r = true then do let ok ← isTrue c env (eval c env); pure (ForInStep.yield ok) else pure (ForInStep.yield r)) = allTrue .And xs env := by
  intro xs
  induction xs with
  | nil => rfl
  | cons x xs ih =>
    rw [List.forIn_cons, if_pos rfl, arm_allTrue_cons, bind_assoc]
    congr 1
    funext b
    rw [pure_bind]
    cases b with
    | false => exact tests_false xs
    | true => exact ih
theorem bind_ {α β : Type} {M : Model} {A : Around} {t : Sem α} {f : α → Sem β} {R : α → Shared → Prop} {Q : β → Shared → Prop} {E : Value → Shared → Prop} {s : Shared} (h : wpAny M A t R no s) (k : ∀ a s', R a s' → wpAny M A (f a) Q E s') : wpAny M A (t >>= f) Q E s :=
  wpAny_bind (ofno (wpAny_mono h k fun _ _ x => x))
theorem mono_ {α : Type} {M : Model} {A : Around} {t : Sem α} {R Q : α → Shared → Prop} {s : Shared} (h : wpAny M A t R no s) (k : ∀ a s', R a s' → Q a s') : wpAny M A t Q no s := wpAny_mono h k fun _ _ x => x
theorem ite_no {b : Bool} {M : Model} {A : Around} {t u : Sem Unit} {Q : Unit → Shared → Prop} {E : Value → Shared → Prop} {s : Shared} (hb : b = false) (h : wpAny M A u Q E s) : wpAny M A (if b = true then t else u) Q E s := by
  cases b with
  | false => exact h
  | true => cases hb
theorem owned_go {t : Expr} {it : Addr} {v : Value} {o : Obj} {src : Src} {M : Model} {E : Value → Shared → Prop} {Q : Unit → Shared → Prop} (hg : s.heap.get? it = some o) (ho : SrcO o src) (h : Q () s) : wpAny M A (letOwnedTupleGo t (.ref it) v) Q E s := by
  have core : ∀ (T : String) (vs : Array Value), (["enumerate", "zip", "dict_itemiterator", "dict_reverseitemiterator", "odict_iterator", "itertools.zip_longest", "itertools.pairwise"].contains T) = false → o.cls = .type T → o.data = .fields vs → ∀ xs c p a, wpAny M A (letOwnedTupleGo (.Tuple xs c p) (.ref it) (.ref a)) Q E s := by
    intro T vs hT hc hd xs c p a
    obtain ⟨_, _, _, _⟩ := o
    cases hc
    cases hd
    exact wpAny_bind (wpAny_load hg (ite_no (Bool.and_eq_false_imp.mpr fun q => Bool.noConfusion (hT.symm.trans q)) (wpAny_pure h)))
  have all : ∀ xs c p a, wpAny M A (letOwnedTupleGo (.Tuple xs c p) (.ref it) (.ref a)) Q E s := by
    cases src with
    | lst a i => exact core _ _ (by decide) ho.1 ho.2
    | tup a i => exact core _ _ (by decide) ho.1 ho.2
    | byt xs i => obtain ⟨b, t', h1, h2, _⟩ := ho; exact core _ _ (by decide) h1 h2
    | rng x l st => rw [show o = _ from ho] at core; exact core _ _ (by decide) rfl rfl
  clear core hg ho
  cases t <;> first | exact wpAny_pure h | (cases v <;> first | exact wpAny_pure h | exact all _ _ _ _ | exact all [] default default _)

noncomputable def turnEnd (M : Model) (A : Around) (c : Code) (R : Result → Shared → Prop) : Flow → Shared → Prop
  | .next, s => codeAny M A c R s
  | .cont, s => codeAny M A c R s
  | .brk, s => R (.ok .next) s
  | .ret v, s => R (.ok (.ret v)) s
section
variable {t : Expr} {b : List Stmt} {env : Env} {it acc : Value} {M : Model} {R : Result → Shared → Prop} {s : Shared} {prog : Program} {w : World} {B : Bool → Shared → Prop} {N : Option Value → Shared → Prop}
theorem turn_of {c : Code} (hq : c.quiet = true) {f : Flow} {E : Value → Shared → Prop} : turnEnd M A c R f s →
    wpAny M A (match f with | .next => again c | .cont => again c | .brk => pure (.done .next) | .ret v => pure (.done (.ret v)) : Sem Fin) (fun fin s' => match fin with | .done f => R (.ok f) s' | .again c' => c'.quiet = true ∧ codeAny M A c' R s') E s := by
  intro h
  cases f with
  | next => exact wpAny_pure ⟨hq, h⟩
  | cont => exact wpAny_pure ⟨hq, h⟩
  | brk => exact wpAny_pure h
  | ret v => exact wpAny_pure h
theorem while_code (h : wpAny (model prog w) A (isTrue t env (eval t env)) B no s) (h1 : ∀ s', B false s' → R (.ok .next) s')
    (h2 : ∀ s', B true s' → wpAny (model prog w) A (execs b env) (turnEnd (model prog w) A (.whileLoop t b [] env) R) no s') : codeAny (model prog w) A (.whileLoop t b [] env) R s := by
  refine codeAny_of_tree ?_
  show wpAny _ A ((whileTurn t b [] env).onRaise (fun x => do noteFrame x env; theTreesLotGoes x)) _ _ s
  refine wpAny_noted (bind_ h fun v s' q => ?_)
  cases v with
  | false => exact wpAny_bind (wpAny_execs_nil (wpAny_pure (h1 _ q)))
  | true => exact bind_ (h2 _ q) fun f s' q => turn_of rfl q
theorem for_code (h : wpAny (model prog w) A (pyNext it) N no s) (h1 : ∀ s', N none s' → R (.ok .next) s')
    (h2 : ∀ v s', N (some v) s' → wpAny (model prog w) A (letOwnedTupleGo t it v) (fun _ s' => wpAny (model prog w) A (assign t env v) (fun _ s' => wpAny (model prog w) A (execs b env) (turnEnd (model prog w) A (.forLoop t it b [] env) R) no s') no s') no s') :
    codeAny (model prog w) A (.forLoop t it b [] env) R s := by
  refine codeAny_of_tree ?_
  show wpAny _ A ((forTurn t it b [] env).onRaise (fun x => do noteFrame x env; theTreesLotGoes x)) _ _ s
  refine wpAny_noted (wpAny_bind (wpAny_standAt (bind_ (wpAny_onRaise (ofno h)) fun v s' q => ?_)))
  cases v with
  | none => exact wpAny_pure ⟨rfl, codeAny_block (wpAny_execs_nil (h1 _ q))⟩
  | some v => exact bind_ (h2 v _ q) fun _ s' q => bind_ q fun _ s' q => bind_ q fun f s' q => turn_of rfl q
theorem comp_code {elt target iter : Expr} {ifs : List Expr} {sc : Scope} {pos : Pos} (h : wpAny (model prog w) A (pyNext it) N no s) (h1 : ∀ s', N none s' → R (.ok .next) s')
    (h2 : ∀ v s', N (some v) s' → wpAny (model prog w) A (letOwnedTupleGo target it v) (fun _ s' => wpAny (model prog w) A (assign target env v) (fun _ s' => wpAny (model prog w) A (allTrue .And ifs env) (fun b s' => cond b (wpAny (model prog w) A (eval elt env) (fun x s' => wpAny (model prog w) A (call (.builtin "list.append") [acc, x])
      (fun _ s' => codeAny (model prog w) A (.compLoop (.ListComp elt [⟨target, iter, ifs, 0⟩] sc pos) 0 it acc env) R s') no s') no s') (codeAny (model prog w) A (.compLoop (.ListComp elt [⟨target, iter, ifs, 0⟩] sc pos) 0 it acc env) R s')) no s') no s') no s') :
    codeAny (model prog w) A (.compLoop (.ListComp elt [⟨target, iter, ifs, 0⟩] sc pos) 0 it acc env) R s := by
  refine codeAny_of_tree ?_
  show wpAny _ A ((compTurn (.ListComp elt [⟨target, iter, ifs, 0⟩] sc pos) 0 it acc env).onRaise (fun x => do noteFrame x env; theTreesLotGoes x)) _ _ s
  refine wpAny_noted ?_
  rw [compTurn_list]
  refine wpAny_bind (wpAny_standAt (bind_ h fun v s' q => ?_))
  cases v with
  | none => exact wpAny_pure (h1 _ q)
  | some v =>
    refine bind_ (h2 v _ q) fun _ s' q => bind_ q fun _ s' q => ?_
    dsimp only
    rw [tests_eq]
    refine bind_ q fun b s' q => ?_
    cases b with
    | false => exact wpAny_pure ⟨rfl, q⟩
    | true => exact wpAny_bind (bind_ q fun x s' q => bind_ q fun _ s' q => wpAny_pure (wpAny_pure ⟨rfl, q⟩))
end
theorem next_el {C : Prop} {r : Option (Option (V × Src))} {X : Prop} {Y : V → Src → Prop} (h : match r with | none => False | some none => X | some (some (v, src')) => Y v src') (k1 : r = some none → X → C) (k2 : ∀ v src', r = some (some (v, src')) → Y v src' → C) : C := by
  cases r with
  | none => exact h.elim
  | some r =>
    cases r with
    | none => exact k1 rfl h
    | some p => exact k2 _ _ rfl h
theorem pnext_el {C : Prop} {env : Env} {fr : List V} {it : Addr} {w : V} {src' : Src} {r : Option Value} (q : PNext G ln P env fr H it (some (w, src')) r s) (k : ∀ v o', r = some v → V.of v = w → SrcO o' src' → Sit G ln (P.put it o') env fr H s → C) : C :=
  q.elim fun v q => q.elim fun o' q => k v o' q.1 q.2.1 q.2.2.1 q.2.2.2
theorem Part.pb {G : Gd} {P : Part} {it : Addr} {o : Obj} (h : ∀ b o', G.base.get? b = some o' → P.put it o b = some o') (base : G.base.get? it = none) : ∀ b o', G.base.get? b = some o' → P b = some o' := fun b o' e => by
  have := h b o' e
  rw [Part.put_ne _ _ (fun q => by rw [q, base] at e; exact clash rfl e)] at this; exact this

noncomputable def whileEnd (G : Gd) (ln : List Str) (n : Nat) (t : E) (b : Ss) (Q : Fl → List V → MH → Prop) : Fl → List V → MH → Prop :=
  fun fl fr' H => match fl with | .next => WWhile G ln n t b fr' Q H | .cont => WWhile G ln n t b fr' Q H | .brk => Q .next fr' H | .ret v => Q (.ret v) fr' H
theorem WWhile.step {t : E} {b : Ss} {fr : List V} {Q : Fl → List V → MH → Prop} (nd : ln.Nodup)
    (h : wC G ln n t fr (@lk (MH → Prop) ⟨wB G ln n b fr (@lk _ ⟨fun fl fr' H => match fl with | .next => WWhile G ln n t b fr' Q H | .cont => WWhile G ln n t b fr' Q H | .brk => Q .next fr' H | .ret v => Q (.ret v) fr' H⟩)⟩) (@lk (MH → Prop) ⟨Q .next fr⟩) H) : WWhile G ln n t b fr Q H := by
  intro sc rt rb hc hb P A s env hA hE z
  refine while_code ((sa t).tr hc nd hA hE z (T := wB G ln n b fr (whileEnd G ln n t b Q)) h) (fun s' q => q.elim fun H' q => ⟨.next, fr, H', rfl, q.1, q.2⟩) (fun s' q => q.elim fun H' q => mono_ (sb b hb nd hA hE q.1 q.2) fun f s' q => q.elim fun fr2 q => q.elim fun H2 q => ?_)
  clear h
  cases f with
  | next => exact q.2 sc rt rb hc hb P A s' env hA hE q.1
  | cont => exact q.2 sc rt rb hc hb P A s' env hA hE q.1
  | brk => exact ⟨.next, fr2, H2, rfl, q.1, q.2⟩
  | ret v => exact ⟨.ret v, fr2, H2, rfl, q.1, q.2⟩

noncomputable def forEnd (G : Gd) (ln : List Str) (n : Nat) (t : Tgt) (b : Ss) (src' : Src) (Q : Fl → List V → MH → Prop) : Fl → List V → MH → Prop :=
  fun fl fr'' H => match fl with | .next => WFor G ln n t b src' fr'' Q H | .cont => WFor G ln n t b src' fr'' Q H | .brk => Q .next fr'' H | .ret v => Q (.ret v) fr'' H
theorem WFor.step {t : Tgt} {b : Ss} {src : Src} {fr : List V} {Q : Fl → List V → MH → Prop} (nd : ln.Nodup)
    (h : match src.next H with
      | none => False
      | some none => Q .next fr H
      | some (some (v, src')) => wT t v fr (@lk _ ⟨fun fr' => wB G ln n b fr' (@lk _ ⟨fun fl fr'' H => match fl with | .next => WFor G ln n t b src' fr'' Q H | .cont => WFor G ln n t b src' fr'' Q H | .brk => Q .next fr'' H | .ret v => Q (.ret v) fr'' H⟩)⟩) H) :
    WFor G ln n t b src fr Q H := by
  refine next_el (Y := fun v src' => wT t v fr (fun fr' => wB G ln n b fr' (forEnd G ln n t b src' Q)) H) h (fun e h sc rt rb hc hb P A s env it o hA hE hp base ho z => ?_) fun w src' e h sc rt rb hc hb P A s env it o hA hE hp base ho z => ?_
  · exact for_code (p_next z hA hp (Part.pb z.pb base) ho e) (fun s' q => ⟨.next, fr, H, rfl, q.2, h⟩) fun v s' q => clash rfl q.1.symm
  · have pb := Part.pb z.pb base
    refine for_code (p_next z hA hp pb ho e) (fun s' q => pnext_el q fun v o' q => clash rfl q) fun v s' q => pnext_el q fun v o' ev ew ho' z' => ?_
    cases ev
    rw [← ew] at h
    refine owned_go (z'.st.prot it o' (Part.put_same _ _ _)) ho' (mono_ (p_target hc nd hA hE z' h) fun _ s' q => q.elim fun fr2 q => q.elim fun H2 q => mono_ (sb b hb nd hA hE q.1 q.2) fun f s' q => q.elim fun fr3 q => q.elim fun H3 q => ?_)
    clear h
    cases f with
    | next => exact q.2 sc rt rb hc hb P A _ env it o' hA hE hp base ho' q.1
    | cont => exact q.2 sc rt rb hc hb P A _ env it o' hA hE hp base ho' q.1
    | brk => exact ⟨.next, fr3, H3, rfl, q.1.drop hp pb, q.2⟩
    | ret v => exact ⟨.ret v, fr3, H3, rfl, q.1.drop hp pb, q.2⟩

theorem acc_el {C : Prop} {m : Option MO} {X : List V → Prop} (h : match m with | some (.list xs) => X xs | _ => False) (k : ∀ xs, m = some (.list xs) → X xs → C) : C := by
  cases m with
  | none => exact h.elim
  | some m => cases m <;> first | exact h.elim | exact k _ rfl h
noncomputable def compEnd (G : Gd) (ln : List Str) (n : Nat) (elt : E) (t : Nat) (conds : Es) (src' : Src) (acc : Addr) (fr : List V) (Q : MH → Prop) : V → MH → Prop := fun x H => match H acc with
            | some (.list xs) => xs.length < big ∧ x ≠ .odd ∧ WComp G ln n elt t conds src' acc fr Q (upd H acc (.list (xs ++ [x])))
            | _ => False
theorem WComp.step {elt : E} {t : Nat} {conds : Es} {src : Src} {acc : Addr} {fr : List V} {Q : MH → Prop} (nd : ln.Nodup)
    (h : match src.next H with
      | none => False
      | some none => Q H
      | some (some (v, src')) => wCs true G ln n conds (fr.set t v)
          (@lk (MH → Prop) ⟨wE G ln n elt (fr.set t v) (@lk _ ⟨fun x H => match H acc with
            | some (.list xs) => xs.length < big ∧ x ≠ .odd ∧ WComp G ln n elt t conds src' acc (fr.set t v) Q (upd H acc (.list (xs ++ [x])))
            | _ => False⟩)⟩)
          (@lk _ ⟨fun H => WComp G ln n elt t conds src' acc (fr.set t v) Q H⟩) H) : WComp G ln n elt t conds src acc fr Q H := by
  refine next_el (Y := fun v src' => wCs true G ln n conds (fr.set t v) (wE G ln n elt (fr.set t v) (compEnd G ln n elt t conds src' acc (fr.set t v) Q)) (fun H => WComp G ln n elt t conds src' acc (fr.set t v) Q H) H) h
    (fun e h sc cs relt rit y p pos ifs hc1 hc2 hc3 P A s env it o hA hE hp base ho z => ?_) fun w src' e h sc cs relt rit y p pos ifs hc1 hc2 hc3 P A s env it o hA hE hp base ho z => ?_
  · exact comp_code (p_next z hA hp (Part.pb z.pb base) ho e) (fun s' q => ⟨.next, fr, H, rfl, q.2, fun _ _ => rfl, h⟩) fun v s' q => clash rfl q.1.symm
  · refine comp_code (p_next z hA hp (Part.pb z.pb base) ho e) (fun s' q => pnext_el q fun v o' q => clash rfl q) fun v s' q => pnext_el q fun v o' ev ew ho' z' => ?_
    cases ev
    have back : ∀ {s' : Shared} {H' : MH}, Sit G ln (P.put it o') env (fr.set t w) H' s' → WComp G ln n elt t conds src' acc (fr.set t w) Q H' → _ := fun z q => codeAny_mono (q sc cs relt rit y p pos ifs hc1 hc2 hc3 P A _ env it o' hA hE hp base ho' z)
      fun r s' q => q.elim fun f q => q.elim fun fr' q => q.elim fun H' q => (⟨f, fr', H', q.1, q.2.1, fun j hj => (q.2.2.1 j hj).trans (lookup_getD_set hj _), q.2.2.2⟩ : ∃ f fr' H', r = .ok f ∧ Sit G ln P env fr' H' s' ∧ (∀ j, j ≠ t → fr'.getD j .odd = fr.getD j .odd) ∧ Q H')
    refine owned_go (z'.st.prot it o' (Part.put_same _ _ _)) ho' (mono_ (p_target (t := .v t) (Q := fun fr' H' => fr' = fr.set t w ∧ H' = H) hc1 nd hA hE z' ⟨by rw [ew], rfl⟩) fun _ s' q => q.elim fun fr2 q => q.elim fun H2 q => ?_)
    obtain ⟨z2, rfl, rfl⟩ := q
    refine mono_ ((sl conds).tr (all := true) hc3 nd hA hE z2 h) fun b s' q => q.elim fun H3 q => ?_
    cases b with
    | false => exact back q.1 q.2
    | true => exact mono_ ((sa elt).ev hc2 nd hA hE q.1 q.2) fun x s' q => q.elim fun H4 q => acc_el q.2 fun xs e4 r => mono_ (p_append (Q := fun _ H' => H' = upd H4 acc (.list (xs ++ [V.of x]))) q.1 e4 r.1 rfl) fun _ s' q => q.elim fun H5 q => back (q.2 ▸ q.1) r.2.2
end
end Mine
end
-- part P1
section
open PySem PySem.Calls PyProof.Rows PySem.W
set_option maxRecDepth 100000
namespace Mine
noncomputable def p_check_range_ln : List Str := ["octets", "start", "most"]
noncomputable def p_check_range : Ss := (.cons (.ife (.not (.cmp2 .LtE .LtE (.int 0) (.loc 1) (.bi 0 (.cons (.loc 0) .nil)))) (.cons .raise .nil) .nil) (.cons (.ife (.cmp .Lt (.loc 2) (.int 0)) (.cons .raise .nil) .nil) .nil))
noncomputable def p_step_size_ln : List Str := ["step"]
noncomputable def p_step_size : Ss := (.cons (.ret (.ife (.cmp .Eq (.sub (.loc 0) (.int 0)) (.int 0)) (.int 1) (.sub (.loc 0) (.int 0)))) .nil)
noncomputable def p_Trail_init_ln : List Str := ["self", "finder"]
noncomputable def p_Trail_init : Ss := (.cons (.sattr (.loc 0) 14 (.loc 1)) (.cons (.sattr (.loc 0) 15 (.bi 3 (.cons (.attr (.loc 1) 4) (.cons (.gint "LEAST_MATCH" 2) .nil)))) (.cons (.sattr (.loc 0) 16 (.int 0)) .nil)))
noncomputable def p_Trail_up_to_wt0 : E := (.cmp .Lt (.attr (.loc 0) 16) (.loc 1))
noncomputable def p_Trail_up_to_wb1 : Ss := (.cons (.expr (.meth (.attr (.loc 0) 14) 26 (.cons (.attr (.loc 0) 16) .nil))) (.cons (.sattr (.loc 0) 16 (.bin .Add (.attr (.loc 0) 16) (.int 1))) .nil))
noncomputable def p_Trail_up_to_ln : List Str := ["self", "place"]
noncomputable def p_Trail_up_to : Ss := (.cons (.while p_Trail_up_to_wt0 p_Trail_up_to_wb1) .nil)
noncomputable def p_Trail_best_ln : List Str := ["self", "place", "most", "length", "distance"]
noncomputable def p_Trail_best : Ss := (.cons (.expr (.meth (.loc 0) 37 (.cons (.loc 1) .nil))) (.cons (.asg (.tup [3, 4]) (.meth (.attr (.loc 0) 14) 33 (.cons (.loc 1) (.cons (.loc 2) .nil)))) (.cons (.ret (.ife (.cmp .Lt (.loc 3) (.attr (.loc 0) 15)) (.tup (.cons (.int 0) (.cons (.int 0) .nil))) (.tup (.cons (.loc 3) (.cons (.loc 4) .nil))))) .nil)))
noncomputable def p_Trail_every_ce0 : E := (.loc 3)
noncomputable def p_Trail_every_cc1 : Es := (.cons (.cmp .GtE (.sub (.loc 3) (.int 0)) (.attr (.loc 0) 15)) .nil)
noncomputable def p_Trail_every_ln : List Str := ["self", "place", "most", "match"]
noncomputable def p_Trail_every : Ss := (.cons (.expr (.meth (.loc 0) 37 (.cons (.loc 1) .nil))) (.cons (.ret (.comp p_Trail_every_ce0 3 (.meth (.attr (.loc 0) 14) 32 (.cons (.loc 1) (.cons (.loc 2) .nil))) p_Trail_every_cc1)) .nil))
noncomputable def p_greedy_wt0 : E := (.cmp .Lt (.loc 6) (.bi 0 (.cons (.loc 0) .nil)))
noncomputable def p_greedy_wb1 : Ss := (.cons (.asg (.v 7) (.meth (.loc 4) 33 (.cons (.loc 6) (.cons (.loc 3) .nil)))) (.cons (.asg (.v 8) (.ife (.eqPair (.loc 7) 0 0) (.tup (.cons (.int 0) (.cons (.sub (.loc 0) (.loc 6)) .nil))) (.loc 7))) (.cons (.expr (.meth (.loc 5) 42 (.cons (.loc 8) .nil))) (.cons (.asg (.v 6) (.bin .Add (.loc 6) (.call "step_size" (.cons (.loc 8) .nil)))) .nil))))
noncomputable def p_greedy_ln : List Str := ["octets", "start", "finder", "most", "trail", "steps", "place", "match", "step"]
noncomputable def p_greedy : Ss := (.cons (.expr (.call "check_range" (.cons (.loc 0) (.cons (.loc 1) (.cons (.loc 3) .nil))))) (.cons (.asgT [4, 5, 6] (.cons (.new 4 (.cons (.loc 2) .nil)) (.cons (.list .nil) (.cons (.loc 1) .nil)))) (.cons (.while p_greedy_wt0 p_greedy_wb1) (.cons (.ret (.loc 5)) .nil))))
noncomputable def p_Ways_init_ln : List Str := ["self", "size"]
noncomputable def p_Ways_init : Ss := (.cons (.sattr (.loc 0) 1 (.loc 1)) (.cons (.sattr (.loc 0) 17 (.bin .Add (.list (.cons (.int 0) .nil)) (.bin .Mult (.list (.cons .none .nil)) (.loc 1)))) (.cons (.sattr (.loc 0) 18 (.bin .Mult (.list (.cons .none .nil)) (.bin .Add (.loc 1) (.int 1)))) .nil)))
noncomputable def p_Ways_offer_ln : List Str := ["self", "at", "step", "cost", "there", "whole"]
noncomputable def p_Ways_offer : Ss := (.cons (.asg (.v 4) (.bin .Add (.loc 1) (.call "step_size" (.cons (.loc 2) .nil)))) (.cons (.ife (.cmp .Gt (.loc 4) (.attr (.loc 0) 1)) (.cons (.ret .none) .nil) .nil) (.cons (.asg (.v 5) (.bin .Add (.sub (.attr (.loc 0) 17) (.loc 1)) (.loc 3))) (.cons (.ife (.or (.cmp .Is (.sub (.attr (.loc 0) 17) (.loc 4)) .none) (.cons (.cmp .Lt (.loc 5) (.sub (.attr (.loc 0) 17) (.loc 4))) .nil)) (.cons (.ssub (.attr (.loc 0) 17) (.loc 4) (.loc 5)) (.cons (.ssub (.attr (.loc 0) 18) (.loc 4) (.loc 2)) .nil)) .nil) .nil))))
noncomputable def p_Ways_told_wt0 : E := (.cmp .Gt (.loc 2) (.int 0))
noncomputable def p_Ways_told_wb1 : Ss := (.cons (.expr (.meth (.loc 1) 42 (.cons (.sub (.attr (.loc 0) 18) (.loc 2)) .nil))) (.cons (.asg (.v 2) (.bin .Sub (.loc 2) (.call "step_size" (.cons (.sub (.attr (.loc 0) 18) (.loc 2)) .nil)))) .nil))
noncomputable def p_Ways_told_ln : List Str := ["self", "found", "at"]
noncomputable def p_Ways_told : Ss := (.cons (.asgT [1, 2] (.cons (.list .nil) (.cons (.attr (.loc 0) 1) .nil))) (.cons (.while p_Ways_told_wt0 p_Ways_told_wb1) (.cons (.ret (.rev (.loc 1))) .nil)))
noncomputable def p_least_wt0 : E := (.cmp .Lt (.loc 8) (.attr (.loc 7) 1))
noncomputable def p_least_fb1 : Ss := (.cons (.expr (.meth (.loc 7) 38 (.cons (.loc 8) (.cons (.tup (.cons (.loc 14) (.cons (.loc 13) .nil))) (.cons (.meth (.loc 4) 41 (.cons (.loc 14) (.cons (.loc 13) .nil))) .nil))))) .nil)
noncomputable def p_least_fb2 : Ss := (.cons (.for (.v 14) (.bi 7 (.cons (.attr (.loc 6) 15) (.cons (.bin .Add (.loc 12) (.int 1)) .nil))) p_least_fb1) .nil)
noncomputable def p_least_wb3 : Ss := (.cons (.asg (.v 9) (.bin .Add (.loc 1) (.loc 8))) (.cons (.asg (.v 10) (.meth (.loc 6) 32 (.cons (.loc 9) (.cons (.loc 3) .nil)))) (.cons (.expr (.meth (.loc 7) 38 (.cons (.loc 8) (.cons (.tup (.cons (.int 0) (.cons (.sub (.loc 0) (.loc 9)) .nil))) (.cons (.meth (.loc 4) 40 (.cons (.sub (.loc 0) (.loc 9)) .nil)) .nil))))) (.cons (.for (.tup [12, 13]) (.loc 10) p_least_fb2) (.cons (.asg (.v 11) (.int 1)) (.cons (.ife (.and (.cmp .IsNot (.loc 5) .none) (.cons (.nonEmpty (.loc 10)) (.cons (.cmp .GtE (.sub (.sub (.loc 10) (.neg 1)) (.int 0)) (.loc 5)) .nil))) (.cons (.asg (.v 11) (.sub (.sub (.loc 10) (.neg 1)) (.int 0))) .nil) .nil) (.cons (.asg (.v 8) (.bin .Add (.loc 8) (.loc 11))) .nil)))))))
noncomputable def p_least_ln : List Str := ["octets", "start", "finder", "most", "price", "enough", "trail", "ways", "at", "place", "matches", "taken", "length", "distance", "part"]
noncomputable def p_least : Ss := (.cons (.expr (.call "check_range" (.cons (.loc 0) (.cons (.loc 1) (.cons (.loc 3) .nil))))) (.cons (.asgT [6, 7, 8] (.cons (.new 4 (.cons (.loc 2) .nil)) (.cons (.new 5 (.cons (.bin .Sub (.bi 0 (.cons (.loc 0) .nil)) (.loc 1)) .nil)) (.cons (.int 0) .nil)))) (.cons (.while p_least_wt0 p_least_wb3) (.cons (.ret (.meth (.loc 7) 39 .nil)) .nil))))
noncomputable def p_price_of_fb0 : Ss := (.cons (.asg (.v 2) (.bin .Add (.loc 2) (.ife (.cmp .Eq (.loc 3) (.int 0)) (.meth (.loc 1) 40 (.cons (.loc 4) .nil)) (.meth (.loc 1) 41 (.cons (.loc 3) (.cons (.loc 4) .nil)))))) .nil)
noncomputable def p_price_of_ln : List Str := ["steps", "price", "whole", "first", "second"]
noncomputable def p_price_of : Ss := (.cons (.asg (.v 2) (.int 0)) (.cons (.for (.tup [3, 4]) (.loc 0) p_price_of_fb0) (.cons (.ret (.loc 2)) .nil)))
noncomputable def p_FlatPrice_init_ln : List Str := ["self", "literal", "match", "bit"]
noncomputable def p_FlatPrice_init : Ss := (.cons (.ife (.or (.cmp .Lt (.loc 1) (.int 0)) (.cons (.cmp .Lt (.loc 2) (.int 0)) (.cons (.cmp .Lt (.loc 3) (.int 0)) .nil))) (.cons .raise .nil) .nil) (.cons (.sattr (.loc 0) 19 (.loc 1)) (.cons (.sattr (.loc 0) 20 (.loc 2)) (.cons (.sattr (.loc 0) 21 (.loc 3)) .nil))))
noncomputable def p_FlatPrice_literal_ln : List Str := ["self", "octet"]
noncomputable def p_FlatPrice_literal : Ss := (.cons (.ret (.attr (.loc 0) 19)) .nil)
noncomputable def p_FlatPrice_match_ln : List Str := ["self", "length", "distance"]
noncomputable def p_FlatPrice_match : Ss := (.cons (.ife (.cmp .Eq (.attr (.loc 0) 21) (.int 0)) (.cons (.ret (.attr (.loc 0) 20)) .nil) .nil) (.cons (.ret (.bin .Add (.attr (.loc 0) 20) (.bin .Mult (.attr (.loc 0) 21) (.bin .Add (.sub (.call "slot_of" (.cons (.bin .Sub (.loc 1) (.gint "LEAST_MATCH" 2)) .nil)) (.int 1)) (.sub (.call "slot_of" (.cons (.bin .Sub (.loc 2) (.int 1)) .nil)) (.int 1)))))) .nil))
noncomputable def p_PlaceRow_init_ln : List Str := ["self", "octets", "size"]
noncomputable def p_PlaceRow_init : Ss := (.cons (.ife (.cmp .Lt (.loc 2) (.int 1)) (.cons .raise .nil) .nil) (.cons (.sattr (.loc 0) 0 (.loc 1)) (.cons (.sattr (.loc 0) 1 (.loc 2)) (.cons (.sattr (.loc 0) 2 .dict0) (.cons (.sattr (.loc 0) 3 (.bin .Mult (.list (.cons (.gint "NOWHERE" (-1)) .nil)) (.bi 0 (.cons (.loc 1) .nil)))) .nil)))))
noncomputable def p_PlaceRow_key_fb0 : Ss := (.cons (.asg (.v 2) (.bin .Add (.bin .Mult (.loc 2) (.int 256)) (.loc 3))) .nil)
noncomputable def p_PlaceRow_key_ln : List Str := ["self", "place", "number", "octet"]
noncomputable def p_PlaceRow_key : Ss := (.cons (.ife (.not (.cmp2 .LtE .LtE (.int 0) (.loc 1) (.bi 0 (.cons (.attr (.loc 0) 0) .nil)))) (.cons .raise .nil) .nil) (.cons (.ife (.cmp .Gt (.bin .Add (.loc 1) (.attr (.loc 0) 1)) (.bi 0 (.cons (.attr (.loc 0) 0) .nil))) (.cons (.ret .none) .nil) .nil) (.cons (.asg (.v 2) (.int 0)) (.cons (.for (.v 3) (.slice (.attr (.loc 0) 0) (.loc 1) (.bin .Add (.loc 1) (.attr (.loc 0) 1))) p_PlaceRow_key_fb0) (.cons (.ret (.loc 2)) .nil)))))
noncomputable def p_PlaceRow_put_ln : List Str := ["self", "place", "number"]
noncomputable def p_PlaceRow_put : Ss := (.cons (.asg (.v 2) (.meth (.loc 0) 25 (.cons (.loc 1) .nil))) (.cons (.ife (.cmp .IsNot (.loc 2) .none) (.cons (.ssub (.attr (.loc 0) 3) (.loc 1) (.meth (.attr (.loc 0) 2) 43 (.cons (.loc 2) (.cons (.gint "NOWHERE" (-1)) .nil)))) (.cons (.ssub (.attr (.loc 0) 2) (.loc 2) (.loc 1)) .nil)) .nil) .nil))
noncomputable def p_PlaceRow_newest_wt0 : E := (.cmp .GtE (.loc 3) (.loc 1))
noncomputable def p_PlaceRow_newest_wb1 : Ss := (.cons (.asg (.v 3) (.sub (.attr (.loc 0) 3) (.loc 3))) .nil)
noncomputable def p_PlaceRow_newest_ln : List Str := ["self", "place", "number", "other"]
noncomputable def p_PlaceRow_newest : Ss := (.cons (.asg (.v 2) (.meth (.loc 0) 25 (.cons (.loc 1) .nil))) (.cons (.ife (.cmp .Is (.loc 2) .none) (.cons (.ret (.gint "NOWHERE" (-1))) .nil) .nil) (.cons (.asg (.v 3) (.meth (.attr (.loc 0) 2) 43 (.cons (.loc 2) (.cons (.gint "NOWHERE" (-1)) .nil)))) (.cons (.while p_PlaceRow_newest_wt0 p_PlaceRow_newest_wb1) (.cons (.ret (.loc 3)) .nil)))))
noncomputable def p_Matcher_init_ln : List Str := ["self", "octets", "least", "window", "chain"]
noncomputable def p_Matcher_init : Ss := (.cons (.ife (.cmp .Lt (.loc 2) (.int 1)) (.cons .raise .nil) .nil) (.cons (.ife (.cmp .Lt (.loc 3) (.int 1)) (.cons .raise .nil) .nil) (.cons (.ife (.cmp .Lt (.loc 4) (.int 1)) (.cons .raise .nil) .nil) (.cons (.sattr (.loc 0) 0 (.bi 6 (.cons (.loc 1) .nil))) (.cons (.sattr (.loc 0) 4 (.loc 2)) (.cons (.sattr (.loc 0) 5 (.loc 3)) (.cons (.sattr (.loc 0) 6 (.loc 4)) (.cons (.sattr (.loc 0) 7 (.int 0)) .nil))))))))
noncomputable def p_Matcher_put_ln : List Str := ["self", "place"]
noncomputable def p_Matcher_put : Ss := (.cons (.ife (.or (.cmp .Lt (.loc 1) (.attr (.loc 0) 7)) (.cons (.cmp .GtE (.loc 1) (.bi 0 (.cons (.attr (.loc 0) 0) .nil))) .nil)) (.cons .raise .nil) .nil) (.cons (.sattr (.loc 0) 7 (.bin .Add (.loc 1) (.int 1))) (.cons (.expr (.meth (.loc 0) 28 (.cons (.loc 1) .nil))) .nil)))
noncomputable def p_Matcher_limit_ln : List Str := ["self", "place", "most"]
noncomputable def p_Matcher_limit : Ss := (.cons (.ret (.bi 2 (.cons (.loc 2) (.cons (.bin .Sub (.bi 0 (.cons (.attr (.loc 0) 0) .nil)) (.loc 1)) .nil)))) .nil)
noncomputable def p_Matcher_alike_wt0 : E := (.and (.cmp .Lt (.loc 3) (.loc 4)) (.cons (.cmp .Eq (.sub (.loc 5) (.bin .Add (.loc 1) (.loc 3))) (.sub (.loc 5) (.bin .Add (.loc 2) (.loc 3)))) .nil))
noncomputable def p_Matcher_alike_wb1 : Ss := (.cons (.aug 3 .Add (.int 1)) .nil)
noncomputable def p_Matcher_alike_ln : List Str := ["self", "place", "other", "known", "limit", "octets"]
noncomputable def p_Matcher_alike : Ss := (.cons (.asg (.v 5) (.attr (.loc 0) 0)) (.cons (.while p_Matcher_alike_wt0 p_Matcher_alike_wb1) (.cons (.ret (.loc 3)) .nil)))
noncomputable def p_Matcher_is_near_ln : List Str := ["self", "place", "other"]
noncomputable def p_Matcher_is_near : Ss := (.cons (.ret (.and (.cmp .NotEq (.loc 2) (.gint "NOWHERE" (-1))) (.cons (.cmp .LtE (.bin .Sub (.loc 1) (.loc 2)) (.attr (.loc 0) 5)) .nil))) .nil)
noncomputable def p_Matcher_best_ln : List Str := ["self", "place", "most", "found"]
noncomputable def p_Matcher_best : Ss := (.cons (.asg (.v 3) (.meth (.loc 0) 32 (.cons (.loc 1) (.cons (.loc 2) .nil)))) (.cons (.ret (.ife (.cmp .Gt (.bi 0 (.cons (.loc 3) .nil)) (.int 0)) (.sub (.loc 3) (.neg 1)) (.tup (.cons (.int 0) (.cons (.int 0) .nil))))) .nil))
noncomputable def p_Finder_init_ln : List Str := ["self", "octets", "least", "window", "chain"]
noncomputable def p_Finder_init : Ss := (.cons (.expr (.sup 7 24 (.cons (.loc 0) (.cons (.loc 1) (.cons (.loc 2) (.cons (.loc 3) (.cons (.loc 4) .nil))))))) (.cons (.sattr (.loc 0) 8 (.new 0 (.cons (.attr (.loc 0) 0) (.cons (.loc 2) .nil)))) .nil))
noncomputable def p_Finder_enter_ln : List Str := ["self", "place"]
noncomputable def p_Finder_enter : Ss := (.cons (.expr (.meth (.attr (.loc 0) 8) 26 (.cons (.loc 1) .nil))) .nil)
noncomputable def p_Finder_candidates_wt0 : E := (.and (.meth (.loc 0) 31 (.cons (.loc 1) (.cons (.loc 3) .nil))) (.cons (.cmp .Lt (.bi 0 (.cons (.loc 2) .nil)) (.attr (.loc 0) 6)) .nil))
noncomputable def p_Finder_candidates_wb1 : Ss := (.cons (.expr (.meth (.loc 2) 42 (.cons (.loc 3) .nil))) (.cons (.asg (.v 3) (.sub (.attr (.attr (.loc 0) 8) 3) (.loc 3))) .nil))
noncomputable def p_Finder_candidates_ln : List Str := ["self", "place", "found", "other"]
noncomputable def p_Finder_candidates : Ss := (.cons (.asg (.v 2) (.list .nil)) (.cons (.asg (.v 3) (.meth (.attr (.loc 0) 8) 27 (.cons (.loc 1) .nil))) (.cons (.while p_Finder_candidates_wt0 p_Finder_candidates_wb1) (.cons (.ret (.loc 2)) .nil))))
noncomputable def p_Finder_every_fb0 : Ss := (.cons (.ife (.cmp .GtE (.loc 3) (.loc 6)) (.cons .brk .nil) .nil) (.cons (.ife (.cmp .Eq (.sub (.attr (.loc 0) 0) (.bin .Add (.loc 4) (.loc 3))) (.sub (.attr (.loc 0) 0) (.bin .Add (.loc 1) (.loc 3)))) (.cons (.asg (.v 7) (.meth (.loc 0) 30 (.cons (.loc 1) (.cons (.loc 4) (.cons (.int 0) (.cons (.loc 6) .nil)))))) (.cons (.ife (.cmp .Gt (.loc 7) (.loc 3)) (.cons (.expr (.meth (.loc 5) 42 (.cons (.tup (.cons (.loc 7) (.cons (.bin .Sub (.loc 1) (.loc 4)) .nil))) .nil))) (.cons (.asg (.v 3) (.loc 7)) .nil)) .nil) .nil)) .nil) .nil))
noncomputable def p_Finder_every_ln : List Str := ["self", "place", "most", "longest", "other", "found", "limit", "count"]
noncomputable def p_Finder_every : Ss := (.cons (.asgT [5, 6] (.cons (.list .nil) (.cons (.meth (.loc 0) 29 (.cons (.loc 1) (.cons (.loc 2) .nil))) .nil))) (.cons (.asg (.v 3) (.bin .Sub (.attr (.loc 0) 4) (.int 1))) (.cons (.for (.v 4) (.meth (.loc 0) 34 (.cons (.loc 1) .nil)) p_Finder_every_fb0) (.cons (.ret (.loc 5)) .nil))))
noncomputable def p_TreeFinder_init_ln : List Str := ["self", "octets", "least", "window", "chain"]
noncomputable def p_TreeFinder_init : Ss := (.cons (.expr (.sup 7 24 (.cons (.loc 0) (.cons (.loc 1) (.cons (.loc 2) (.cons (.loc 3) (.cons (.loc 4) .nil))))))) (.cons (.sattr (.loc 0) 8 (.new 0 (.cons (.attr (.loc 0) 0) (.cons (.loc 2) .nil)))) (.cons (.sattr (.loc 0) 9 .dict0) (.cons (.sattr (.loc 0) 10 (.bin .Mult (.list (.cons (.gint "NOWHERE" (-1)) .nil)) (.bi 0 (.cons (.attr (.loc 0) 0) .nil)))) (.cons (.sattr (.loc 0) 11 (.bin .Mult (.list (.cons (.gint "NOWHERE" (-1)) .nil)) (.bi 0 (.cons (.attr (.loc 0) 0) .nil)))) .nil)))))
noncomputable def p_TreeFinder_hang_ln : List Str := ["self", "owner", "is_greater", "place"]
noncomputable def p_TreeFinder_hang : Ss := (.cons (.ife (.loc 2) (.cons (.ssub (.attr (.loc 0) 11) (.loc 1) (.loc 3)) .nil) (.cons (.ssub (.attr (.loc 0) 10) (.loc 1) (.loc 3)) .nil)) .nil)
noncomputable def p_TreeFinder_enter_ln : List Str := ["self", "place", "number", "other"]
noncomputable def p_TreeFinder_enter : Ss := (.cons (.asg (.v 2) (.meth (.attr (.loc 0) 8) 25 (.cons (.loc 1) .nil))) (.cons (.ife (.cmp .Is (.loc 2) .none) (.cons (.ret .none) .nil) .nil) (.cons (.asg (.v 3) (.meth (.attr (.loc 0) 9) 43 (.cons (.loc 2) (.cons (.gint "NOWHERE" (-1)) .nil)))) (.cons (.ssub (.attr (.loc 0) 9) (.loc 2) (.loc 1)) (.cons (.expr (.meth (.loc 0) 36 (.cons (.loc 1) (.cons (.loc 3) .nil)))) .nil)))))
noncomputable def p_TreeFinder_part_wt0 : E := (.and (.meth (.loc 0) 31 (.cons (.loc 1) (.cons (.loc 2) .nil))) (.cons (.cmp .Lt (.loc 4) (.attr (.loc 0) 6)) .nil))
noncomputable def p_TreeFinder_part_wb1 : Ss := (.cons (.aug 4 .Add (.int 1)) (.cons (.asg (.v 11) (.meth (.loc 0) 30 (.cons (.loc 1) (.cons (.loc 2) (.cons (.bi 2 (.cons (.loc 7) (.cons (.loc 10) .nil))) (.cons (.loc 3) .nil)))))) (.cons (.ife (.cmp .Eq (.loc 11) (.loc 3)) (.cons (.expr (.meth (.loc 0) 35 (.cons (.loc 5) (.cons (.loc 6) (.cons (.sub (.attr (.loc 0) 10) (.loc 2)) .nil))))) (.cons (.expr (.meth (.loc 0) 35 (.cons (.loc 8) (.cons (.loc 9) (.cons (.sub (.attr (.loc 0) 11) (.loc 2)) .nil))))) (.cons (.ret .none) .nil))) .nil) (.cons (.ife (.cmp .Lt (.sub (.attr (.loc 0) 0) (.bin .Add (.loc 2) (.loc 11))) (.sub (.attr (.loc 0) 0) (.bin .Add (.loc 1) (.loc 11)))) (.cons (.expr (.meth (.loc 0) 35 (.cons (.loc 5) (.cons (.loc 6) (.cons (.loc 2) .nil))))) (.cons (.asgT [5, 6, 7] (.cons (.loc 2) (.cons (.bool true) (.cons (.loc 11) .nil)))) (.cons (.asg (.v 2) (.sub (.attr (.loc 0) 11) (.loc 2))) .nil))) (.cons (.expr (.meth (.loc 0) 35 (.cons (.loc 8) (.cons (.loc 9) (.cons (.loc 2) .nil))))) (.cons (.asgT [8, 9, 10] (.cons (.loc 2) (.cons (.bool false) (.cons (.loc 11) .nil)))) (.cons (.asg (.v 2) (.sub (.attr (.loc 0) 10) (.loc 2))) .nil)))) .nil))))
noncomputable def p_TreeFinder_part_ln : List Str := ["self", "place", "other", "limit", "steps", "low", "low_is_greater", "low_count", "high", "high_is_greater", "high_count", "count"]
noncomputable def p_TreeFinder_part : Ss := (.cons (.asgT [3, 4] (.cons (.bin .Sub (.bi 0 (.cons (.attr (.loc 0) 0) .nil)) (.loc 1)) (.cons (.int 0) .nil))) (.cons (.asgT [5, 6, 7] (.cons (.loc 1) (.cons (.bool false) (.cons (.int 0) .nil)))) (.cons (.asgT [8, 9, 10] (.cons (.loc 1) (.cons (.bool true) (.cons (.int 0) .nil)))) (.cons (.while p_TreeFinder_part_wt0 p_TreeFinder_part_wb1) (.cons (.expr (.meth (.loc 0) 35 (.cons (.loc 5) (.cons (.loc 6) (.cons (.gint "NOWHERE" (-1)) .nil))))) (.cons (.expr (.meth (.loc 0) 35 (.cons (.loc 8) (.cons (.loc 9) (.cons (.gint "NOWHERE" (-1)) .nil))))) .nil))))))
noncomputable def p_TreeFinder_every_wt0 : E := (.and (.meth (.loc 0) 31 (.cons (.loc 1) (.cons (.loc 4) .nil))) (.cons (.cmp .Lt (.loc 8) (.attr (.loc 0) 6)) (.cons (.cmp .Lt (.loc 7) (.loc 6)) .nil)))
noncomputable def p_TreeFinder_every_wb1 : Ss := (.cons (.aug 8 .Add (.int 1)) (.cons (.asg (.v 11) (.meth (.loc 0) 30 (.cons (.loc 1) (.cons (.loc 4) (.cons (.bi 2 (.cons (.loc 9) (.cons (.loc 10) .nil))) (.cons (.loc 6) .nil)))))) (.cons (.ife (.cmp .Gt (.loc 11) (.loc 7)) (.cons (.expr (.meth (.loc 5) 42 (.cons (.tup (.cons (.loc 11) (.cons (.bin .Sub (.loc 1) (.loc 4)) .nil))) .nil))) (.cons (.asg (.v 7) (.loc 11)) .nil)) .nil) (.cons (.ife (.cmp .Lt (.loc 11) (.loc 6)) (.cons (.ife (.cmp .Lt (.sub (.attr (.loc 0) 0) (.bin .Add (.loc 4) (.loc 11))) (.sub (.attr (.loc 0) 0) (.bin .Add (.loc 1) (.loc 11)))) (.cons (.asgT [9, 4] (.cons (.loc 11) (.cons (.sub (.attr (.loc 0) 11) (.loc 4)) .nil))) .nil) (.cons (.asgT [10, 4] (.cons (.loc 11) (.cons (.sub (.attr (.loc 0) 10) (.loc 4)) .nil))) .nil)) .nil) .nil) .nil))))
noncomputable def p_TreeFinder_every_ln : List Str := ["self", "place", "most", "number", "other", "found", "limit", "longest", "steps", "low_count", "high_count", "count"]
noncomputable def p_TreeFinder_every : Ss := (.cons (.ife (.cmp .Lt (.loc 1) (.attr (.loc 0) 7)) (.cons .raise .nil) .nil) (.cons (.asg (.v 3) (.meth (.attr (.loc 0) 8) 25 (.cons (.loc 1) .nil))) (.cons (.ife (.cmp .Is (.loc 3) .none) (.cons (.ret (.list .nil)) .nil) .nil) (.cons (.asgT [5, 6] (.cons (.list .nil) (.cons (.meth (.loc 0) 29 (.cons (.loc 1) (.cons (.loc 2) .nil))) .nil))) (.cons (.asgT [7, 8] (.cons (.bin .Sub (.attr (.loc 0) 4) (.int 1)) (.cons (.int 0) .nil))) (.cons (.asgT [9, 10] (.cons (.int 0) (.cons (.int 0) .nil))) (.cons (.asg (.v 4) (.meth (.attr (.loc 0) 9) 43 (.cons (.loc 3) (.cons (.gint "NOWHERE" (-1)) .nil)))) (.cons (.while p_TreeFinder_every_wt0 p_TreeFinder_every_wb1) (.cons (.ret (.loc 5)) .nil)))))))))
noncomputable def p_LayeredFinder_init_ce0 : E := (.new 0 (.cons (.attr (.loc 0) 0) (.cons (.loc 4) .nil)))
noncomputable def p_LayeredFinder_init_cc1 : Es := .nil
noncomputable def p_LayeredFinder_init_ln : List Str := ["self", "octets", "window", "chain", "size"]
noncomputable def p_LayeredFinder_init : Ss := (.cons (.expr (.sup 7 24 (.cons (.loc 0) (.cons (.loc 1) (.cons (.sub (.attr (.loc 0) 22) (.int 0)) (.cons (.loc 2) (.cons (.loc 3) .nil))))))) (.cons (.sattr (.loc 0) 12 (.comp p_LayeredFinder_init_ce0 4 (.attr (.loc 0) 22) p_LayeredFinder_init_cc1)) (.cons (.sattr (.loc 0) 13 (.new 2 (.cons (.attr (.loc 0) 0) (.cons (.attr (.loc 0) 23) (.cons (.loc 2) (.cons (.loc 3) .nil)))))) .nil)))
noncomputable def p_LayeredFinder_enter_fb0 : Ss := (.cons (.expr (.meth (.loc 2) 26 (.cons (.loc 1) .nil))) .nil)
noncomputable def p_LayeredFinder_enter_ln : List Str := ["self", "place", "row"]
noncomputable def p_LayeredFinder_enter : Ss := (.cons (.for (.v 2) (.attr (.loc 0) 12) p_LayeredFinder_enter_fb0) (.cons (.expr (.meth (.attr (.loc 0) 13) 26 (.cons (.loc 1) .nil))) .nil))
noncomputable def p_LayeredFinder_every_fb0 : Ss := (.cons (.ife (.cmp .Gt (.loc 8) (.loc 6)) (.cons (.expr (.meth (.loc 5) 42 (.cons (.tup (.cons (.loc 8) (.cons (.loc 9) .nil))) .nil))) (.cons (.asg (.v 6) (.loc 8)) .nil)) .nil) .nil)
noncomputable def p_LayeredFinder_every_fb1 : Ss := (.cons (.asg (.v 7) (.meth (.loc 4) 27 (.cons (.loc 1) .nil))) (.cons (.ife (.meth (.loc 0) 31 (.cons (.loc 1) (.cons (.loc 7) .nil))) (.cons (.asg (.v 8) (.meth (.loc 0) 30 (.cons (.loc 1) (.cons (.loc 7) (.cons (.int 0) (.cons (.loc 3) .nil)))))) (.cons (.ife (.cmp .Gt (.loc 8) (.loc 6)) (.cons (.expr (.meth (.loc 5) 42 (.cons (.tup (.cons (.loc 8) (.cons (.bin .Sub (.loc 1) (.loc 7)) .nil))) .nil))) (.cons (.asg (.v 6) (.loc 8)) .nil)) .nil) .nil)) .nil) .nil))
noncomputable def p_LayeredFinder_every_ln : List Str := ["self", "place", "most", "limit", "row", "found", "longest", "other", "count", "distance"]
noncomputable def p_LayeredFinder_every : Ss := (.cons (.asg (.v 3) (.meth (.loc 0) 29 (.cons (.loc 1) (.cons (.loc 2) .nil)))) (.cons (.asgT [5, 6] (.cons (.list .nil) (.cons (.bin .Sub (.attr (.loc 0) 4) (.int 1)) .nil))) (.cons (.for (.v 4) (.attr (.loc 0) 12) p_LayeredFinder_every_fb1) (.cons (.for (.tup [8, 9]) (.meth (.attr (.loc 0) 13) 32 (.cons (.loc 1) (.cons (.loc 2) .nil))) p_LayeredFinder_every_fb0) (.cons (.ret (.loc 5)) .nil)))))
noncomputable def p_finder_for_ln : List Str := ["way", "octets", "least", "window", "chain"]
noncomputable def p_finder_for : Ss := (.cons (.ife (.cmp .Eq (.loc 0) (.str 1)) (.cons (.ret (.new 1 (.cons (.loc 1) (.cons (.loc 2) (.cons (.loc 3) (.cons (.loc 4) .nil)))))) .nil) .nil) (.cons (.ife (.cmp .Eq (.loc 0) (.str 2)) (.cons (.ret (.new 2 (.cons (.loc 1) (.cons (.loc 2) (.cons (.loc 3) (.cons (.loc 4) .nil)))))) .nil) .nil) (.cons (.ife (.cmp .Eq (.loc 0) (.str 3)) (.cons (.ret (.new 3 (.cons (.loc 1) (.cons (.loc 3) (.cons (.loc 4) .nil))))) .nil) .nil) (.cons .raise .nil))))
noncomputable def p_law_bag_fb0 : Ss := (.cons (.asgT [3, 4] (.cons (.bin .Mod (.bin .Add (.bin .Mult (.int 31) (.loc 3)) (.bin .Mult (.int 389) (.loc 1))) (.int 1021)) (.cons (.bin .Mod (.bin .Add (.bin .Add (.bin .Mult (.int 17) (.loc 4)) (.bin .Mult (.int 577) (.loc 1))) (.int 2)) (.int 1019)) .nil))) .nil)
noncomputable def p_law_bag_ce1 : E := (.bin .Sub (.bi 1 (.cons (.loc 1) .nil)) (.bin .Pow (.int 10) (.int 18)))
noncomputable def p_law_bag_cc2 : Es := (.cons (.cmp .GtE (.bi 1 (.cons (.loc 1) .nil)) (.bin .Pow (.int 10) (.int 18))) .nil)
noncomputable def p_law_bag_ln : List Str := ["script", "cell", "great", "one", "two"]
noncomputable def p_law_bag : Ss := (.cons (.asgT [2, 3, 4] (.cons (.comp p_law_bag_ce1 1 (.slice (.loc 0) .none (.int 24)) p_law_bag_cc2) (.cons (.int 611) (.cons (.int 438) .nil)))) (.cons (.for (.v 1) (.slice (.loc 0) .none (.int 24)) p_law_bag_fb0) (.cons (.ret (.list (.cons (.loc 2) (.cons (.int 0) (.cons (.loc 3) (.cons (.loc 4) (.cons (.ife (.or (.nonEmpty (.loc 2)) (.cons (.cmp .Gt (.bi 0 (.cons (.loc 0) .nil)) (.int 1)) .nil)) (.int 12) (.int 6)) .nil))))))) .nil)))
noncomputable def p_law_take_ln : List Str := ["bag", "many", "digit", "rest"]
noncomputable def p_law_take : Ss := (.cons (.ssub (.loc 0) (.int 1) (.bin .Add (.sub (.loc 0) (.int 1)) (.int 1))) (.cons (.ife (.nonEmpty (.sub (.loc 0) (.int 0))) (.cons (.asgT [2, 3] (.cons (.bin .Mod (.sub (.sub (.loc 0) (.int 0)) (.int 0)) (.loc 1)) (.cons (.bin .FloorDiv (.sub (.sub (.loc 0) (.int 0)) (.int 0)) (.loc 1)) .nil))) (.cons (.ssub (.loc 0) (.int 0) (.bin .Add (.bin .Mult (.list (.cons (.loc 3) .nil)) (.bi 4 (.cons (.cmp .Gt (.loc 3) (.int 0)) .nil))) (.slice (.sub (.loc 0) (.int 0)) (.int 1) .none))) (.cons (.ret (.loc 2)) .nil))) .nil) (.cons (.ret (.bin .Mod (.bin .Mod (.bin .Add (.bin .Add (.bin .Mult (.sub (.loc 0) (.int 2)) (.bin .Add (.bin .Mult (.int 2) (.sub (.loc 0) (.int 1))) (.int 1))) (.bin .Mult (.bin .Mult (.sub (.loc 0) (.int 3)) (.sub (.loc 0) (.int 1))) (.sub (.loc 0) (.int 1)))) (.sub (.loc 0) (.int 1))) (.int 1021)) (.loc 1))) .nil)))
noncomputable def p_law_text_ce0 : E := (.sub (.loc 1) (.call "_law_take" (.cons (.loc 0) (.cons (.loc 5) .nil))))
noncomputable def p_law_text_cc1 : Es := .nil
noncomputable def p_law_text_fb2 : Ss := (.cons (.ife (.and (.nonEmpty (.loc 4)) (.cons (.cmp .Gt (.call "_law_take" (.cons (.loc 0) (.cons (.int 3) .nil))) (.int 0)) .nil)) (.cons (.asg (.v 6) (.call "_law_take" (.cons (.loc 0) (.cons (.bi 0 (.cons (.loc 4) .nil)) .nil)))) (.cons (.asg (.v 4) (.bin .Add (.loc 4) (.slice (.loc 4) (.loc 6) (.bin .Add (.bin .Add (.loc 6) (.int 2)) (.call "_law_take" (.cons (.loc 0) (.cons (.int 5) .nil))))))) .nil)) (.cons (.asg (.v 4) (.bin .Add (.loc 4) (.comp p_law_text_ce0 7 (.bi 7 (.cons (.bin .Add (.int 1) (.call "_law_take" (.cons (.loc 0) (.cons (.int 4) .nil)))) .nil)) p_law_text_cc1))) .nil)) .nil)
noncomputable def p_law_text_ln : List Str := ["bag", "letters", "turn", "word", "found", "some", "begin", "k"]
noncomputable def p_law_text : Ss := (.cons (.asg (.v 1) (.list (.cons (.int 97) (.cons (.int 0) (.cons (.int 255) .nil))))) (.cons (.ife (.cmp .Eq (.call "_law_take" (.cons (.loc 0) (.cons (.int 2) .nil))) (.int 0)) (.cons (.asg (.v 3) (.bin .Add (.loc 1) (.list (.cons (.sub (.loc 1) (.call "_law_take" (.cons (.loc 0) (.cons (.int 3) .nil)))) .nil)))) (.cons (.asg (.v 3) (.slice (.loc 3) .none (.bin .Add (.int 3) (.call "_law_take" (.cons (.loc 0) (.cons (.int 2) .nil)))))) (.cons (.asg (.v 4) (.bin .Add (.bin .Add (.bin .Add (.loc 3) (.slice (.loc 3) .none (.bin .Add (.int 2) (.call "_law_take" (.cons (.loc 0) (.cons (.int 2) .nil)))))) (.loc 3)) (.list (.cons (.sub (.loc 1) (.call "_law_take" (.cons (.loc 0) (.cons (.int 3) .nil)))) .nil)))) (.cons (.ret (.bi 6 (.cons (.slice (.loc 4) .none (.sub (.loc 0) (.int 4))) .nil))) .nil)))) .nil) (.cons (.asgT [5, 4] (.cons (.bin .Add (.int 1) (.call "_law_take" (.cons (.loc 0) (.cons (.int 3) .nil)))) (.cons (.list .nil) .nil))) (.cons (.for (.v 2) (.bi 7 (.cons (.bin .Add (.int 2) (.call "_law_take" (.cons (.loc 0) (.cons (.int 4) .nil)))) .nil)) p_law_text_fb2) (.cons (.ret (.bi 6 (.cons (.slice (.loc 4) .none (.sub (.loc 0) (.int 4))) .nil))) .nil)))))
noncomputable def p_law_reaches_ce0 : E := (.bi 2 (.cons (.loc 2) (.cons (.sub (.loc 4) (.loc 6)) .nil)))
noncomputable def p_law_reaches_cc1 : Es := .nil
noncomputable def p_law_reaches_ce2 : E := (.bin .Mult (.bin .Add (.sub (.loc 4) (.loc 6)) (.int 1)) (.bi 4 (.cons (.cmp .Eq (.sub (.loc 0) (.loc 3)) (.sub (.loc 0) (.bin .Sub (.loc 3) (.loc 6)))) .nil)))
noncomputable def p_law_reaches_cc3 : Es := .nil
noncomputable def p_law_reaches_fb4 : Ss := (.cons (.asg (.v 4) (.bin .Add (.list (.cons (.int 0) .nil)) (.comp p_law_reaches_ce2 6 (.bi 7 (.cons (.int 1) (.cons (.bin .Add (.loc 3) (.int 1)) .nil))) p_law_reaches_cc3))) (.cons (.expr (.meth (.loc 5) 42 (.cons (.bi 3 (.cons (.bin .Add (.list (.cons (.int 1) .nil)) (.comp p_law_reaches_ce0 6 (.bi 7 (.cons (.int 1) (.cons (.bin .Add (.bi 2 (.cons (.loc 3) (.cons (.loc 1) .nil))) (.int 1)) .nil))) p_law_reaches_cc1)) .nil)) .nil))) .nil))
noncomputable def p_law_reaches_ln : List Str := ["text", "window", "most", "at", "alike", "found", "back"]
noncomputable def p_law_reaches : Ss := (.cons (.asgT [4, 5] (.cons (.bin .Mult (.list (.cons (.int 0) .nil)) (.bi 0 (.cons (.loc 0) .nil))) (.cons (.list .nil) .nil))) (.cons (.for (.v 3) (.bi 7 (.cons (.bin .Sub (.bi 0 (.cons (.loc 0) .nil)) (.int 1)) (.cons (.neg 1) (.cons (.neg 1) .nil)))) p_law_reaches_fb4) (.cons (.ret (.rev (.loc 5))) .nil)))
noncomputable def p_law_farthest_wt0 : E := (.cmp .Lt (.sub (.loc 3) (.neg 1)) (.bi 0 (.cons (.loc 0) .nil)))
noncomputable def p_law_farthest_ce1 : E := (.loc 4)
noncomputable def p_law_farthest_ce2 : E := (.int 1)
noncomputable def p_law_farthest_cc3 : Es := (.cons (.cmp2 .Lt .LtE (.loc 5) (.loc 4) (.bin .Add (.loc 5) (.sub (.loc 0) (.loc 5)))) .nil)
noncomputable def p_law_farthest_cc4 : Es := (.cons (.nonEmpty (.comp p_law_farthest_ce2 5 (.loc 2) p_law_farthest_cc3)) .nil)
noncomputable def p_law_farthest_wb5 : Ss := (.cons (.asg (.v 2) (.comp p_law_farthest_ce1 4 (.bi 7 (.cons (.loc 1) (.cons (.bin .Add (.bi 0 (.cons (.loc 0) .nil)) (.int 1)) .nil))) p_law_farthest_cc4)) (.cons (.expr (.meth (.loc 3) 42 (.cons (.bi 3 (.cons (.loc 2) .nil)) .nil))) .nil))
noncomputable def p_law_farthest_ln : List Str := ["reaches", "start", "places", "found", "goal", "place"]
noncomputable def p_law_farthest : Ss := (.cons (.asgT [2, 3] (.cons (.list (.cons (.loc 1) .nil)) (.cons (.list (.cons (.loc 1) .nil)) .nil))) (.cons (.while p_law_farthest_wt0 p_law_farthest_wb5) (.cons (.ret (.loc 3)) .nil)))
noncomputable def p_law_plays_fb0 : Ss := (.cons (.expr (.meth (.loc 5) 42 (.cons (.sub (.loc 5) (.bin .Sub (.bi 0 (.cons (.loc 5) .nil)) (.loc 7))) .nil))) .nil)
noncomputable def p_law_plays_fb1 : Ss := (.cons (.ife (.cmp .Eq (.loc 6) (.int 0)) (.cons (.expr (.meth (.loc 5) 42 (.cons (.loc 7) .nil))) (.cons .cont .nil)) .nil) (.cons (.ife (.or (.not (.cmp2 .LtE .LtE (.int 2) (.loc 6) (.loc 4))) (.cons (.not (.cmp2 .LtE .LtE (.int 1) (.loc 7) (.bi 2 (.cons (.loc 3) (.cons (.bi 0 (.cons (.loc 5) .nil)) .nil))))) .nil)) (.cons (.ret (.bool false)) .nil) .nil) (.cons (.for (.v 8) (.bi 7 (.cons (.loc 6) .nil)) p_law_plays_fb0) .nil)))
noncomputable def p_law_plays_ln : List Str := ["steps", "text", "start", "window", "most", "made", "first", "second", "turn"]
noncomputable def p_law_plays : Ss := (.cons (.asg (.v 5) (.bi 5 (.cons (.slice (.loc 1) .none (.loc 2)) .nil))) (.cons (.for (.tup [6, 7]) (.loc 0) p_law_plays_fb1) (.cons (.ret (.cmp .Eq (.loc 5) (.bi 5 (.cons (.loc 1) .nil)))) .nil)))
noncomputable def p_law_stands_fb0 : Ss := (.cons (.expr (.meth (.loc 2) 42 (.cons (.bin .Add (.sub (.loc 2) (.neg 1)) (.bi 3 (.cons (.int 1) (.cons (.loc 3) .nil)))) .nil))) .nil)
noncomputable def p_law_stands_ln : List Str := ["steps", "start", "found", "first", "second"]
noncomputable def p_law_stands : Ss := (.cons (.asg (.v 2) (.list (.cons (.loc 1) .nil))) (.cons (.for (.tup [3, 4]) (.loc 0) p_law_stands_fb0) (.cons (.ret (.loc 2)) .nil)))
noncomputable def p_law_fewest_right_fb0 : Ss := (.cons (.asg (.v 10) (.call "greedy" (.cons (.loc 0) (.cons (.loc 1) (.cons (.call "finder_for" (.cons (.loc 8) (.cons (.loc 0) (.cons (.int 2) (.cons (.loc 2) (.cons (.bin .Add (.bi 0 (.cons (.loc 0) .nil)) (.int 1)) .nil)))))) (.cons (.loc 3) .nil)))))) (.cons (.ife (.or (.cmp .NotEq (.call "_law_stands" (.cons (.loc 10) (.cons (.loc 1) .nil))) (.loc 6)) (.cons (.not (.call "_law_plays" (.cons (.loc 10) (.cons (.loc 0) (.cons (.loc 1) (.cons (.loc 2) (.cons (.loc 3) .nil))))))) .nil)) (.cons (.ret (.bool false)) .nil) .nil) .nil))
noncomputable def p_law_fewest_right_ln : List Str := ["text", "start", "window", "most", "how", "each", "due", "ways", "way", "price", "steps"]
noncomputable def p_law_fewest_right : Ss := (.cons (.asg (.v 6) (.call "_law_farthest" (.cons (.call "_law_reaches" (.cons (.loc 0) (.cons (.loc 2) (.cons (.loc 3) .nil)))) (.cons (.loc 1) .nil)))) (.cons (.asg (.v 7) (.list (.cons (.str 1) (.cons (.str 2) (.cons (.str 3) .nil))))) (.cons (.for (.v 8) (.loc 7) p_law_fewest_right_fb0) (.cons (.asg (.v 9) (.new 6 (.cons (.loc 5) (.cons (.loc 5) .nil)))) (.cons (.asg (.v 10) (.call "least" (.cons (.loc 0) (.cons (.loc 1) (.cons (.call "finder_for" (.cons (.sub (.loc 7) (.loc 4)) (.cons (.loc 0) (.cons (.int 2) (.cons (.loc 2) (.cons (.bin .Add (.bi 0 (.cons (.loc 0) .nil)) (.int 1)) .nil)))))) (.cons (.loc 3) (.cons (.loc 9) .nil))))))) (.cons (.ret (.and (.call "_law_plays" (.cons (.loc 10) (.cons (.loc 0) (.cons (.loc 1) (.cons (.loc 2) (.cons (.loc 3) .nil)))))) (.cons (.cmp .Eq (.call "price_of" (.cons (.loc 10) (.cons (.loc 9) .nil))) (.bin .Mult (.loc 5) (.bin .Sub (.bi 0 (.cons (.loc 6) .nil)) (.int 1)))) .nil))) .nil))))))
noncomputable def p_law_count_ln : List Str := ["bag", "text", "start", "window", "most", "way"]
noncomputable def p_law_count : Ss := (.cons (.asg (.v 5) (.pick (.cons (.str 1) (.cons (.str 2) (.cons (.str 3) .nil))) (.call "_law_take" (.cons (.loc 0) (.cons (.int 3) .nil))))) (.cons (.ret (.bi 0 (.cons (.call "greedy" (.cons (.loc 1) (.cons (.loc 2) (.cons (.call "finder_for" (.cons (.loc 5) (.cons (.loc 1) (.cons (.int 2) (.cons (.loc 3) (.cons (.bin .Add (.bi 0 (.cons (.loc 1) .nil)) (.int 1)) .nil)))))) (.cons (.loc 4) .nil))))) .nil))) .nil))
noncomputable def p_law_parts_right_ln : List Str := ["bag", "whole", "window", "most", "every", "cut", "more", "ahead", "behind", "longer", "twice"]
noncomputable def p_law_parts_right : Ss := (.cons (.asgT [5, 6] (.cons (.call "_law_take" (.cons (.loc 0) (.cons (.bin .Add (.bi 0 (.cons (.loc 1) .nil)) (.int 1)) .nil))) (.cons (.bi 6 (.cons (.list (.cons (.pick (.cons (.int 97) (.cons (.int 0) (.cons (.int 255) .nil))) (.call "_law_take" (.cons (.loc 0) (.cons (.int 3) .nil)))) .nil)) .nil)) .nil))) (.cons (.asg (.v 4) (.call "_law_count" (.cons (.loc 0) (.cons (.loc 1) (.cons (.int 0) (.cons (.loc 2) (.cons (.loc 3) .nil))))))) (.cons (.asgT [7, 8] (.cons (.call "_law_count" (.cons (.loc 0) (.cons (.slice (.loc 1) .none (.loc 5)) (.cons (.int 0) (.cons (.loc 2) (.cons (.loc 3) .nil)))))) (.cons (.call "_law_count" (.cons (.loc 0) (.cons (.loc 1) (.cons (.loc 5) (.cons (.loc 2) (.cons (.loc 3) .nil)))))) .nil))) (.cons (.ife (.or (.not (.cmp2 .LtE .LtE (.loc 4) (.bin .Add (.loc 7) (.loc 8)) (.bin .Add (.loc 4) (.int 1)))) (.cons (.cmp .Gt (.loc 8) (.call "_law_count" (.cons (.loc 0) (.cons (.slice (.loc 1) (.loc 5) .none) (.cons (.int 0) (.cons (.loc 2) (.cons (.loc 3) .nil))))))) .nil)) (.cons (.ret (.bool false)) .nil) .nil) (.cons (.asgT [9, 10] (.cons (.call "_law_count" (.cons (.loc 0) (.cons (.bin .Add (.loc 1) (.loc 6)) (.cons (.int 0) (.cons (.loc 2) (.cons (.loc 3) .nil)))))) (.cons (.call "_law_count" (.cons (.loc 0) (.cons (.loc 1) (.cons (.int 0) (.cons (.loc 2) (.cons (.bin .Mult (.int 2) (.loc 3)) .nil)))))) .nil))) (.cons (.ret (.and (.cmp2 .LtE .LtE (.loc 4) (.loc 9) (.bin .Add (.loc 4) (.int 1))) (.cons (.cmp2 .LtE .LtE (.loc 10) (.loc 4) (.bin .Mult (.int 2) (.loc 10))) .nil))) .nil))))))
noncomputable def p_law_ln : List Str := ["script", "bag", "text", "window", "most", "start", "how", "each"]
noncomputable def p_law : Ss := (.cons (.asg (.v 1) (.call "_law_bag" (.cons (.loc 0) .nil))) (.cons (.asg (.v 2) (.call "_law_text" (.cons (.loc 1) .nil))) (.cons (.asg (.v 3) (.pick (.cons (.int 40) (.cons (.bin .Add (.int 1) (.call "_law_take" (.cons (.loc 1) (.cons (.int 8) .nil)))) .nil)) (.call "_law_take" (.cons (.loc 1) (.cons (.int 2) .nil))))) (.cons (.asg (.v 4) (.pick (.cons (.int 40) (.cons (.bin .Add (.int 2) (.call "_law_take" (.cons (.loc 1) (.cons (.int 4) .nil)))) .nil)) (.call "_law_take" (.cons (.loc 1) (.cons (.int 2) .nil))))) (.cons (.asg (.v 5) (.pick (.cons (.int 0) (.cons (.int 0) (.cons (.call "_law_take" (.cons (.loc 1) (.cons (.bi 0 (.cons (.loc 2) .nil)) .nil))) .nil))) (.call "_law_take" (.cons (.loc 1) (.cons (.int 3) .nil))))) (.cons (.asgT [6, 7] (.cons (.call "_law_take" (.cons (.loc 1) (.cons (.int 3) .nil))) (.cons (.bin .Add (.int 1) (.call "_law_take" (.cons (.loc 1) (.cons (.int 9) .nil)))) .nil))) (.cons (.ife (.not (.call "_law_fewest_right" (.cons (.loc 2) (.cons (.loc 5) (.cons (.loc 3) (.cons (.loc 4) (.cons (.loc 6) (.cons (.loc 7) .nil)))))))) (.cons (.ret (.bool false)) .nil) .nil) (.cons (.ret (.call "_law_parts_right" (.cons (.loc 1) (.cons (.call "_law_text" (.cons (.loc 1) .nil)) (.cons (.loc 3) (.cons (.loc 4) .nil)))))) .nil))))))))
noncomputable def allFns : List (FId × Nat × List Str × Ss) := [
  ((.top "check_range"), 3, p_check_range_ln, p_check_range),
  ((.top "step_size"), 1, p_step_size_ln, p_step_size),
  ((.meth 4 24), 2, p_Trail_init_ln, p_Trail_init),
  ((.meth 4 37), 2, p_Trail_up_to_ln, p_Trail_up_to),
  ((.meth 4 33), 3, p_Trail_best_ln, p_Trail_best),
  ((.meth 4 32), 3, p_Trail_every_ln, p_Trail_every),
  ((.top "greedy"), 4, p_greedy_ln, p_greedy),
  ((.meth 5 24), 2, p_Ways_init_ln, p_Ways_init),
  ((.meth 5 38), 4, p_Ways_offer_ln, p_Ways_offer),
  ((.meth 5 39), 1, p_Ways_told_ln, p_Ways_told),
  ((.top "least"), 6, p_least_ln, p_least),
  ((.top "price_of"), 2, p_price_of_ln, p_price_of),
  ((.meth 6 24), 4, p_FlatPrice_init_ln, p_FlatPrice_init),
  ((.meth 6 40), 2, p_FlatPrice_literal_ln, p_FlatPrice_literal),
  ((.meth 6 41), 3, p_FlatPrice_match_ln, p_FlatPrice_match),
  ((.meth 0 24), 3, p_PlaceRow_init_ln, p_PlaceRow_init),
  ((.meth 0 25), 2, p_PlaceRow_key_ln, p_PlaceRow_key),
  ((.meth 0 26), 2, p_PlaceRow_put_ln, p_PlaceRow_put),
  ((.meth 0 27), 2, p_PlaceRow_newest_ln, p_PlaceRow_newest),
  ((.meth 7 24), 5, p_Matcher_init_ln, p_Matcher_init),
  ((.meth 7 26), 2, p_Matcher_put_ln, p_Matcher_put),
  ((.meth 7 29), 3, p_Matcher_limit_ln, p_Matcher_limit),
  ((.meth 7 30), 5, p_Matcher_alike_ln, p_Matcher_alike),
  ((.meth 7 31), 3, p_Matcher_is_near_ln, p_Matcher_is_near),
  ((.meth 7 33), 3, p_Matcher_best_ln, p_Matcher_best),
  ((.meth 1 24), 5, p_Finder_init_ln, p_Finder_init),
  ((.meth 1 28), 2, p_Finder_enter_ln, p_Finder_enter),
  ((.meth 1 34), 2, p_Finder_candidates_ln, p_Finder_candidates),
  ((.meth 1 32), 3, p_Finder_every_ln, p_Finder_every),
  ((.meth 2 24), 5, p_TreeFinder_init_ln, p_TreeFinder_init),
  ((.meth 2 35), 4, p_TreeFinder_hang_ln, p_TreeFinder_hang),
  ((.meth 2 28), 2, p_TreeFinder_enter_ln, p_TreeFinder_enter),
  ((.meth 2 36), 3, p_TreeFinder_part_ln, p_TreeFinder_part),
  ((.meth 2 32), 3, p_TreeFinder_every_ln, p_TreeFinder_every),
  ((.meth 3 24), 4, p_LayeredFinder_init_ln, p_LayeredFinder_init),
  ((.meth 3 28), 2, p_LayeredFinder_enter_ln, p_LayeredFinder_enter),
  ((.meth 3 32), 3, p_LayeredFinder_every_ln, p_LayeredFinder_every),
  ((.top "finder_for"), 5, p_finder_for_ln, p_finder_for),
  ((.top "_law_bag"), 1, p_law_bag_ln, p_law_bag),
  ((.top "_law_take"), 2, p_law_take_ln, p_law_take),
  ((.top "_law_text"), 1, p_law_text_ln, p_law_text),
  ((.top "_law_reaches"), 3, p_law_reaches_ln, p_law_reaches),
  ((.top "_law_farthest"), 2, p_law_farthest_ln, p_law_farthest),
  ((.top "_law_plays"), 5, p_law_plays_ln, p_law_plays),
  ((.top "_law_stands"), 2, p_law_stands_ln, p_law_stands),
  ((.top "_law_fewest_right"), 6, p_law_fewest_right_ln, p_law_fewest_right),
  ((.top "_law_count"), 5, p_law_count_ln, p_law_count),
  ((.top "_law_parts_right"), 4, p_law_parts_right_ln, p_law_parts_right),
  ((.top "law"), 1, p_law_ln, p_law)]
end Mine
end
-- part K0
section
open PySem PySem.Calls PyProof.Rows PySem.W
set_option maxHeartbeats 4000000
set_option maxRecDepth 100000
namespace Mine

@[simp] theorem lk1 {α : Type} {Q : α → Prop} {x : α} : @lk (α → Prop) ⟨Q⟩ x = Q x := rfl
@[simp] theorem lk2 {α β : Type} {Q : α → β → Prop} {x : α} {y : β} : @lk (α → β → Prop) ⟨Q⟩ x y = Q x y := rfl
@[simp] theorem lk3 {α β γ : Type} {Q : α → β → γ → Prop} {x : α} {y : β} {z : γ} : @lk (α → β → γ → Prop) ⟨Q⟩ x y z = Q x y z := rfl
section
variable {G : Gd} {ln : List Str} {n : Nat} {fr : List V} {H : MH}
@[simp] theorem xE_none : wE G ln n .none fr Q = Q .none := rfl
@[simp] theorem xE_bool : wE G ln n (.bool b) fr Q = Q (.bool b) := rfl
@[simp] theorem xE_int : wE G ln n (.int i) fr Q = Q (.int i) := rfl
@[simp] theorem xE_str : wE G ln n (.str k) fr Q = Q (.str k) := rfl
@[simp] theorem xE_loc : wE G ln n (.loc i) fr Q = fun H => good (fr.getD i .odd) (Q (fr.getD i .odd) H) := rfl
@[simp] theorem xE_gint {z : Str} : wE G ln n (.gint z i) fr Q = Q (.int i) := rfl
@[simp] theorem xE_attr : wE G ln n (.attr e k) fr Q = wE G ln n e fr (@lk _ ⟨fun o => wAttr G.K o k Q⟩) := rfl
@[simp] theorem xE_sub : wE G ln n (.sub e i) fr Q = wE G ln n e fr (@lk _ ⟨fun o => wE G ln n i fr (@lk _ ⟨fun j => wSub o j Q⟩)⟩) := rfl
@[simp] theorem xE_slice {lo : E} : wE G ln n (.slice e lo hi) fr Q = wE G ln n e fr (@lk _ ⟨fun o => wE G ln n lo fr (@lk _ ⟨fun l => wE G ln n hi fr (@lk _ ⟨fun h => wSlice o l h Q⟩)⟩)⟩) := rfl
@[simp] theorem xE_rev : wE G ln n (.rev e) fr Q = wE G ln n e fr (@lk _ ⟨fun o => wRev o Q⟩) := rfl
@[simp] theorem xE_bin : wE G ln n (.bin op a b) fr Q = wE G ln n a fr (@lk _ ⟨fun x => wE G ln n b fr (@lk _ ⟨fun y => wBin op x y Q⟩)⟩) := rfl
@[simp] theorem xE_neg : wE G ln n (.neg i) fr Q = Q (.int (-i)) := rfl
@[simp] theorem xE_not : wE G ln n (.not a) fr Q = wE G ln n a fr (@lk _ ⟨fun v H => match v with | .bool b => Q (.bool (!b)) H | _ => False⟩) := rfl
@[simp] theorem xE_cmp : wE G ln n (.cmp op a b) fr Q = wE G ln n a fr (@lk _ ⟨fun x => wE G ln n b fr (@lk _ ⟨fun y H => wCmp op x y (Q (.bool true) H) (Q (.bool false) H) H⟩)⟩) := rfl
@[simp] theorem xE_cmp2 : wE G ln n (.cmp2 o p a b c) fr Q = wE G ln n a fr (@lk _ ⟨fun x => wE G ln n b fr (@lk _ ⟨fun y H => wCmp o x y (wE G ln n c fr (@lk _ ⟨fun z H => wCmp p y z (Q (.bool true) H) (Q (.bool false) H) H⟩) H) (Q (.bool false) H) H⟩)⟩) := rfl
@[simp] theorem xE_and : wE G ln n (.and a es) fr Q = wE G ln n a fr (@lk _ ⟨fun v H => match v with | .bool b => (b = true → wAnd G ln n es fr Q H) ∧ (b = false → Q (.bool false) H) | _ => False⟩) := rfl
@[simp] theorem xE_or : wE G ln n (.or a es) fr Q = wE G ln n a fr (@lk _ ⟨fun v H => match v with | .bool b => (b = false → wOr G ln n es fr Q H) ∧ (b = true → Q (.bool true) H) | _ => False⟩) := rfl
@[simp] theorem xE_ife : wE G ln n (.ife t a b) fr Q = wC G ln n t fr (@lk (MH → Prop) ⟨wE G ln n a fr Q⟩) (@lk (MH → Prop) ⟨wE G ln n b fr Q⟩) := rfl
@[simp] theorem xE_call : wE G ln n (.call f args) fr Q = wEs G ln n args fr (@lk _ ⟨fun vs => WCall G n (.top f) vs Q⟩) := rfl
@[simp] theorem xE_new : wE G ln n (.new c args) fr Q = fun H => c < 7 ∧ wEs G ln n args fr (@lk _ ⟨fun vs => WNew G n c vs Q⟩) H := rfl
@[simp] theorem xE_sup : wE G ln n (.sup c k args) fr Q = fun H => k = 24 ∧ c = 7 ∧ wEs G ln n args fr (@lk _ ⟨fun vs => WCall G n (.meth c k) vs Q⟩) H := rfl
@[simp] theorem xE_meth : wE G ln n (.meth o k args) fr Q = wE G ln n o fr (@lk _ ⟨fun v => wMeth G n v k (@lk _ ⟨fun R => wEs G ln n args fr R⟩) Q⟩) := rfl
@[simp] theorem xE_bi : wE G ln n (.bi f args) fr Q = wEs G ln n args fr (@lk _ ⟨fun vs => wBi f vs Q⟩) := rfl
@[simp] theorem xE_list : wE G ln n (.list es) fr Q = wEs G ln n es fr (@lk _ ⟨fun vs H => vs.length ≤ big ∧ ∀ a, H a = none → Q (.ref a) (upd H a (.list vs))⟩) := rfl
@[simp] theorem xE_tup : wE G ln n (.tup es) fr Q = wEs G ln n es fr (@lk _ ⟨fun vs H => vs.length ≤ big ∧ ∀ a, H a = none → Q (.ref a) (upd H a (.tup vs))⟩) := rfl
@[simp] theorem xE_dict0 : wE G ln n .dict0 fr Q = fun H => ∀ a, H a = none → Q (.ref a) (upd H a (.dict 0 fun _ => none)) := rfl
@[simp] theorem xE_comp : wE G ln n (.comp elt t src conds) fr Q = wSrc G ln n src fr (@lk _ ⟨fun sr H => ∀ acc, H acc = none → WComp G ln n elt t conds sr acc (fr.set t .odd) (@lk _ ⟨fun H' => Q (.ref acc) H'⟩) (upd H acc (.list []))⟩) := rfl
@[simp] theorem xE_nonEmpty : wE G ln n (.nonEmpty e) fr Q = wE G ln n e fr (@lk _ ⟨fun v H => match v with | .ref a => (match H a with | some (.list xs) => Q (.bool (!xs.isEmpty)) H | _ => False) | _ => False⟩) := rfl
@[simp] theorem xE_eqPair : wE G ln n (.eqPair e x y) fr Q = wE G ln n e fr (@lk _ ⟨fun v H => match v with | .ref a => (match H a with | some (.tup [.int i, .int j]) => Q (.bool (i == x && j == y)) H | _ => False) | _ => False⟩) := rfl
@[simp] theorem xE_pick : wE G ln n (.pick es i) fr Q = wEs G ln n es fr (@lk _ ⟨fun vs H => vs.length ≤ big ∧ wE G ln n i fr (@lk _ ⟨fun j H => match j with | .int k => 0 ≤ k ∧ ∃ v, vs[k.toNat]? = some v ∧ Q v H | _ => False⟩) H⟩) := rfl
@[simp] theorem xEs_nil : wEs G ln n .nil fr Q = Q [] := rfl
@[simp] theorem xEs_cons : wEs G ln n (.cons e es) fr Q = wE G ln n e fr (@lk _ ⟨fun v => wEs G ln n es fr (@lk _ ⟨fun vs => Q (v :: vs)⟩)⟩) := rfl
@[simp] theorem xAnd_nil : wAnd G ln n .nil fr Q = Q (.bool true) := rfl
@[simp] theorem xAnd_cons : wAnd G ln n (.cons e es) fr Q = wE G ln n e fr (@lk _ ⟨fun v H => match v with | .bool b => (b = true → wAnd G ln n es fr Q H) ∧ (b = false → Q (.bool false) H) | _ => False⟩) := rfl
@[simp] theorem xOr_nil : wOr G ln n .nil fr Q = Q (.bool false) := rfl
@[simp] theorem xOr_cons : wOr G ln n (.cons e es) fr Q = wE G ln n e fr (@lk _ ⟨fun v H => match v with | .bool b => (b = false → wOr G ln n es fr Q H) ∧ (b = true → Q (.bool true) H) | _ => False⟩) := rfl
@[simp] theorem xC_not : wC G ln n (.not a) fr T F = wC G ln n a fr F T := rfl
@[simp] theorem xC_and : wC G ln n (.and a es) fr T F = wC G ln n a fr (@lk (MH → Prop) ⟨wCs true G ln n es fr T F⟩) F := rfl
@[simp] theorem xC_or : wC G ln n (.or a es) fr T F = wC G ln n a fr T (@lk (MH → Prop) ⟨wCs false G ln n es fr T F⟩) := rfl
@[simp] theorem xC_cmp : wC G ln n (.cmp op a b) fr T F = wE G ln n a fr (@lk _ ⟨fun x => wE G ln n b fr (@lk _ ⟨fun y H => wCmp op x y (T H) (F H) H⟩)⟩) := rfl
@[simp] theorem xC_cmp2 : wC G ln n (.cmp2 o p a b c) fr T F = wE G ln n a fr (@lk _ ⟨fun x => wE G ln n b fr (@lk _ ⟨fun y H => wCmp o x y (wE G ln n c fr (@lk _ ⟨fun z H => wCmp p y z (T H) (F H) H⟩) H) (F H) H⟩)⟩) := rfl
@[simp] theorem xC_ife : wC G ln n (.ife t a b) fr T F = wC G ln n t fr (@lk (MH → Prop) ⟨wC G ln n a fr T F⟩) (@lk (MH → Prop) ⟨wC G ln n b fr T F⟩) := rfl
@[simp] theorem xC_loc : wC G ln n (.loc i) fr T F = fun H => match fr.getD i .odd with | .bool b => (b = true → T H) ∧ (b = false → F H) | _ => False := rfl
@[simp] theorem xC_call : wC G ln n (.call f args) fr T F = wEs G ln n args fr (@lk _ ⟨fun vs => WCall G n (.top f) vs (@lk _ ⟨fun v H => match v with | .bool b => (b = true → T H) ∧ (b = false → F H) | _ => False⟩)⟩) := rfl
@[simp] theorem xC_meth : wC G ln n (.meth o k args) fr T F = wE G ln n o fr (@lk _ ⟨fun v => wMeth G n v k (@lk _ ⟨fun R => wEs G ln n args fr R⟩) (@lk _ ⟨fun v H => match v with | .bool b => (b = true → T H) ∧ (b = false → F H) | _ => False⟩)⟩) := rfl
@[simp] theorem xC_nonEmpty : wC G ln n (.nonEmpty e) fr T F = wE G ln n e fr (@lk _ ⟨fun v H => match v with | .ref a => (match H a with | some (.list xs) => (xs ≠ [] → T H) ∧ (xs = [] → F H) | _ => False) | _ => False⟩) := rfl
@[simp] theorem xC_eqPair : wC G ln n (.eqPair e x y) fr T F = wE G ln n e fr (@lk _ ⟨fun v H => match v with | .ref a => (match H a with | some (.tup [.int i, .int j]) => ((i = x ∧ j = y) → T H) ∧ (¬ (i = x ∧ j = y) → F H) | _ => False) | _ => False⟩) := rfl
@[simp] theorem xCs_nil_true : wCs true G ln n .nil fr T F = T := rfl
@[simp] theorem xCs_nil_false : wCs false G ln n .nil fr T F = F := rfl
@[simp] theorem xCs_cons_true : wCs true G ln n (.cons e es) fr T F = wC G ln n e fr (@lk (MH → Prop) ⟨wCs true G ln n es fr T F⟩) F := rfl
@[simp] theorem xCs_cons_false : wCs false G ln n (.cons e es) fr T F = wC G ln n e fr T (@lk (MH → Prop) ⟨wCs false G ln n es fr T F⟩) := rfl
@[simp] theorem xSrc_bi : wSrc G ln n (.bi 7 args) fr Q = wEs G ln n args fr (@lk _ ⟨fun vs H => wRng vs Q H⟩) := rfl
@[simp] theorem rng1 {a : Int} {Q : Src → MH → Prop} : wRng [.int a] Q H = (rsm a ∧ Q (.rng 0 a.toNat 1) H) := rfl
@[simp] theorem rng2 {a b : Int} {Q : Src → MH → Prop} : wRng [.int a, .int b] Q H = (rsm a ∧ rsm b ∧ Q (.rng a (b - a).toNat 1) H) := rfl
@[simp] theorem rng3 {a b c : Int} {Q : Src → MH → Prop} : wRng [.int a, .int b, .int c] Q H = (rsm a ∧ rsm b ∧ c = -1 ∧ Q (.rng a (a - b).toNat (-1)) H) := rfl
@[simp] theorem vRef_ref {a : Addr} {q : Addr → Prop} : vRef (.ref a) q = q a := rfl
@[simp] theorem vInt_int {a : Int} {q : Int → Prop} : vInt (.int a) q = q a := rfl
@[simp] theorem hList_list {xs : List V} {q : List V → Prop} : hList (some (.list xs)) q = q xs := rfl
@[simp] theorem hTup_tup {xs : List V} {q : List V → Prop} : hTup (some (.tup xs)) q = q xs := rfl
@[simp] theorem hInst_inst {c : Nat} {fs : List (Nat × V)} {q : Nat → List (Nat × V) → Prop} : hInst (some (.inst c fs)) q = q c fs := rfl
@[simp] theorem hSeq_list {xs : List V} {q : List V → Prop} : hSeq (some (.list xs)) q = q xs := rfl
@[simp] theorem hSeq_ro {xs : List V} {q : List V → Prop} : hSeq (some (.ro xs)) q = q xs := rfl
@[simp] theorem hSeq_tup {xs : List V} {q : List V → Prop} : hSeq (some (.tup xs)) q = q xs := rfl
@[simp] theorem oOr_some {α : Type} {x : α} {q : α → Prop} {p : Prop} : oOr (some x) q p = q x := rfl
@[simp] theorem oOr_none {α : Type} {q : α → Prop} {p : Prop} : oOr none q (@lk Prop ⟨p⟩) = p := rfl
@[simp] theorem aug_add {x y : Int} {Q : V → MH → Prop} : wAug .Add (.int x) (.int y) Q H = (Operator.Add = Operator.Add ∧ Q (.int (x + y)) H) := rfl
@[simp] theorem xSrc_loc : wSrc G ln n (.loc i) fr Q = srcOf (fr.getD i .odd) Q := rfl
@[simp] theorem xSrc_attr : wSrc G ln n (.attr e k) fr Q = wE G ln n e fr (@lk _ ⟨fun o => wAttr G.K o k (@lk _ ⟨fun v => srcOf v Q⟩)⟩) := rfl
@[simp] theorem xSrc_slice {lo : E} : wSrc G ln n (.slice e lo hi) fr Q = wE G ln n e fr (@lk _ ⟨fun o => wE G ln n lo fr (@lk _ ⟨fun l => wE G ln n hi fr (@lk _ ⟨fun h => wSlice o l h (@lk _ ⟨fun v => srcOf v Q⟩)⟩)⟩)⟩) := rfl
@[simp] theorem xSrc_meth : wSrc G ln n (.meth o k args) fr Q = wE G ln n o fr (@lk _ ⟨fun v => wMeth G n v k (@lk _ ⟨fun R => wEs G ln n args fr R⟩) (@lk _ ⟨fun v => srcOf v Q⟩)⟩) := rfl
@[simp] theorem xS_expr : wS G ln n (.expr e) fr R = wE G ln n e fr (@lk _ ⟨fun _ => R .next fr⟩) := rfl
@[simp] theorem xS_pass : wS G ln n .pass fr R = R .next fr := rfl
@[simp] theorem xS_brk : wS G ln n .brk fr R = R .brk fr := rfl
@[simp] theorem xS_cont : wS G ln n .cont fr R = R .cont fr := rfl
@[simp] theorem xS_ret : wS G ln n (.ret e) fr R = wE G ln n e fr (@lk _ ⟨fun v => R (.ret v) fr⟩) := rfl
@[simp] theorem xS_raise : wS G ln n .raise fr R = fun H => False := rfl
@[simp] theorem xS_asg : wS G ln n (.asg t e) fr R = wE G ln n e fr (@lk _ ⟨fun v => wT t v fr (R .next)⟩) := rfl
@[simp] theorem xS_asgT : wS G ln n (.asgT is es) fr R = wEs G ln n es fr (@lk _ ⟨fun vs H => vs.length = is.length ∧ vs.length ≤ big ∧ R .next (setAll fr is vs) H⟩) := rfl
@[simp] theorem xS_sattr : wS G ln n (.sattr o k e) fr R = wE G ln n e fr (@lk _ ⟨fun v => wE G ln n o fr (@lk _ ⟨fun ov => wSetA ov k v (R .next fr)⟩)⟩) := rfl
@[simp] theorem xS_ssub : wS G ln n (.ssub o i e) fr R = wE G ln n e fr (@lk _ ⟨fun v => wE G ln n o fr (@lk _ ⟨fun ov => wE G ln n i fr (@lk _ ⟨fun iv => wSet ov iv v (R .next fr)⟩)⟩)⟩) := rfl
@[simp] theorem xS_aug : wS G ln n (.aug i op e) fr R = fun H => good (fr.getD i .odd) (wE G ln n e fr (@lk _ ⟨fun v => wAug op (fr.getD i .odd) v (@lk _ ⟨fun r => R .next (fr.set i r)⟩)⟩) H) := rfl
@[simp] theorem xS_ife : wS G ln n (.ife t a b) fr R = wC G ln n t fr (@lk (MH → Prop) ⟨wB G ln n a fr R⟩) (@lk (MH → Prop) ⟨wB G ln n b fr R⟩) := rfl
@[simp] theorem xS_while : wS G ln n (.while t b) fr R = WWhile G ln n t b fr R := rfl
@[simp] theorem xS_for : wS G ln n (.for t src b) fr R = wSrc G ln n src fr (@lk _ ⟨fun sr => WFor G ln n t b sr fr R⟩) := rfl
@[simp] theorem xB_nil : wB G ln n .nil fr R = R .next fr := rfl
@[simp] theorem xB_cons : wB G ln n (.cons s ss) fr R = wS G ln n s fr (@lk _ ⟨fun fl fr' H => match fl with | .next => wB G ln n ss fr' R H | fl => R fl fr' H⟩) := rfl
end
@[simp] theorem wT_v {i : Nat} {v : V} {fr : List V} {Q : List V → MH → Prop} {H : MH} : wT (.v i) v fr Q H = Q (fr.set i v) H := rfl
@[simp] theorem setAll_n {fr : List V} : setAll fr [] [] = fr := rfl
@[simp] theorem setAll_c {fr : List V} {i : Nat} {is : List Nat} {v : V} {vs : List V} : setAll fr (i :: is) (v :: vs) = setAll (fr.set i v) is vs := rfl
theorem srcOf_l {H : MH} {a : Addr} {xs : List V} {Q : Src → MH → Prop} (h : H a = some (.list xs)) : srcOf (.ref a) Q H = Q (.lst a 0) H := by delta srcOf; dsimp only; rw [h]
theorem srcOf_t {H : MH} {a : Addr} {xs : List V} {Q : Src → MH → Prop} (h : H a = some (.tup xs)) : srcOf (.ref a) Q H = Q (.tup a 0) H := by delta srcOf; dsimp only; rw [h]
@[simp] theorem odd_int (i : Int) : isOdd (.int i) = false := rfl
@[simp] theorem odd_ref (a : Addr) : isOdd (.ref a) = false := rfl
@[simp] theorem odd_bytes (xs : List Int) : isOdd (.bytes xs) = false := rfl
@[simp] theorem odd_bool (b : Bool) : isOdd (.bool b) = false := rfl
@[simp] theorem odd_str (k : Nat) : isOdd (.str k) = false := rfl
@[simp] theorem odd_none : isOdd .none = false := rfl

@[simp] theorem good_int {i : Int} {P : Prop} : good (.int i) P = P := rfl
@[simp] theorem good_ref {a : Addr} {P : Prop} : good (.ref a) P = P := rfl
@[simp] theorem good_bytes {xs : List Int} {P : Prop} : good (.bytes xs) P = P := rfl
@[simp] theorem good_bool {b : Bool} {P : Prop} : good (.bool b) P = P := rfl
@[simp] theorem good_str {k : Nat} {P : Prop} : good (.str k) P = P := rfl
@[simp] theorem good_none {P : Prop} : good .none P = P := rfl
@[simp] theorem chk_true {P : Prop} : chk true P = P := rfl
@[simp] theorem chk_lt {c : Nat} {P : Prop} (h : c < 7) : chk (c / 7 == 0) P = P := by rw [Nat.div_eq_of_lt h]; rfl
theorem good_of {v : V} {P : Prop} (h : v ≠ .odd) : good v P = P := by cases v <;> first | rfl | exact absurd rfl h
@[simp high] theorem gx0 {v0 d : V} {l : List V} : List.getD (v0 :: l) 0 d = v0 := rfl
@[simp high] theorem gx1 {v0 v1 d : V} {l : List V} : List.getD (v0 :: v1 :: l) 1 d = v1 := rfl
@[simp high] theorem gx2 {v0 v1 v2 d : V} {l : List V} : List.getD (v0 :: v1 :: v2 :: l) 2 d = v2 := rfl
@[simp high] theorem gx3 {v0 v1 v2 v3 d : V} {l : List V} : List.getD (v0 :: v1 :: v2 :: v3 :: l) 3 d = v3 := rfl
@[simp high] theorem gx4 {v0 v1 v2 v3 v4 d : V} {l : List V} : List.getD (v0 :: v1 :: v2 :: v3 :: v4 :: l) 4 d = v4 := rfl
@[simp high] theorem gx5 {v0 v1 v2 v3 v4 v5 d : V} {l : List V} : List.getD (v0 :: v1 :: v2 :: v3 :: v4 :: v5 :: l) 5 d = v5 := rfl
@[simp high] theorem gx6 {v0 v1 v2 v3 v4 v5 v6 d : V} {l : List V} : List.getD (v0 :: v1 :: v2 :: v3 :: v4 :: v5 :: v6 :: l) 6 d = v6 := rfl
@[simp high] theorem gx7 {v0 v1 v2 v3 v4 v5 v6 v7 d : V} {l : List V} : List.getD (v0 :: v1 :: v2 :: v3 :: v4 :: v5 :: v6 :: v7 :: l) 7 d = v7 := rfl
@[simp high] theorem gx8 {v0 v1 v2 v3 v4 v5 v6 v7 v8 d : V} {l : List V} : List.getD (v0 :: v1 :: v2 :: v3 :: v4 :: v5 :: v6 :: v7 :: v8 :: l) 8 d = v8 := rfl
@[simp high] theorem gx9 {v0 v1 v2 v3 v4 v5 v6 v7 v8 v9 d : V} {l : List V} : List.getD (v0 :: v1 :: v2 :: v3 :: v4 :: v5 :: v6 :: v7 :: v8 :: v9 :: l) 9 d = v9 := rfl
@[simp high] theorem gx10 {v0 v1 v2 v3 v4 v5 v6 v7 v8 v9 v10 d : V} {l : List V} : List.getD (v0 :: v1 :: v2 :: v3 :: v4 :: v5 :: v6 :: v7 :: v8 :: v9 :: v10 :: l) 10 d = v10 := rfl
@[simp high] theorem gx11 {v0 v1 v2 v3 v4 v5 v6 v7 v8 v9 v10 v11 d : V} {l : List V} : List.getD (v0 :: v1 :: v2 :: v3 :: v4 :: v5 :: v6 :: v7 :: v8 :: v9 :: v10 :: v11 :: l) 11 d = v11 := rfl
@[simp high] theorem gx12 {v0 v1 v2 v3 v4 v5 v6 v7 v8 v9 v10 v11 v12 d : V} {l : List V} : List.getD (v0 :: v1 :: v2 :: v3 :: v4 :: v5 :: v6 :: v7 :: v8 :: v9 :: v10 :: v11 :: v12 :: l) 12 d = v12 := rfl

section
variable {K : Frag} {G : Gd} {n : Nat} {Q : V → MH → Prop} {H : MH} {T F : Prop} {x y i j k : Int} {a b l r : Addr} {v w : V} {xs ys : List Int}

@[simp] theorem c_lt : wCmp .Lt (.int x) (.int y) T F H = ((x < y → T) ∧ (¬ x < y → F)) := rfl
@[simp] theorem c_le : wCmp .LtE (.int x) (.int y) T F H = ((x ≤ y → T) ∧ (¬ x ≤ y → F)) := rfl
@[simp] theorem c_gt : wCmp .Gt (.int x) (.int y) T F H = ((x > y → T) ∧ (¬ x > y → F)) := rfl
@[simp] theorem c_ge : wCmp .GtE (.int x) (.int y) T F H = ((x ≥ y → T) ∧ (¬ x ≥ y → F)) := rfl
@[simp] theorem c_eq : wCmp .Eq (.int x) (.int y) T F H = ((x = y → T) ∧ (¬ x = y → F)) := rfl
@[simp] theorem c_ne : wCmp .NotEq (.int x) (.int y) T F H = ((¬ x = y → T) ∧ (x = y → F)) := rfl
@[simp] theorem c_str {p q : Nat} : wCmp .Eq (.str p) (.str q) T F H = (p ≠ 0 ∧ q ≠ 0 ∧ (p = q → T) ∧ (¬ p = q → F)) := rfl
@[simp] theorem c_isI : wCmp .Is (.int x) .none T F H = (V.int x ≠ .odd ∧ (V.int x = .none → T) ∧ (¬ V.int x = .none → F)) := rfl
@[simp] theorem c_isN : wCmp .Is .none .none T F H = (V.none ≠ .odd ∧ (V.none = .none → T) ∧ (¬ V.none = .none → F)) := rfl
@[simp] theorem c_ntI : wCmp .IsNot (.int x) .none T F H = (V.int x ≠ .odd ∧ (¬ V.int x = .none → T) ∧ (V.int x = .none → F)) := rfl
@[simp] theorem c_ntN : wCmp .IsNot .none .none T F H = (V.none ≠ .odd ∧ (¬ V.none = .none → T) ∧ (V.none = .none → F)) := rfl

@[simp] theorem b_add : wBin .Add (.int x) (.int y) Q H = Q (.int (x + y)) H := rfl
@[simp] theorem b_sub : wBin .Sub (.int x) (.int y) Q H = Q (.int (x - y)) H := rfl
@[simp] theorem b_mul : wBin .Mult (.int x) (.int y) Q H = ((short x ∨ short y) ∧ Q (.int (x * y)) H) := rfl
@[simp] theorem b_div : wBin .FloorDiv (.int x) (.int y) Q H = (0 < y ∧ y ≤ 1000000 ∧ Q (.int (x / y)) H) := rfl
@[simp] theorem b_mod : wBin .Mod (.int x) (.int y) Q H = (0 < y ∧ Q (.int (x % y)) H) := rfl
@[simp] theorem b_pow : wBin .Pow (.int x) (.int y) Q H = (x = 10 ∧ y = 18 ∧ Q (.int 1000000000000000000) H) := rfl
@[simp] theorem b_bytes : wBin .Add (.bytes xs) (.bytes ys) Q H = (xs.length + ys.length ≤ big ∧ Q (.bytes (xs ++ ys)) H) := rfl
theorem b_lists {p q : List V} (h1 : H l = some (.list p)) (h2 : H r = some (.list q)) : wBin .Add (.ref l) (.ref r) Q H = (p.length + q.length ≤ big ∧ ∀ a, H a = none → Q (.ref a) (upd H a (.list (p ++ q)))) := by
  show hList (H l) (fun xs => hList (H r) fun ys => _) = _
  rw [h1, h2]; rfl
theorem b_rep {p : List V} (h1 : H l = some (.list p)) : wBin .Mult (.ref l) (.int k) Q H = (short k ∧ p.length * k.toNat ≤ big ∧ ∀ a, H a = none → Q (.ref a) (upd H a (.list (repL p k.toNat)))) := by
  show hList (H l) (fun xs => _) = _
  rw [h1]; rfl

@[simp] theorem a_ref : wAttr K (.ref a) k' Q H = hInst (H a) (@lk _ ⟨fun c fs => oOr (fget fs k') (@lk _ ⟨fun v => chk (k' / 22 == 0) (chk (c / 7 == 0) (good v (Q v H)))⟩) (@lk Prop ⟨c = 3 ∧ ((k' = 22 ∧ Q (.ref (layersA K)) H) ∨ (k' = 23 ∧ Q (.int 4) H))⟩)⟩) := rfl

theorem s_list {p : List V} (h : H a = some (.list p)) : wSub (.ref a) (.int k) Q H = (p.length ≤ big ∧ ∃ j v, place k p.length = some j ∧ p[j]? = some v ∧ Q v H) := by
  show hSeq (H a) (fun xs => _) = _
  rw [h]; rfl
theorem s_ro {p : List V} (h : H a = some (.ro p)) : wSub (.ref a) (.int k) Q H = (p.length ≤ big ∧ ∃ j v, place k p.length = some j ∧ p[j]? = some v ∧ Q v H) := by
  show hSeq (H a) (fun xs => _) = _
  rw [h]; rfl
theorem s_tup {p : List V} (h : H a = some (.tup p)) : wSub (.ref a) (.int k) Q H = (p.length ≤ big ∧ ∃ j v, place k p.length = some j ∧ p[j]? = some v ∧ Q v H) := by
  show hSeq (H a) (fun xs => _) = _
  rw [h]; rfl
theorem s_tup0 (h : H a = some (.tup [v, w])) : wSub (.ref a) (.int 0) Q H = Q v H := by
  rw [s_tup h]
  have h0 : place 0 2 = some 0 := by decide
  have hb : 2 ≤ big := by decide
  simp [h0, hb]
theorem s_tup1 (h : H a = some (.tup [v, w])) : wSub (.ref a) (.int 1) Q H = Q w H := by
  rw [s_tup h]
  have h0 : place 1 2 = some 1 := by decide
  have hb : 2 ≤ big := by decide
  simp [h0, hb]
theorem s_bytes (h0 : 0 ≤ k) (hk : k.toNat < xs.length) (hb : xs.length ≤ big) : wSub (.bytes xs) (.int k) Q H = Q (.int (xs.getD k.toNat 0)) H := by
  show (xs.length ≤ big ∧ 0 ≤ k ∧ ∃ v, xs[k.toNat]? = some v ∧ Q (.int v) H) = _
  rw [List.getD_eq_getElem?_getD, List.getElem?_eq_getElem hk]
  simp [hb, h0]

@[simp] theorem bi_len_b : wBi 0 [.bytes xs] Q H = (xs.length ≤ big ∧ Q (.int xs.length) H) := rfl
@[simp] theorem bi_len_r : wBi 0 [.ref a] Q H = hSeq (H a) (@lk _ ⟨fun xs => xs.length ≤ big ∧ Q (.int xs.length) H⟩) := rfl
@[simp] theorem bi_abs : wBi 1 [.int i] Q H = Q (.int (if i < 0 then -i else i)) H := rfl
@[simp] theorem bi_min : wBi 2 [.int x, .int y] Q H = Q (.int (if y < x then y else x)) H := rfl
@[simp] theorem bi_max : wBi 3 [.int x, .int y] Q H = Q (.int (if y > x then y else x)) H := rfl
theorem bi_maxl {p : List V} {ns : List Int} (h : H a = some (.list p)) (hn : allInts p = some ns) : wBi 3 [.ref a] Q H = (ns ≠ [] ∧ ∀ M, M ∈ ns → (∀ a, a ∈ ns → a ≤ M) → Q (.int M) H) := by
  show hList (H a) (fun xs => oSome (allInts xs) _) = _
  rw [h]; show oSome (allInts p) _ = _; rw [hn]; rfl
@[simp] theorem bi_int {c : Bool} : wBi 4 [.bool c] Q H = Q (.int (if c then 1 else 0)) H := rfl
@[simp] theorem bi_list : wBi 5 [.bytes xs] Q H = (xs.length ≤ big ∧ ∀ a, H a = none → Q (.ref a) (upd H a (.list (xs.map .int)))) := rfl
@[simp] theorem bi_bytes_b : wBi 6 [.bytes xs] Q H = Q (.bytes xs) H := rfl
theorem bi_bytes_l {p : List V} {ns : List Int} (h : H a = some (.list p)) (hn : allInts p = some ns) : wBi 6 [.ref a] Q H = (ns.length ≤ big ∧ (∀ x ∈ ns, 0 ≤ x ∧ x < 256) ∧ Q (.bytes ns) H) := by
  show hList (H a) (fun xs => oSome (allInts xs) _) = _
  rw [h]; show oSome (allInts p) _ = _; rw [hn]; rfl

theorem m_inst {c k : Nat} {fs : List (Nat × V)} {c' : Nat} {args : (List V → MH → Prop) → MH → Prop} (h : H a = some (.inst c fs)) (hc : c < 7) (hk : k < 44) (hf : fget fs k = none) (hm : methOwner c k = some c')
    (hq : args (fun vs => WCall G n (.meth c' k) (.ref a :: vs) Q) H) : wMeth G n (.ref a) k args Q H := by
  unfold wMeth vRef
  dsimp only
  rw [h]
  exact ⟨hc, hk, hf, c', hm, hq⟩
theorem m_app {args : (List V → MH → Prop) → MH → Prop} {p : List V} (h : H a = some (.list p)) (hq : args (fun vs => wApp a vs Q) H) : wMeth G n (.ref a) 42 args Q H := by
  unfold wMeth vRef
  dsimp only
  rw [h]
  exact ⟨rfl, hq⟩
theorem m_get {args : (List V → MH → Prop) → MH → Prop} {m : Nat} {f : Int → Option V} (h : H a = some (.dict m f)) (hq : args (fun vs => wGet a vs Q) H) : wMeth G n (.ref a) 43 args Q H := by
  unfold wMeth vRef
  dsimp only
  rw [h]
  exact ⟨rfl, hq⟩
theorem app_to {p : List V} (h : H a = some (.list p)) (hz : p.length < big) (hv : v ≠ .odd) (hq : Q .none (upd H a (.list (p ++ [v])))) : wApp a [v] Q H := by
  unfold wApp
  rw [h]
  exact ⟨hz, hv, hq⟩
theorem get_of {m : Nat} {f : Int → Option V} (h : H a = some (.dict m f)) (hv : v ≠ .odd) (hq : Q ((f i).getD v) H) : wGet a [.int i, v] Q H := by
  unfold wGet
  rw [h]
  exact ⟨hv, hq⟩
end

theorem place_nat {p n : Nat} (h : p < n) : place (p : Int) n = some p := by
  unfold place
  rw [if_pos (by exact Int.natCast_nonneg _), if_pos (by exact Int.ofNat_lt.mpr (by assumption))]
  congr 1
theorem set_at {H : MH} {a : Addr} {xs : List V} {v : V} {T : MH → Prop} (h : H a = some (.list xs)) {j : Nat} (hj : j < xs.length) (hz : xs.length ≤ big) (hq : T (upd H a (.list (xs.set j v)))) : wSet (.ref a) (.int j) v T H := by
  unfold wSet vRef vInt
  dsimp only
  rw [h]
  exact ⟨hz, j, place_nat hj, hj, hq⟩
theorem set_key {H : MH} {a : Addr} {m : Nat} {f : Int → Option V} {k : Int} {v : V} {T : MH → Prop} (h : H a = some (.dict m f)) (hm : m < 4096) (hv : v ≠ .odd) (hq : T (upd H a (.dict (m + 1) fun x => if x = k then some v else f x))) : wSet (.ref a) (.int k) v T H := by
  unfold wSet vRef vInt
  dsimp only
  rw [h]
  exact ⟨hm, hv, hq⟩
theorem sub_at {H : MH} {a : Addr} {xs : List V} {v : V} {Q : V → MH → Prop} (h : H a = some (.list xs)) {j : Nat} (hj : xs[j]? = some v) (hz : xs.length ≤ big) (hq : Q v H) : wSub (.ref a) (.int j) Q H := by
  rw [s_list h]
  exact ⟨hz, j, v, place_nat (List.getElem?_eq_some_iff.mp hj).1, hj, hq⟩
theorem setA_of {H : MH} {a : Addr} {c k : Nat} {fs : List (Nat × V)} {v : V} {T : MH → Prop} (h : H a = some (.inst c fs)) (hc : c < 7) (hk : k < 22) (hl : fs.length ≤ 100) (hv : v ≠ .odd) (hq : T (upd H a (.inst c (fput fs k v)))) : wSetA (.ref a) k v T H := by
  unfold wSetA vRef
  dsimp only
  rw [h]
  exact ⟨hc, hk, hl, hv, hq⟩
theorem ne_of {H : MH} {a b : Addr} {o : MO} (ha : H a = none) (hb : H b = some o) : b ≠ a := fun q => by rw [q, ha] at hb; cases hb
theorem ne_os {H : MH} {a b : Addr} {o p : MO} (ha : H a = some o) (hb : H b = some p) (h : o ≠ p) : a ≠ b := fun q => by subst q; rw [ha] at hb; exact h (Option.some.inj hb)
theorem upd_old {H : MH} {a b : Addr} {o o' : MO} (ha : H a = none) (hb : H b = some o) : upd H a o' b = some o := (upd_ne _ _ (ne_of ha hb)).trans hb

structure Cx (G : Gd) : Prop where
  fns : allFns.all (fun x => fnOk G.K x.1 x.2.1 x.2.2.1 x.2.2.2) = true
theorem Cx.at {G : Gd} (C : Cx G) (i : Nat) {f : FId} {np : Nat} {ln : List Str} {b : Ss} (h : allFns[i]? = some (f, np, ln, b)) : fnOk G.K f np ln b = true :=
  List.all_eq_true.mp C.fns _ (List.mem_of_getElem? h)
theorem pred_of {n k : Nat} (h : k + 1 ≤ n) : ∃ m, n = m + 1 ∧ k ≤ m := ⟨n - 1, by lia, by exact Nat.le_sub_of_add_le (by omega)⟩
end Mine
end
-- part M27
section
open PySem PySem.Calls PyProof.Rows PySem.W Builtin Builtin.ObjectAttr
set_option maxHeartbeats 4000000
set_option maxRecDepth 100000
namespace Mine

theorem zip_short {ps : List Str} {vals : List Value} (last : Str) (hl : vals.length = ps.length) : (ps ++ [last]).zip vals = ps.zip vals := by
  conv => lhs; rw [← List.append_nil vals]
  rw [List.zip_append hl.symm, List.zip_nil_right, List.append_nil]
theorem zip_no {ps : List Str} {vals : List Value} {last : Str} (h : last ∉ ps) : (ps.zip vals).lookup last = none := by
  cases q : (ps.zip vals).lookup last with
  | none => rfl
  | some v => exact absurd (List.of_mem_zip (mem_of_lookup q)).1 h
theorem binds_one {fd : FuncData} {vals : List Value} {ps : List Str} {last : Str} {d : Value} {M : Model} {A : Around} {E : Value → Shared → Prop} {s : Shared} {Q : List (Str × Value) → Shared → Prop} (h1 : fd.params.posonlyargs = []) (h2 : fd.params.kwonlyargs = []) (h3 : fd.params.vararg = none) (h4 : fd.params.kwarg = none)
    (h5 : fd.params.args.map (·.arg) = ps ++ [last]) (nd : (ps ++ [last]).Nodup) (hl : vals.length = ps.length) (hd : ∀ (R : Option (Array Value) → Shared → Prop), R (some #[d]) s → wpAny M A (seqItems? fd.defaults) R E s) (hq : Q ((ps ++ [last]).zip (vals ++ [d])) s) :
    wpAny M A (bindArgs fd ⟨vals, []⟩) Q E s := by
  have hnl : last ∉ ps := fun h => (List.nodup_append.mp nd).2.2 last h last List.mem_cons_self rfl
  have hlen : (ps ++ [last]).length = ps.length + 1 := List.length_append
  have e1 : dsOf (ps ++ [last]).length (some #[d]) = [d] := by
    show List.drop (1 - (ps ++ [last]).length) [d] = [d]
    rw [hlen, Nat.sub_eq_zero_of_le (Nat.le_add_left 1 _)]; rfl
  have e2 : (ps ++ [last]).length - [d].length = ps.length := by rw [hlen]; rfl
  have e3 : List.take ps.length (ps ++ [last]) = ps := List.take_left
  have e4 : List.drop ps.length (ps ++ [last]) = [last] := List.drop_left
  have z := zip_short last hl
  refine binds_gen (S := ps.zip vals ++ [(last, d)]) (ok := fun x => x = some #[d]) h1 h2 h3 h4 h5 (by rw [hl, hlen]; exact Nat.le_succ _) (fun R h => hd R (h _ rfl)) (fun x hx => ?_) (fun x hx => ?_) ?_
  · rw [hx, e1, e2, e3, z]
    refine List.filter_eq_nil_iff.mpr fun n hn q => ?_
    have := zip_lookup_isSome _ _ hl hn
    rw [Option.isNone_iff_eq_none.mp q] at this
    cases this
  · rw [hx, e1, e2, e4, z]
    show (forIn [(last, d)] _ _ : Sem (List (Str × Value))) = _
    rw [List.forIn_cons, if_pos (by rw [zip_no hnl]; rfl), pure_bind]; rfl
  · have hfull : ps.zip vals ++ [(last, d)] = (ps ++ [last]).zip (vals ++ [d]) := by
      rw [List.zip_append hl.symm]; rfl
    rw [hfull, zip_filterMap _ _ _ (by rw [List.length_append, List.length_append, hl]; rfl) (zip_lookup _ _ nd)]
    exact hq

noncomputable def defSeq (K : Frag) (dv : V) : Value → Bool
  | .ref T => seqAt K T fun vs => V.sames (vs.toList.map V.of) [dv]
  | _ => false
noncomputable def defOk (K : Frag) (f : FId) (dv : V) : Bool := fnAt K f fun fd => defSeq K dv fd.defaults
noncomputable def DefIs (K : Frag) (f : FId) (d : Value) : Prop := ∀ fc fdct fd fsl, K.lookup (fAddr K f) = some ⟨fc, fdct, .func fd, fsl⟩ → ∃ T tc td tk tl, fd.defaults = .ref T ∧ K.lookup T = some ⟨tc, td, .seq #[d] tk, tl⟩
theorem defIs_of {K : Frag} {f : FId} {dv : V} (h : defOk K f dv = true) : ∃ d, V.of d = dv ∧ DefIs K f d :=
  fnAt_el h fun fc fdct fd fsl e h => by
    cases q : fd.defaults <;> rw [q] at h <;> first | exact Bool.noConfusion (show false = true from h) | skip
    rename_i T
    refine seqAt_el h fun tc td vs tk tl e2 h => ?_
    obtain ⟨d, hd, hv⟩ := maps1 (V.sames_eq _ _ h)
    have ev : vs = #[d] := by rw [← Array.toArray_toList (xs := vs), hd]
    refine ⟨d, hv, fun fc' fdct' fd' fsl' e' => ?_⟩
    rw [e] at e'
    cases e'
    exact ⟨T, tc, td, tk, tl, q, by rw [← ev]; exact e2⟩
section
variable {G : Gd} {P : Part} {W : Addr → Prop} {H : MH} {s : Shared} {n : Nat} {A : Around} {Q : V → MH → Prop} {ln : List Str} {b : Ss}

theorem WCall.introD {f : FId} {args : List V} {dv : V} (hdf : defOk G.K f dv = true) (hf : fnOk G.K f (args.length + 1) ln b = true)
    (h : wB G ln n b (fr0 ln (args ++ [dv])) (@lk _ ⟨fun fl _ H' => match fl with | .ret v => Q v H' | .next => Q .none H' | _ => False⟩) H) : WCall G (n + 1) f args Q H := by
  obtain ⟨d, rfl, hdI⟩ := defIs_of hdf
  intro P A s vs hA x hv
  have hlen : (args ++ [V.of d]).length = args.length + 1 := List.length_append
  rw [← hlen] at hf
  refine fnAt_el hf fun fc fdct fd fsl hK hf => ?_
  obtain ⟨T, tc, td, tk, tl, eT, e2⟩ := hdI _ _ _ _ hK
  have F := fdF_of hf
  have hps := F.len
  obtain ⟨ps, last, eps⟩ : ∃ ps last, ln.take (args ++ [V.of d]).length = ps ++ [last] := ⟨_, _, (List.dropLast_concat_getLast (l := ln.take (args ++ [V.of d]).length) (by intro q; rw [q, hlen] at hps; cases hps)).symm⟩
  have hpl : ps.length = args.length := by
    rw [eps, List.length_append, hlen] at hps
    exact Nat.succ.inj hps
  refine call_core (full := args ++ [V.of d]) (vs := vs ++ [d]) hA x (by rw [List.map_append, hv]; rfl) hK F (fun {E R} hR => binds_one (ps := ps) (last := last) (d := d) F.po F.ko F.va F.kw (F.ps.trans eps) (by rw [← eps]; exact F.nd.sublist (List.take_sublist _ _)) (by rw [hpl, ← hv, List.length_map]) (fun R hR => ?_) (by rw [← eps]; exact hR)) h
  rw [eT]; exact wpAny_seqItems (x.KI _ _ e2) rfl hR
end
end Mine
end
-- part KG
section
open PySem PySem.Calls PyProof.Rows PySem.W
set_option maxHeartbeats 4000000
set_option maxRecDepth 100000
namespace Mine
theorem mnil {α : Type} {P : α → Prop} : ∀ y ∈ ([] : List α), P y := fun _ h => by cases h
theorem mcons {α : Type} {P : α → Prop} {a : α} {l : List α} (h : P a) (t : ∀ y ∈ l, P y) : ∀ y ∈ a :: l, P y := List.forall_mem_cons.mpr ⟨h, t⟩
theorem wB_cons {G : Gd} {ln : List Str} {n : Nat} {s : S} {ss : Ss} {fr : List V} {Q : Fl → List V → MH → Prop} {H : MH} :
    wB G ln n (.cons s ss) fr Q H = wS G ln n s fr (fun fl fr' H => match fl with | .next => wB G ln n ss fr' Q H | fl => Q fl fr' H) H := rfl

theorem ifE_pair {G : Gd} {ln : List Str} {n i : Nat} {fr : List V} {a : Addr} {p q x y : Int} {A B : E} {Q : V → MH → Prop} {H : MH} (hl : fr.getD i .odd = .ref a) (h : H a = some (.tup [.int p, .int q]))
    (h1 : p = x → q = y → wE G ln n A fr Q H) (h2 : (p = x → q = y → False) → wE G ln n B fr Q H) : wE G ln n (.ife (.eqPair (.loc i) x y) A B) fr Q H := by
  rw [xE_ife, xC_eqPair, xE_loc, hl]
  show (match H a with | some (.tup [.int i, .int j]) => ((i = x ∧ j = y) → wE G ln n A fr Q H) ∧ (¬ (i = x ∧ j = y) → wE G ln n B fr Q H) | _ => False)
  rw [h]
  exact ⟨fun h3 => h1 h3.1 h3.2, fun h3 => h2 fun a b => h3 ⟨a, b⟩⟩
theorem wB_step {G : Gd} {ln : List Str} {n : Nat} {s : S} {ss : Ss} {fr : List V} {Q : Fl → List V → MH → Prop} {H : MH} 
    (h : wS G ln n s fr (fun fl fr' H => match fl with | .next => wB G ln n ss fr' Q H | fl => Q fl fr' H) H) : wB G ln n (.cons s ss) fr Q H := h
section
variable {G : Gd} {n : Nat} {ln : List Str}
theorem WFor.turn {t : Tgt} {b : Ss} {src src' : Src} {v : V} {fr : List V} {Q : Fl → List V → MH → Prop} {H : MH} (nd : ln.Nodup) (e : src.next H = some (some (v, src')))
    (h : ∀ Q' : Fl → List V → MH → Prop, (∀ fr'' H, WFor G ln n t b src' fr'' Q H → Q' .next fr'' H) → (∀ fr'' H, WFor G ln n t b src' fr'' Q H → Q' .cont fr'' H) → (∀ fr'' H, Q .next fr'' H → Q' .brk fr'' H) → (∀ v fr'' H, Q (.ret v) fr'' H → Q' (.ret v) fr'' H) →
      wT t v fr (fun fr' => wB G ln n b fr' Q') H) : WFor G ln n t b src fr Q H := by
  refine WFor.step nd ?_
  rw [e]
  exact h _ (fun _ _ h => h) (fun _ _ h => h) (fun _ _ h => h) (fun _ _ _ h => h)
theorem WFor.done {t : Tgt} {b : Ss} {src : Src} {fr : List V} {Q : Fl → List V → MH → Prop} {H : MH} (nd : ln.Nodup) (e : src.next H = some none) (h : Q .next fr H) : WFor G ln n t b src fr Q H := by
  refine WFor.step nd ?_
  rw [e]
  exact h
theorem WWhile.turn {t : E} {b : Ss} {fr : List V} {Q : Fl → List V → MH → Prop} {H : MH} (nd : ln.Nodup)
    (h : ∀ Q' : Fl → List V → MH → Prop, (∀ fr'' H, WWhile G ln n t b fr'' Q H → Q' .next fr'' H) → (∀ fr'' H, WWhile G ln n t b fr'' Q H → Q' .cont fr'' H) → (∀ fr'' H, Q .next fr'' H → Q' .brk fr'' H) → (∀ v fr'' H, Q (.ret v) fr'' H → Q' (.ret v) fr'' H) →
      wC G ln n t fr (wB G ln n b fr Q') (Q .next fr) H) : WWhile G ln n t b fr Q H :=
  WWhile.step nd (h _ (fun _ _ h => h) (fun _ _ h => h) (fun _ _ h => h) (fun _ _ _ h => h))
theorem WComp.turn {elt : E} {t : Nat} {conds : Es} {src src' : Src} {v : V} {acc : Addr} {fr : List V} {Q : MH → Prop} {H : MH} (nd : ln.Nodup) (e : src.next H = some (some (v, src')))
    (h : ∀ Q' : MH → Prop, (∀ H, WComp G ln n elt t conds src' acc (fr.set t v) Q H → Q' H) → wCs true G ln n conds (fr.set t v)
          (wE G ln n elt (fr.set t v) (fun x H => match H acc with
            | some (.list xs) => xs.length < big ∧ x ≠ .odd ∧ Q' (upd H acc (.list (xs ++ [x])))
            | _ => False)) Q' H) : WComp G ln n elt t conds src acc fr Q H := by
  refine WComp.step nd ?_
  rw [e]
  exact h _ (fun _ h => h)
theorem WComp.done {elt : E} {t : Nat} {conds : Es} {src : Src} {acc : Addr} {fr : List V} {Q : MH → Prop} {H : MH} (nd : ln.Nodup) (e : src.next H = some none) (h : Q H) : WComp G ln n elt t conds src acc fr Q H := by
  refine WComp.step nd ?_
  rw [e]
  exact h
theorem WCall.go {f : FId} {args : List V} {b : Ss} {Q : V → MH → Prop} {H : MH} (hf : fnOk G.K f args.length ln b = true)
    (h : ∀ Q' : Fl → List V → MH → Prop, (∀ v fr H', Q v H' → Q' (.ret v) fr H') → (∀ fr H', Q .none H' → Q' .next fr H') → wB G ln n b (fr0 ln args) Q' H) : WCall G (n + 1) f args Q H :=
  WCall.intro hf (h _ (fun _ _ _ h => h) (fun _ _ h => h))
theorem WCall.goD {f : FId} {args : List V} {b : Ss} {dv : V} {Q : V → MH → Prop} {H : MH} (hd : defOk G.K f dv = true) (hf : fnOk G.K f (args.length + 1) ln b = true)
    (h : ∀ Q' : Fl → List V → MH → Prop, (∀ v fr H', Q v H' → Q' (.ret v) fr H') → (∀ fr H', Q .none H' → Q' .next fr H') → wB G ln n b (fr0 ln (args ++ [dv])) Q' H) : WCall G (n + 1) f args Q H :=
  WCall.introD hd hf (h _ (fun _ _ _ h => h) (fun _ _ h => h))
theorem wB_go {s : S} {ss : Ss} {fr : List V} {Q : Fl → List V → MH → Prop} {H : MH}
    (h : ∀ Q' : Fl → List V → MH → Prop, (∀ fr' H', wB G ln n ss fr' Q H' → Q' .next fr' H') → (∀ fr' H', Q .cont fr' H' → Q' .cont fr' H') → (∀ fr' H', Q .brk fr' H' → Q' .brk fr' H') → (∀ v fr' H', Q (.ret v) fr' H' → Q' (.ret v) fr' H') → wS G ln n s fr Q' H) :
    wB G ln n (.cons s ss) fr Q H := by
  rw [wB_cons]
  exact h _ (fun _ _ h => h) (fun _ _ h => h) (fun _ _ h => h) (fun _ _ _ h => h)
end
end Mine
end
-- part K1
section
open PySem PySem.Calls PyProof.Rows PySem.W
set_option maxHeartbeats 4000000
set_option maxRecDepth 100000
namespace Mine
section
variable {G : Gd} (C : Cx G) {n : Nat} {Q : V → MH → Prop} {H : MH}
include C
theorem c_step_size {t : Addr} {a b : Int} (hn : 1 ≤ n) (ht : H t = some (.tup [.int a, .int b])) (hq : Q (.int (if a = 0 then 1 else a)) H) : WCall G n (.top "step_size") [.ref t] Q H := by
  obtain ⟨m, rfl, hm⟩ := pred_of hn
  refine WCall.intro (C.at 1 rfl) ?_
  have e : fr0 p_step_size_ln [.ref t] = [.ref t] := rfl
  rw [e]
  simp [p_step_size, s_tup0 ht]
  constructor <;> intro h <;> simpa [h] using hq
theorem c_check_range {xs : List Int} {s m : Int} (hn : 1 ≤ n) (h0 : 0 ≤ s) (h1 : s ≤ xs.length) (hm : 0 ≤ m) (hz : xs.length ≤ big) (hq : Q .none H) : WCall G n (.top "check_range") [.bytes xs, .int s, .int m] Q H := by
  obtain ⟨k, rfl, _⟩ := pred_of hn
  refine WCall.intro (C.at 0 rfl) ?_
  have e : fr0 p_check_range_ln [.bytes xs, .int s, .int m] = [.bytes xs, .int s, .int m] := rfl
  rw [e]
  simp [p_check_range, hz, hq]
  lia
end
end Mine
end
-- part K2
section
open PySem PySem.Calls PyProof.Rows PySem.W
set_option maxHeartbeats 4000000
set_option maxRecDepth 100000
namespace Mine

noncomputable abbrev oct (T : List Int) (i : Nat) : Int := T.getD i 0
noncomputable def agree (T : List Int) (p q k : Nat) : Prop := ∀ i, i < k → oct T (p + i) = oct T (q + i)
theorem agree.succ {T : List Int} {p q k : Nat} (h : agree T p q k) (e : oct T (p + k) = oct T (q + k)) : agree T p q (k + 1) := fun i hi => by
  rcases Nat.lt_or_ge i k with h' | h'
  · exact h i h'
  · have : i = k := by lia
    subst this; exact e
theorem agree.le {T : List Int} {p q k j : Nat} (h : agree T p q k) (hj : j ≤ k) : agree T p q j := fun i hi => h i (by exact Nat.lt_of_lt_of_le (by assumption) (by assumption))

structure MF (H : MH) (a : Addr) (c : Nat) (fs : List (Nat × V)) (T : List Int) (l w ch ah : Int) : Prop where
  h : H a = some (.inst c fs)
  c : c = 1 ∨ c = 2 ∨ c = 3
  f0 : fget fs 0 = some (.bytes T)
  f4 : fget fs 4 = some (.int l)
  f5 : fget fs 5 = some (.int w)
  f6 : fget fs 6 = some (.int ch)
  f7 : fget fs 7 = some (.int ah)
  m : ∀ k, 24 ≤ k → fget fs k = none
  z : T.length ≤ big
  n : fs.length ≤ 20
theorem MF.c7 {H : MH} {a : Addr} {c : Nat} {fs : List (Nat × V)} {T : List Int} {l w ch ah : Int} (x : MF H a c fs T l w ch ah) : c < 7 := by rcases x.c with e | e | e <;> lia

section
variable {G : Gd} (C : Cx G) {n : Nat} {Q : V → MH → Prop} {H : MH} {a : Addr} {c : Nat} {fs : List (Nat × V)} {T : List Int} {l w ch ah : Int}
include C
theorem c_limit {p m : Int} (hn : 1 ≤ n) (x : MF H a c fs T l w ch ah) (hq : Q (.int (min m (T.length - p))) H) : WCall G n (.meth 7 29) [.ref a, .int p, .int m] Q H := by
  obtain ⟨k, rfl, _⟩ := pred_of hn
  refine WCall.intro (C.at 21 rfl) ?_
  have e : fr0 p_Matcher_limit_ln [.ref a, .int p, .int m] = [.ref a, .int p, .int m] := rfl
  rw [e]
  have hc := x.c7
  simp [p_Matcher_limit, x.h, x.f0, hc, x.z]
  have : (if (T.length : Int) - p < m then (T.length : Int) - p else m) = min m (T.length - p) := by split <;> lia
  rw [this]; exact hq
theorem c_is_near {p o : Int} (hn : 1 ≤ n) (x : MF H a c fs T l w ch ah) (hT : o ≠ -1 → p - o ≤ w → Q (.bool true) H) (hF : ¬ (o ≠ -1 ∧ p - o ≤ w) → Q (.bool false) H) : WCall G n (.meth 7 31) [.ref a, .int p, .int o] Q H := by
  obtain ⟨k, rfl, _⟩ := pred_of hn
  refine WCall.intro (C.at 23 rfl) ?_
  have e : fr0 p_Matcher_is_near_ln [.ref a, .int p, .int o] = [.ref a, .int p, .int o] := rfl
  rw [e]
  have hc := x.c7
  simp [p_Matcher_is_near, x.h, x.f5, hc]
  exact ⟨fun h1 => ⟨fun h2 => hT h1 h2, fun h2 => hF (by lia)⟩, fun h1 => hF (by lia)⟩

omit C in
theorem nd_alike : p_Matcher_alike_ln.Nodup := by decide +kernel
omit C in
theorem l_alike {p q m : Nat} {K : Fl → List V → MH → Prop} (hz : T.length ≤ big) (hp : p + m ≤ T.length) (hq : q + m ≤ T.length) : ∀ (j known : Nat), j + known = m → agree T p q known →
    (∀ c : Nat, known ≤ c → c ≤ m → agree T p q c → (c < m → oct T (p + c) ≠ oct T (q + c)) → K .next [.ref a, .int p, .int q, .int c, .int m, .bytes T] H) →
    WWhile G p_Matcher_alike_ln n p_Matcher_alike_wt0 p_Matcher_alike_wb1 [.ref a, .int p, .int q, .int known, .int m, .bytes T] K H := by
  intro j
  induction j with
  | zero =>
    intro known hk ha hK
    refine WWhile.step nd_alike ?_
    simp [p_Matcher_alike_wt0]
    refine ⟨fun h => by exact mh_false (by lia), fun _ => hK known (Nat.le_refl _) (by lia) ha fun h => by exact absurd (by assumption) (by lia)⟩
  | succ j ih =>
    intro known hk ha hK
    refine WWhile.step nd_alike ?_
    have e1 : ((p : Int) + known).toNat = p + known := by exact Int.toNat_natCast _
    have e2 : ((q : Int) + known).toNat = q + known := by exact Int.toNat_natCast _
    simp [p_Matcher_alike_wt0]
    refine ⟨fun _ => ?_, fun h => by exact mh_false (by lia)⟩
    rw [s_bytes (by exact Int.natCast_nonneg _) (by lia) hz]
    simp
    rw [s_bytes (by exact Int.natCast_nonneg _) (by lia) hz]
    simp [wAug, e1, e2, p_Matcher_alike_wb1]
    refine ⟨fun h => ?_, fun h => hK known (Nat.le_refl _) (by exact Nat.le_of_lt (by assumption)) ha fun _ => by simpa [oct] using h⟩
    have := ih (known + 1) (by lia) (ha.succ (by simpa [oct] using h)) fun c h1 h2 h3 h4 => hK c (by exact Nat.le_of_lt (by assumption)) h2 h3 h4
    show WWhile G _ n p_Matcher_alike_wt0 p_Matcher_alike_wb1 _ _ _
    simpa using this
theorem c_alike {p q known m : Nat} (hn : 1 ≤ n) (x : MF H a c fs T l w ch ah) (hk : known ≤ m) (hp : p + m ≤ T.length) (hq : q + m ≤ T.length) (hag : agree T p q known)
    (hQ : ∀ c : Nat, known ≤ c → c ≤ m → agree T p q c → (c < m → oct T (p + c) ≠ oct T (q + c)) → Q (.int c) H) : WCall G n (.meth 7 30) [.ref a, .int p, .int q, .int known, .int m] Q H := by
  obtain ⟨k, rfl, _⟩ := pred_of hn
  refine WCall.intro (C.at 22 rfl) ?_
  have e : fr0 p_Matcher_alike_ln [.ref a, .int p, .int q, .int known, .int m] = [.ref a, .int p, .int q, .int known, .int m, .odd] := rfl
  rw [e]
  have hc := x.c7
  simp [p_Matcher_alike, x.h, x.f0, hc, wT]
  refine l_alike x.z hp hq (m - known) known (by exact Nat.sub_add_cancel (by lia)) hag fun c h1 h2 h3 h4 => ?_
  simpa using hQ c h1 h2 h3 h4
end
end Mine
end
-- part K3
section
open PySem PySem.Calls PyProof.Rows PySem.W
set_option maxHeartbeats 4000000
set_option maxRecDepth 100000
namespace Mine

noncomputable def fold256 (xs : List Int) (z : Int) : Int := xs.foldl (fun n o => n * 256 + o) z
noncomputable def keyN (T : List Int) (sz p : Nat) : Int := fold256 ((T.drop p).take sz) 0
noncomputable def lastK (T : List Int) (sz : Nat) : Nat → Int → Int
  | 0, _ => -1
  | p + 1, k => if p + sz ≤ T.length ∧ keyN T sz p = k then p else lastK T sz p k
theorem lastK_s {T : List Int} {sz p : Nat} {k : Int} : lastK T sz (p + 1) k = if p + sz ≤ T.length ∧ keyN T sz p = k then (p : Int) else lastK T sz p k := rfl
theorem lastK_lt (T : List Int) (sz : Nat) (k : Int) : ∀ p, -1 ≤ lastK T sz p k ∧ lastK T sz p k < p
  | 0 => ⟨Int.le_refl _, by show (-1 : Int) < 0; decide⟩
  | p + 1 => by
    have := lastK_lt T sz k p
    rw [lastK_s]
    split <;> lia

noncomputable abbrev rowF (T : List Int) (sz : Nat) (L B : Addr) : List (Nat × V) := [(0, .bytes T), (1, .int sz), (2, .ref L), (3, .ref B)]
structure PR (H : MH) (r : Addr) (T : List Int) (sz ah : Nat) (L B : Addr) : Prop where
  h : H r = some (.inst 0 (rowF T sz L B))
  d : ∃ m f, H L = some (.dict m f) ∧ m ≤ ah ∧ ∀ k, (f k).getD (.int (-1)) = .int (lastK T sz ah k)
  b : ∃ bs, H B = some (.list bs) ∧ bs.length = T.length ∧ ∀ p, p < ah → p + sz ≤ T.length → bs.getD p .odd = .int (lastK T sz p (keyN T sz p))
  ne : L ≠ B ∧ r ≠ L ∧ r ≠ B
theorem PR.keep {H H' : MH} {r : Addr} {T : List Int} {sz ah : Nat} {L B : Addr} (x : PR H r T sz ah L B) (h1 : H' r = H r) (h2 : H' L = H L) (h3 : H' B = H B) : PR H' r T sz ah L B :=
  ⟨h1.trans x.h, let ⟨m, f, a, r⟩ := x.d; ⟨m, f, h2.trans a, r⟩, let ⟨bs, a, r⟩ := x.b; ⟨bs, h3.trans a, r⟩, x.ne⟩

theorem clip_nat (n k : Nat) : clipAt n (k : Int) = min k n := by
  show (max 0 (min (if (k : Int) < 0 then (k : Int) + n else k) n)).toNat = _
  rw [if_neg (Int.not_lt.mpr (Int.natCast_nonneg k)), Int.max_eq_right (Int.le_min.mpr ⟨Int.natCast_nonneg k, Int.natCast_nonneg n⟩)]
  rcases Nat.le_total k n with h | h
  · rw [Int.min_eq_left (Int.ofNat_le.mpr h), Nat.min_eq_left h]; rfl
  · rw [Int.min_eq_right (Int.ofNat_le.mpr h), Nat.min_eq_right h]; rfl
theorem cut_nat (xs : List Int) (i j : Nat) (hi : i ≤ xs.length) : cut xs (some (i : Int)) (some ((i : Int) + j)) = (xs.drop i).take j := by
  unfold cut
  show ((xs.drop (clipAt xs.length (i : Int))).take (clipAt xs.length ((i : Int) + j) - clipAt xs.length (i : Int))) = _
  rw [clip_nat, show ((i : Int) + j) = ((i + j : Nat) : Int) by exact rfl, clip_nat, Nat.min_eq_left hi]
  rcases Nat.le_total (i + j) xs.length with h | h
  · rw [Nat.min_eq_left h, show i + j - i = j by lia]
  · rw [Nat.min_eq_right h, List.take_of_length_le (by simp), List.take_of_length_le (by simp; exact Nat.le_trans (by assumption) (by lia))]

@[simp] theorem sl_bytes {xs : List Int} {x y : Int} {Q : V → MH → Prop} {H : MH} : wSlice (.bytes xs) (.int x) (.int y) Q H = (xs.length ≤ big ∧ Q (.bytes (cut xs (some x) (some y))) H) := rfl
@[simp] theorem src_bytes {xs : List Int} {Q : Src → MH → Prop} {H : MH} : srcOf (.bytes xs) Q H = Q (.byt xs 0) H := rfl

section
variable {G : Gd} (C : Cx G) {n : Nat} {Q : V → MH → Prop} {H : MH} {r L B : Addr} {T : List Int} {sz ah : Nat}
theorem nd_newest : p_PlaceRow_newest_ln.Nodup := by decide +kernel
theorem nd_key : p_PlaceRow_key_ln.Nodup := by decide +kernel
theorem short256 : short 256 := ⟨by decide, by decide⟩
theorem l_key {p : Int} {a : Addr} {K : Fl → List V → MH → Prop} (xs : List Int) : ∀ (j i : Nat) (z : Int) (o : V), j + i = xs.length →
    (∀ o', K .next [.ref a, .int p, .int (fold256 (xs.drop i) z), o'] H) → WFor G p_PlaceRow_key_ln n (.v 3) p_PlaceRow_key_fb0 (.byt xs i) [.ref a, .int p, .int z, o] K H := by
  intro j
  induction j with
  | zero =>
    intro i z o hi hK
    refine WFor.step nd_key ?_
    have : xs[i]? = none := by rw [List.getElem?_eq_none_iff]; lia
    simp only [Src.next, this, Option.map_none]
    have := hK o
    rw [List.drop_of_length_le (by lia)] at this
    exact this
  | succ j ih =>
    intro i z o hi hK
    refine WFor.step nd_key ?_
    have hlt : i < xs.length := by lia
    have : xs[i]? = some xs[i] := List.getElem?_eq_getElem hlt
    simp only [Src.next, this, Option.map_some]
    simp [wT, p_PlaceRow_key_fb0]
    refine ⟨.inr short256, ?_⟩
    show WFor G p_PlaceRow_key_ln n _ p_PlaceRow_key_fb0 _ _ _ _
    refine ih (i + 1) _ _ (by lia) fun o' => ?_
    have := hK o'
    rw [List.drop_eq_getElem_cons hlt] at this
    exact this
include C
theorem c_key {p : Nat} (hn : 1 ≤ n) (h : H r = some (.inst 0 (rowF T sz L B))) (hp : p ≤ T.length) (hz : T.length ≤ big) (h1 : p + sz ≤ T.length → Q (.int (keyN T sz p)) H) (h2 : ¬ p + sz ≤ T.length → Q .none H) :
    WCall G n (.meth 0 25) [.ref r, .int p] Q H := by
  obtain ⟨k, rfl, _⟩ := pred_of hn
  refine WCall.intro (C.at 16 rfl) ?_
  have e : fr0 p_PlaceRow_key_ln [.ref r, .int p] = [.ref r, .int p, .odd, .odd] := rfl
  rw [e]
  simp [p_PlaceRow_key, h, fget, wT, hz]
  refine ⟨fun _ => ⟨fun hlt => h2 (by lia), fun hle => ?_⟩, hp⟩
  refine l_key _ (cut T (some ↑p) (some (↑p + ↑sz))).length 0 0 .odd (by exact Int.toNat_natCast _) fun o' => ?_
  rw [cut_nat _ _ _ hp]
  simpa [keyN] using h1 (by exact Int.ofNat_le.mp (by assumption))

theorem c_newest {p : Nat} (hn : 2 ≤ n) (x : PR H r T sz p L B) (hp : p ≤ T.length) (hz : T.length ≤ big) (hq : Q (.int (if p + sz ≤ T.length then lastK T sz p (keyN T sz p) else -1)) H) : WCall G n (.meth 0 27) [.ref r, .int p] Q H := by
  obtain ⟨k, rfl, hk⟩ := pred_of hn
  refine WCall.intro (C.at 18 rfl) ?_
  have e : fr0 p_PlaceRow_newest_ln [.ref r, .int p] = [.ref r, .int p, .odd, .odd] := rfl
  rw [e]
  simp [p_PlaceRow_newest]
  refine m_inst x.h (by decide) (by decide) rfl rfl ?_
  simp
  refine c_key C hk x.h hp hz (fun h => ?_) (fun h => ?_)
  · rw [if_pos h] at hq
    obtain ⟨m, f, hd, hm, hf⟩ := x.d
    simp [wT, x.h, fget]
    refine m_get hd ?_
    simp
    refine get_of hd (by simp) ?_
    rw [hf]
    simp
    refine WWhile.step nd_newest ?_
    have := (lastK_lt T sz (keyN T sz p) p).2
    simp [p_PlaceRow_newest_wt0]
    exact ⟨fun h => by exact mh_false (by lia), fun _ => hq⟩
  · rw [if_neg h] at hq
    simp [wT, x.h, fget]
    exact hq

theorem c_rowput {p : Nat} (hn : 2 ≤ n) (x : PR H r T sz p L B) (hp : p < T.length) (hz : T.length ≤ 4000)
    (hq : ∀ H', PR H' r T sz (p + 1) L B → (∀ b, b ≠ L → b ≠ B → H' b = H b) → Q .none H') : WCall G n (.meth 0 26) [.ref r, .int p] Q H := by
  obtain ⟨k, rfl, hk⟩ := pred_of hn
  have hb : big = 16777216 := rfl
  refine WCall.intro (C.at 17 rfl) ?_
  have e : fr0 p_PlaceRow_put_ln [.ref r, .int p] = [.ref r, .int p, .odd] := rfl
  rw [e]
  simp [p_PlaceRow_put]
  refine m_inst x.h (by decide) (by decide) rfl rfl ?_
  simp
  obtain ⟨m, f, hd, hm, hf⟩ := x.d
  obtain ⟨bs, hbs, hbl, hbv⟩ := x.b
  obtain ⟨n1, n2, n3⟩ := x.ne
  refine c_key C hk x.h (by exact Nat.le_of_lt (by assumption)) (by exact easy (by assumption) rfl) (fun h => ?_) (fun h => ?_)
  · simp [wT, x.h, fget]
    refine m_get hd ?_
    simp
    refine get_of hd (by simp) ?_
    rw [hf]
    simp [x.h, fget]
    refine set_at hbs (by exact Nat.lt_of_lt_of_le (by assumption) (by lia)) (by lia) ?_
    simp [upd_ne _ _ n3, x.h, fget]
    refine set_key ((upd_ne _ _ n1).trans hd) (by exact Nat.lt_of_le_of_lt (by assumption) (by lia)) (by simp) ?_
    refine hq _ ⟨?_, ⟨m + 1, _, upd_same _ _ _, by exact Nat.succ_le_succ (by assumption), fun q => ?_⟩, ⟨_, (upd_ne _ _ n1.symm).trans (upd_same _ _ _), by rw [List.length_set]; exact hbl, fun q h1 h2 => ?_⟩, x.ne⟩ (fun b h1 h2 => by rw [upd_ne _ _ h1, upd_ne _ _ h2])
    · rw [upd_ne _ _ n2, upd_ne _ _ n3]; exact x.h
    · show (if q = keyN T sz p then some (V.int p) else f q).getD (.int (-1)) = V.int (if p + sz ≤ T.length ∧ keyN T sz p = q then (p : Int) else lastK T sz p q)
      by_cases hk : q = keyN T sz p
      · rw [if_pos hk, if_pos ⟨h, hk.symm⟩]; rfl
      · rw [if_neg hk, if_neg fun z => hk z.2.symm]; exact hf q
    · rw [getD_set _ _ _ _ (by exact Nat.lt_of_lt_of_le (by assumption) (by lia))]
      by_cases hqp : q = p
      · subst hqp; rw [if_pos rfl]
      · rw [if_neg hqp]; exact hbv q (by lia) h2
  · simp [wT]
    refine hq H ⟨x.h, ⟨m, f, hd, by exact Nat.le_succ_of_le (by assumption), fun q => ?_⟩, ⟨bs, hbs, hbl, fun q h1 h2 => ?_⟩, x.ne⟩ (fun _ _ _ => rfl)
    · rw [hf]
      show _ = V.int (if p + sz ≤ T.length ∧ keyN T sz p = q then (p : Int) else lastK T sz p q)
      rw [if_neg fun q => h q.1]
    · exact hbv q (by lia) h2
end
end Mine
end
-- part K4
section
open PySem PySem.Calls PyProof.Rows PySem.W
set_option maxHeartbeats 4000000
set_option maxRecDepth 100000
namespace Mine

noncomputable def Tups (H : MH) : List V → List (Int × Int) → Prop
  | [], [] => True
  | .ref t :: vs, m :: ms => H t = some (.tup [.int m.1, .int m.2]) ∧ Tups H vs ms
  | _, _ => False
theorem Tups.keep {H H' : MH} (k : ∀ t x, H t = some (.tup x) → H' t = some (.tup x)) : ∀ {vs : List V} {ms : List (Int × Int)}, Tups H vs ms → Tups H' vs ms
  | [], [], _ => trivial
  | .ref t :: vs, m :: ms, h => ⟨k _ _ h.1, Tups.keep k h.2⟩
  | [], _ :: _, h => h.elim
  | .ref _ :: _, [], h => h.elim
  | .none :: _, _, h => by cases h
  | .bool _ :: _, _, h => by cases h
  | .int _ :: _, _, h => by cases h
  | .str _ :: _, _, h => by cases h
  | .bytes _ :: _, _, h => by cases h
  | .odd :: _, _, h => by cases h
theorem Tups.snoc {H : MH} {t : Addr} {m : Int × Int} (ht : H t = some (.tup [.int m.1, .int m.2])) : ∀ {vs : List V} {ms : List (Int × Int)}, Tups H vs ms → Tups H (vs ++ [.ref t]) (ms ++ [m])
  | [], [], _ => ⟨ht, trivial⟩
  | .ref _ :: _, _ :: _, h => ⟨h.1, Tups.snoc ht h.2⟩
  | [], _ :: _, h => h.elim
  | .ref _ :: _, [], h => h.elim
  | .none :: _, _, h => by cases h
  | .bool _ :: _, _, h => by cases h
  | .int _ :: _, _, h => by cases h
  | .str _ :: _, _, h => by cases h
  | .bytes _ :: _, _, h => by cases h
  | .odd :: _, _, h => by cases h
theorem Tups.length {H : MH} : ∀ {vs : List V} {ms : List (Int × Int)}, Tups H vs ms → vs.length = ms.length
  | [], [], _ => rfl
  | .ref _ :: _, _ :: _, h => by rw [List.length_cons, List.length_cons, h.2.length]
  | [], _ :: _, h => h.elim
  | .ref _ :: _, [], h => h.elim
  | .none :: _, _, h => by cases h
  | .bool _ :: _, _, h => by cases h
  | .int _ :: _, _, h => by cases h
  | .str _ :: _, _, h => by cases h
  | .bytes _ :: _, _, h => by cases h
  | .odd :: _, _, h => by cases h
theorem Tups.at {H : MH} : ∀ {vs : List V} {ms : List (Int × Int)} {i : Nat} {m : Int × Int}, Tups H vs ms → ms[i]? = some m → ∃ t, vs[i]? = some (.ref t) ∧ H t = some (.tup [.int m.1, .int m.2])
  | [], [], _, _, _, h => by cases h
  | .ref t :: _, _ :: _, 0, _, h, e => by cases e; exact ⟨t, rfl, h.1⟩
  | .ref _ :: vs, _ :: ms, i + 1, m, h, e => by
    have e' : ms[i]? = some m := by rw [List.getElem?_cons_succ] at e; exact e
    obtain ⟨t, h1, h2⟩ := Tups.at h.2 e'
    exact ⟨t, by rw [List.getElem?_cons_succ]; exact h1, h2⟩
  | [], _ :: _, _, _, h, _ => h.elim
  | .ref _ :: _, [], _, _, h, _ => h.elim
  | .none :: _, _, _, _, h, _ => by cases h
  | .bool _ :: _, _, _, _, h, _ => by cases h
  | .int _ :: _, _, _, _, h, _ => by cases h
  | .str _ :: _, _, _, _, h, _ => by cases h
  | .bytes _ :: _, _, _, _, h, _ => by cases h
  | .odd :: _, _, _, _, h, _ => by cases h

theorem sub_updNew {H H₁ : MH} {b : Addr} (h : Sub H H₁) (hb : H b = none) (o : MO) : Sub H (upd H₁ b o) := fun a x e => by
  rw [upd_ne _ _ (fun q => by rw [q, hb] at e; cases e)]; exact h a x e
theorem sub_none {H H₁ : MH} {b : Addr} (h : Sub H H₁) (hb : H₁ b = none) : H b = none := h.none hb
theorem tups_upd {H : MH} {b : Addr} {o : MO} (hb : ∀ x, H b ≠ some (.tup x)) {vs : List V} {ms : List (Int × Int)} (h : Tups H vs ms) : Tups (upd H b o) vs ms :=
  h.keep fun t x e => (upd_ne _ _ (fun q => hb x (by rw [← q]; exact e))).trans e

structure Res (T : List Int) (w : Int) (p lim l : Nat) (ms : List (Int × Int)) : Prop where
  ok : ∀ m ∈ ms, (l : Int) ≤ m.1 ∧ m.1 ≤ lim ∧ 1 ≤ m.2 ∧ m.2 ≤ p ∧ m.2 ≤ w ∧ agree T p (p - m.2.toNat) m.1.toNat
  top : ∀ q c : Nat, q < p → (p : Int) - q ≤ w → c ≤ lim → l ≤ c → agree T p q c → ∃ m, ms.getLast? = some m ∧ (c : Int) ≤ m.1

theorem fget_ge : ∀ {fs : List (Nat × V)}, (∀ p ∈ fs, p.1 < 24) → ∀ k, 24 ≤ k → fget fs k = none
  | [], _, _, _ => rfl
  | (j, v) :: r, h, k, hk => by
    have := h (j, v) List.mem_cons_self
    show cond _ _ _ = _
    rw [cond_eq_ite, if_neg (by simp at this; lia)]
    exact fget_ge (fun p hp => h p (List.mem_cons_of_mem _ hp)) k hk
structure F1 (H : MH) (a : Addr) (T : List Int) (w ch : Int) (l ah : Nat) (r L B : Addr) : Prop where
  h : H a = some (.inst 1 [(0, .bytes T), (4, .int l), (5, .int w), (6, .int ch), (7, .int ah), (8, .ref r)])
  row : PR H r T l ah L B
  ne : a ≠ r ∧ a ≠ L ∧ a ≠ B
theorem F1.mf {H : MH} {a : Addr} {T : List Int} {w ch : Int} {l ah : Nat} {r L B : Addr} (x : F1 H a T w ch l ah r L B) (hz : T.length ≤ big) : MF H a 1 [(0, .bytes T), (4, .int l), (5, .int w), (6, .int ch), (7, .int ah), (8, .ref r)] T l w ch ah :=
  ⟨x.h, .inl rfl, rfl, rfl, rfl, rfl, rfl, fget_ge (by simp), hz, by show 6 ≤ 20; decide⟩
theorem PR.sub {H H' : MH} {r : Addr} {T : List Int} {sz ah : Nat} {L B : Addr} (s : Sub H H') (x : PR H r T sz ah L B) : PR H' r T sz ah L B :=
  ⟨s _ _ x.h, let ⟨m, f, a, r⟩ := x.d; ⟨m, f, s _ _ a, r⟩, let ⟨bs, a, r⟩ := x.b; ⟨bs, s _ _ a, r⟩, x.ne⟩
theorem F1.sub {H H' : MH} {a : Addr} {T : List Int} {w ch : Int} {l ah : Nat} {r L B : Addr} (s : Sub H H') (x : F1 H a T w ch l ah r L B) : F1 H' a T w ch l ah r L B := ⟨s _ _ x.h, x.row.sub s, x.ne⟩
end Mine
end
-- part K5
section
open PySem PySem.Calls PyProof.Rows PySem.W
set_option maxHeartbeats 4000000
set_option maxRecDepth 100000
namespace Mine

theorem lastK_is (T : List Int) (sz : Nat) (k : Int) : ∀ p, lastK T sz p k = -1 ∨ ∃ q : Nat, q < p ∧ lastK T sz p k = q ∧ q + sz ≤ T.length ∧ keyN T sz q = k
  | 0 => .inl rfl
  | p + 1 => by
    rw [lastK_s]
    split
    · rename_i h; exact .inr ⟨p, by exact Nat.lt_succ_self _, rfl, h.1, h.2⟩
    · rcases lastK_is T sz k p with h | ⟨q, h1, h2⟩
      · exact .inl h
      · exact .inr ⟨q, by exact Nat.le_succ_of_le (by assumption), h2⟩
theorem lastK_max (T : List Int) (sz : Nat) (k : Int) : ∀ p q : Nat, q < p → q + sz ≤ T.length → keyN T sz q = k → (q : Int) ≤ lastK T sz p k
  | 0, _, h, _, _ => by exact absurd (by assumption) (by lia)
  | p + 1, q, h, h1, h2 => by
    rw [lastK_s]
    split
    · exact Int.ofNat_le.mpr (by lia)
    · rename_i hn
      have : q ≠ p := fun e => hn (e ▸ ⟨h1, h2⟩)
      exact lastK_max T sz k p q (by lia) h1 h2

structure Cands (T : List Int) (w : Int) (sz p : Nat) (xs : List Int) : Prop where
  ok : ∀ x ∈ xs, ∃ q : Nat, x = q ∧ q < p ∧ (p : Int) - q ≤ w ∧ q + sz ≤ T.length ∧ keyN T sz q = keyN T sz p
  all : ∀ q : Nat, q < p → (p : Int) - q ≤ w → q + sz ≤ T.length → keyN T sz q = keyN T sz p → (q : Int) ∈ xs

theorem nd_cands : p_Finder_candidates_ln.Nodup := by decide +kernel
section
variable {G : Gd} (C : Cx G) {n : Nat} {Q : V → MH → Prop} {H : MH} {a r L B b : Addr} {T : List Int} {l ah p : Nat} {w ch : Int}
include C
theorem l_cands {K : Fl → List V → MH → Prop} (hn : 1 ≤ n) (x : F1 H a T w ch l ah r L B) (hz : T.length ≤ 4000) (hp : p ≤ ah) (hpl : p + l ≤ T.length) (hch : (T.length : Int) < ch) (hbn : H b = none) :
    ∀ (j : Nat) (o : Int) (xs : List Int) (H' : MH), o + 1 ≤ j → -1 ≤ o → o < p → Sub H H' → H' b = some (.list (xs.map .int)) → (o ≠ -1 → o.toNat + l ≤ T.length ∧ keyN T l o.toNat = keyN T l p) → xs.length + (o + 1) ≤ p →
      (∀ x ∈ xs, ∃ q : Nat, x = q ∧ q < p ∧ (p : Int) - q ≤ w ∧ q + l ≤ T.length ∧ keyN T l q = keyN T l p) →
      (∀ q : Nat, q < p → (p : Int) - q ≤ w → q + l ≤ T.length → keyN T l q = keyN T l p → (q : Int) ∈ xs ∨ q ≤ o) →
      (∀ xs' o' H'', Sub H H'' → H'' b = some (.list (xs'.map .int)) → Cands T w l p xs' → xs'.length ≤ 4000 → K .next [.ref a, .int p, .ref b, o'] H'') →
      WWhile G p_Finder_candidates_ln n p_Finder_candidates_wt0 p_Finder_candidates_wb1 [.ref a, .int p, .ref b, .int o] K H' := by
  have hbg : big = 16777216 := rfl
  intro j
  induction j with
  | zero =>
    intro o xs H' h1 h2 h3 hs hb ho hl hok hall hK
    have : o = -1 := by lia
    subst this
    refine WWhile.step nd_cands ?_
    simp [p_Finder_candidates_wt0]
    have x' := (x.sub hs)
    refine m_inst x'.h (by decide) (by decide) rfl rfl ?_
    simp
    refine c_is_near C hn (x'.mf (by exact easy (by assumption) rfl)) (fun h => absurd rfl h) (fun _ => ?_)
    simp
    exact hK xs _ H' hs hb ⟨hok, fun q q1 q2 q3 q4 => (hall q q1 q2 q3 q4).resolve_right (by lia)⟩ (by lia)
  | succ j ih =>
    intro o xs H' h1 h2 h3 hs hb ho hl hok hall hK
    refine WWhile.step nd_cands ?_
    simp [p_Finder_candidates_wt0]
    have x' := (x.sub hs)
    refine m_inst x'.h (by decide) (by decide) rfl rfl ?_
    simp
    refine c_is_near C hn (x'.mf (by exact easy (by assumption) rfl)) (fun hne hw => ?_) (fun hf => ?_)
    · simp [hb, x'.h, fget]
      refine ⟨by lia, fun _ => ?_, fun h => by exact mh_false (by lia)⟩
      obtain ⟨o1, o2⟩ := ho hne
      obtain ⟨oo, rfl⟩ : ∃ k : Nat, o = (k : Int) := ⟨o.toNat, by lia⟩
      rw [Int.toNat_natCast] at o1 o2
      simp [p_Finder_candidates_wb1]
      refine m_app hb ?_
      simp
      refine app_to hb (by rw [List.length_map]; lia) (by simp) ?_
      have hs2 : Sub H (upd H' b (.list (xs.map .int ++ [.int oo]))) := sub_updNew hs hbn _
      have x2 := x.sub hs2
      obtain ⟨bs, hbs, hbl, hbv⟩ := x2.row.b
      simp [x2.h, x2.row.h, fget]
      refine sub_at hbs (v := .int (lastK T l oo (keyN T l oo))) ?_ (by lia) ?_
      · have := hbv oo (by lia) o1
        rw [List.getD_eq_getElem?_getD] at this
        rw [List.getElem?_eq_getElem (by lia)] at this ⊢
        simpa using this
      · simp
        have lt := lastK_lt T l (keyN T l oo) oo
        show WWhile G p_Finder_candidates_ln n p_Finder_candidates_wt0 p_Finder_candidates_wb1 _ _ _
        refine ih _ (xs ++ [(oo : Int)]) _ (by lia) lt.1 (by lia) hs2 (by rw [upd_same, List.map_append]; rfl) (fun hq => ?_) (by rw [List.length_append]; simp; lia) (fun y hy => ?_) (fun q q1 q2 q3 q4 => ?_) hK
        · rcases lastK_is T l (keyN T l oo) oo with e | ⟨q, e1, e2, e3, e4⟩
          · exact absurd e hq
          · rw [e2]; exact ⟨by simpa using e3, by simpa [o2] using e4⟩
        · rcases List.mem_append.mp hy with h | h
          · exact hok y h
          · have : y = oo := by simpa using h
            exact ⟨oo, this, by exact Int.ofNat_lt.mp (by assumption), by omega, o1, o2⟩
        · rcases hall q q1 q2 q3 q4 with h | h
          · exact .inl (List.mem_append_left _ h)
          · by_cases e : q = oo
            · exact .inl (List.mem_append_right _ (by simp [e]))
            · exact .inr (lastK_max T l _ oo q (by lia) q3 (by rw [q4, o2]))
    · simp
      exact hK xs _ H' hs hb ⟨hok, fun q q1 q2 q3 q4 => (hall q q1 q2 q3 q4).resolve_right (fun q5 => hf ⟨by lia, by lia⟩)⟩ (by lia)
end
end Mine
end
-- part K6
section
open PySem PySem.Calls PyProof.Rows PySem.W
set_option maxHeartbeats 4000000
set_option maxRecDepth 100000
namespace Mine

structure Ev (T : List Int) (w : Int) (p lim l : Nat) (la : Nat) (ms : List (Int × Int)) (done : Nat → Prop) : Prop where
  ok : ∀ m ∈ ms, (l : Int) ≤ m.1 ∧ m.1 ≤ lim ∧ 1 ≤ m.2 ∧ m.2 ≤ p ∧ m.2 ≤ w ∧ agree T p (p - m.2.toNat) m.1.toNat
  lst : (ms = [] ∧ la + 1 = l) ∨ ∃ m, ms.getLast? = some m ∧ m.1 = la
  cov : ∀ q, done q → ∀ c : Nat, c ≤ lim → agree T p q c → c ≤ la
theorem Ev.ge {T : List Int} {w : Int} {p lim l la : Nat} {ms : List (Int × Int)} {done : Nat → Prop} (e : Ev T w p lim l la ms done) : l ≤ la + 1 := by
  rcases e.lst with ⟨_, h⟩ | ⟨m, h, h2⟩
  · lia
  · have := (e.ok m (List.mem_of_getLast? h)).1
    lia
theorem Ev.push {T : List Int} {w : Int} {p lim l la : Nat} {ms : List (Int × Int)} {done done' : Nat → Prop} (e : Ev T w p lim l la ms done) {q cnt : Nat} (hq : q < p) (hw : (p : Int) - q ≤ w) (hc : la < cnt) (hl : cnt ≤ lim) (ha : agree T p q cnt)
    (hd : ∀ r, done' r → (∀ c : Nat, c ≤ lim → agree T p r c → c ≤ cnt) ∨ done r) : Ev T w p lim l cnt (ms ++ [((cnt : Int), (p : Int) - q)]) done' := by
  have := e.ge
  refine ⟨fun m hm => ?_, .inr ⟨_, List.getLast?_concat, rfl⟩, fun r hr c hc' hr' => ?_⟩
  · rcases List.mem_append.mp hm with h | h
    · exact e.ok m h
    · have : m = ((cnt : Int), (p : Int) - q) := by simpa using h
      subst this
      refine ⟨by show (l : Int) ≤ cnt; exact Int.ofNat_le.mpr (by lia), by show (cnt : Int) ≤ lim; exact Int.ofNat_le.mpr (by assumption), by show 1 ≤ (p : Int) - q; lia, by show (p : Int) - q ≤ p; lia, hw, ?_⟩
      have e1 : ((p : Int) - q).toNat = p - q := by exact Int.toNat_sub _ _
      show agree T p (p - ((p : Int) - q).toNat) cnt
      rw [e1, show p - (p - q) = q by exact Nat.sub_sub_self (Nat.le_of_lt (by assumption))]
      exact ha
  · rcases hd r hr with h | h
    · exact h c hc' hr'
    · have := e.cov r h c hc' hr'; lia
theorem Ev.more {T : List Int} {w : Int} {p lim l la : Nat} {ms : List (Int × Int)} {done done' : Nat → Prop} (e : Ev T w p lim l la ms done) (hd : ∀ r, done' r → (∀ c : Nat, c ≤ lim → agree T p r c → c ≤ la) ∨ done r) : Ev T w p lim l la ms done' :=
  ⟨e.ok, e.lst, fun r hr => (hd r hr).elim id (e.cov r)⟩
theorem Ev.res {T : List Int} {w : Int} {p lim l la : Nat} {ms : List (Int × Int)} {done : Nat → Prop} (e : Ev T w p lim l la ms done) (hd : ∀ q c : Nat, q < p → (p : Int) - q ≤ w → c ≤ lim → l ≤ c → agree T p q c → done q) : Res T w p lim l ms :=
  ⟨e.ok, fun q c h1 h2 h3 h4 h5 => by
    have h := e.cov q (hd q c h1 h2 h3 h4 h5) c h3 h5
    rcases e.lst with ⟨_, h'⟩ | ⟨m, h', h2⟩
    · lia
    · exact ⟨m, h', by lia⟩⟩
theorem Ev.nil {T : List Int} {w : Int} {p lim l : Nat} (hl : 1 ≤ l) : Ev T w p lim l (l - 1) [] (fun _ => False) := ⟨(fun _ h => nomatch h), .inl ⟨rfl, by exact Nat.sub_add_cancel (by lia)⟩, (fun _ h => h.elim)⟩
theorem Ev.past {T : List Int} {w : Int} {p lim l la : Nat} {ms : List (Int × Int)} {done done' : Nat → Prop} (e : Ev T w p lim l la ms done) (h : lim ≤ la) : Ev T w p lim l la ms done' := ⟨e.ok, e.lst, fun _ _ c hc _ => by exact Nat.le_trans (by assumption) (by assumption)⟩

theorem agree_take {T : List Int} {p q k : Nat} (h : agree T p q k) (hp : p + k ≤ T.length) (hq : q + k ≤ T.length) : (T.drop p).take k = (T.drop q).take k := by
  refine List.ext_getElem (by simp; lia) fun i h1 h2 => ?_
  have hi : i < k := by simp at h1; omega
  have := h i hi
  simp only [oct, List.getD_eq_getElem?_getD] at this
  rw [List.getElem?_eq_getElem (by lia), List.getElem?_eq_getElem (by lia)] at this
  simpa using this
theorem agree_key {T : List Int} {p q k l : Nat} (h : agree T p q k) (hl : l ≤ k) (hp : p + k ≤ T.length) (hq : q + k ≤ T.length) : keyN T l q = keyN T l p := by
  unfold keyN
  rw [agree_take (h.le hl) (by lia) (by lia)]

theorem nd_every1 : p_Finder_every_ln.Nodup := by decide +kernel
section
variable {G : Gd} (C : Cx G) {n : Nat} {Q : V → MH → Prop} {H : MH} {a r L B b f : Addr} {T : List Int} {l p : Nat} {w ch : Int}
include C
theorem c_cands (hn : 3 ≤ n) (x : F1 H a T w ch l p r L B) (hz : T.length ≤ 4000) (hp : p ≤ T.length) (hch : (T.length : Int) < ch)
    (hq : ∀ b xs H', Sub H H' → H b = none → H' b = some (.list (xs.map .int)) → xs.length ≤ 4000 → (p + l ≤ T.length → Cands T w l p xs) → (¬ p + l ≤ T.length → xs = []) → Q (.ref b) H') : WCall G n (.meth 1 34) [.ref a, .int p] Q H := by
  obtain ⟨k, rfl, hk⟩ := pred_of hn
  have hbg : big = 16777216 := rfl
  refine WCall.intro (C.at 27 rfl) ?_
  have e : fr0 p_Finder_candidates_ln [.ref a, .int p] = [.ref a, .int p, .odd, .odd] := rfl
  rw [e]
  simp [p_Finder_candidates]
  intro b hb
  have hs : Sub H (upd H b (.list [])) := Sub.fresh hb _
  have x' := x.sub hs
  simp [x'.h, fget]
  refine m_inst x'.row.h (by decide) (by decide) rfl rfl ?_
  simp
  refine c_newest C (by omega) x'.row hp (by exact easy (by assumption) rfl) ?_
  simp
  split
  · rename_i hpl
    have lt := lastK_lt T l (keyN T l p) p
    refine l_cands C (by exact Nat.le_of_lt (by assumption)) x hz (Nat.le_refl _) hpl hch hb (p + 1) _ [] _ (by lia) lt.1 lt.2 hs (by rw [upd_same]; rfl) (fun hq => ?_) (by simp; exact (by assumption : _ ∧ _).2) (fun _ h => nomatch h) (fun q q1 q2 q3 q4 => .inr (lastK_max T l _ p q q1 q3 q4)) (fun xs' o' H'' s2 h2 h3 h4 => ?_)
    · rcases lastK_is T l (keyN T l p) p with e | ⟨q, e1, e2, e3, e4⟩
      · exact absurd e hq
      · rw [e2]; exact ⟨by simpa using e3, by simpa using e4⟩
    · simp
      exact hq b xs' H'' s2 hb h2 h4 (fun _ => h3) (fun h => absurd hpl h)
  · rename_i hpl
    refine WWhile.step nd_cands ?_
    simp [p_Finder_candidates_wt0]
    refine m_inst x'.h (by decide) (by decide) rfl rfl ?_
    simp
    refine c_is_near C (by exact Nat.le_of_lt (by assumption)) (x'.mf (by exact easy (by assumption) rfl)) (fun h => absurd rfl h) (fun _ => ?_)
    simp
    exact hq b [] _ hs hb (by rw [upd_same]; rfl) (by simp) (fun h => absurd h hpl) (fun _ => rfl)

theorem l_every1 {K : Fl → List V → MH → Prop} {m : V} {lim : Nat} {xs : List Int} (hn : 1 ≤ n) (x : F1 H a T w ch l p r L B) (hz : T.length ≤ 4000) (hlim : p + lim ≤ T.length) (hfn : H f = none) (hx4 : xs.length ≤ 4000)
    (hx : ∀ y ∈ xs, ∃ q : Nat, y = q ∧ q < p ∧ (p : Int) - q ≤ w)
    (hK : ∀ la ms vs o4 o7 H'', Sub H H'' → H'' f = some (.list vs) → Tups H'' vs ms → Ev T w p lim l la ms (fun q => (q : Int) ∈ xs) → vs.length ≤ 4000 → K .next [.ref a, .int p, m, .int la, o4, .ref f, .int lim, o7] H'') :
    ∀ (j i : Nat) (la : Nat) (ms : List (Int × Int)) (vs : List V) (o4 o7 : V) (H' : MH), j + i = xs.length → Sub H H' → H' f = some (.list vs) → b ≠ f → H' b = some (.list (xs.map .int)) → Tups H' vs ms → vs.length ≤ i → Ev T w p lim l la ms (fun q => (q : Int) ∈ xs.take i) →
      WFor G p_Finder_every_ln n (.v 4) p_Finder_every_fb0 (.lst b i) [.ref a, .int p, m, .int la, o4, .ref f, .int lim, o7] K H' := by
  have hbg : big = 16777216 := rfl
  intro j
  induction j with
  | zero =>
    intro i la ms vs o4 o7 H' hi hs hf hbf hb ht hv he
    refine WFor.step nd_every1 ?_
    have : (xs.map V.int)[i]? = none := by rw [List.getElem?_eq_none_iff, List.length_map]; lia
    simp only [Src.next, hb, this, Option.map_none]
    rw [List.take_of_length_le (by lia)] at he
    exact hK la ms vs o4 o7 H' hs hf ht he (by exact Nat.le_trans (by assumption) (by lia))
  | succ j ih =>
    intro i la ms vs o4 o7 H' hi hs hf hbf hb ht hv he
    refine WFor.step nd_every1 ?_
    have hlt : i < xs.length := by lia
    have : (xs.map V.int)[i]? = some (.int xs[i]) := by rw [List.getElem?_map, List.getElem?_eq_getElem hlt]; rfl
    simp only [Src.next, hb, this, Option.map_some]
    obtain ⟨q, hq1, hq2, hq3⟩ := hx xs[i] (List.getElem_mem hlt)
    have htk : ∀ r : Nat, (r : Int) ∈ xs.take (i + 1) → r = q ∨ (r : Int) ∈ xs.take i := fun r hr => by
      rw [List.take_succ_eq_append_getElem hlt] at hr
      rcases List.mem_append.mp hr with h | h
      · exact .inr h
      · have : (r : Int) = xs[i] := by simpa using h
        exact .inl (by lia)
    rw [hq1]
    have x' := x.sub hs
    simp [p_Finder_every_fb0]
    refine ⟨fun hge => ?_, fun hlt' => ?_⟩
    · exact hK la ms vs _ o7 H' hs hf ht (he.past (by omega)) (by exact Nat.le_trans (by assumption) (by lia))
    simp [x'.h, fget]
    rw [s_bytes (by exact Int.natCast_nonneg _) (by lia) (by exact easy (by assumption) rfl)]
    simp [x'.h, fget]
    rw [s_bytes (by exact Int.natCast_nonneg _) (by lia) (by exact easy (by assumption) rfl)]
    simp
    have e1 : ((q : Int) + la).toNat = q + la := by exact Int.toNat_natCast _
    have e2 : ((p : Int) + la).toNat = p + la := by exact Int.toNat_natCast _
    rw [e1, e2]
    refine ⟨fun heq => ?_, fun hne => ?_⟩
    · refine m_inst x'.h (by decide) (by decide) rfl rfl ?_
      simp
      refine c_alike C (known := 0) hn (x'.mf (by exact easy (by assumption) rfl)) (Nat.zero_le _) hlim (by lia) (fun i hi => by exact absurd (by assumption) (by lia)) fun c c1 c2 c3 c4 => ?_
      have cmax : ∀ c' : Nat, c' ≤ lim → agree T p q c' → c' ≤ c := fun c' h1 h2 => by
        rcases Nat.lt_or_ge c c' with h | h
        · exact absurd (h2 c h) (c4 (by exact Nat.lt_of_lt_of_le (by assumption) (by assumption)))
        · exact h
      simp
      refine ⟨fun hgt => ?_, fun hle => ?_⟩
      · refine m_app hf ?_
        simp
        refine ⟨by decide, fun t ht' => ?_⟩
        have htf : f ≠ t := ne_of ht' hf
        refine app_to ((upd_ne _ _ htf).trans hf) (by exact Nat.lt_of_le_of_lt (by assumption) (by lia)) (by simp) ?_
        have s1 : Sub H (upd H' t (.tup [.int c, .int (p - q)])) := fun z o hz' => by rw [upd_ne _ _ (fun e => by rw [e, hs.none ht'] at hz'; cases hz')]; exact hs z o hz'
        show WFor G p_Finder_every_ln n (.v 4) p_Finder_every_fb0 _ _ _ _
        refine ih (i + 1) c (ms ++ [((c : Int), (p : Int) - q)]) (vs ++ [.ref t]) _ _ _ (by lia) (sub_updNew s1 hfn _) (upd_same _ _ _) hbf ?_ ?_ (by simp; omega) (he.push hq2 hq3 (by omega) c2 c3 fun r hr => ?_)
        · rw [upd_ne _ _ hbf, upd_ne _ _ (ne_of ht' hb)]; exact hb
        · refine tups_upd (fun x h => by rw [upd_ne _ _ htf, hf] at h; cases h) (Tups.snoc (m := ((c : Int), (p : Int) - q)) (upd_same _ _ _) (tups_upd (fun x h => by rw [ht'] at h; cases h) ht))
        · rcases htk r hr with rfl | h
          · exact .inl cmax
          · exact .inr h
      · show WFor G p_Finder_every_ln n (.v 4) p_Finder_every_fb0 _ _ _ _
        refine ih (i + 1) la ms vs _ _ _ (by lia) hs hf hbf hb ht (by exact Nat.le_succ_of_le (by assumption)) (he.more fun r hr => ?_)
        rcases htk r hr with rfl | h
        · exact .inl fun c' h1 h2 => by have := cmax c' h1 h2; lia
        · exact .inr h
    · show WFor G p_Finder_every_ln n (.v 4) p_Finder_every_fb0 _ _ _ _
      refine ih (i + 1) la ms vs _ _ _ (by lia) hs hf hbf hb ht (by exact Nat.le_succ_of_le (by assumption)) (he.more fun r hr => ?_)
      rcases htk r hr with rfl | h
      · refine .inl fun c' h1 h2 => ?_
        rcases Nat.lt_or_ge la c' with h | h
        · exact absurd (h2 la h).symm (by simpa [oct] using hne)
        · exact h
      · exact .inr h

theorem c_every1 {m : Nat} (hn : 4 ≤ n) (x : F1 H a T w ch l p r L B) (hz : T.length ≤ 4000) (hl : 1 ≤ l) (hp : p ≤ T.length) (hch : (T.length : Int) < ch)
    (hq : ∀ b ms vs H', Sub H H' → H b = none → H' b = some (.list vs) → Tups H' vs ms → vs.length ≤ 4000 → Res T w p (min m (T.length - p)) l ms → Q (.ref b) H') : WCall G n (.meth 1 32) [.ref a, .int p, .int m] Q H := by
  obtain ⟨k, rfl, hk⟩ := pred_of hn
  have hbg : big = 16777216 := rfl
  refine WCall.intro (C.at 28 rfl) ?_
  have e : fr0 p_Finder_every_ln [.ref a, .int p, .int m] = [.ref a, .int p, .int m, .odd, .odd, .odd, .odd, .odd] := rfl
  rw [e]
  simp [p_Finder_every]
  intro f hf
  have hs : Sub H (upd H f (.list [])) := Sub.fresh hf _
  have x' := x.sub hs
  refine m_inst x'.h (by decide) (by decide) rfl rfl ?_
  simp
  refine c_limit C (by exact easy' (by assumption) rfl) (x'.mf (by exact easy (by assumption) rfl)) ?_
  simp [x'.h, fget]
  refine ⟨by decide, ?_⟩
  refine m_inst x'.h (by decide) (by decide) rfl rfl ?_
  simp
  refine c_cands C (by omega) x' hz hp hch fun b xs H' s2 hb hb' hx4 hc hno => ?_
  have elim : min (m : Int) (T.length - p) = ((min m (T.length - p) : Nat) : Int) := by exact min_cast (by lia)
  have el : (l : Int) - 1 = ((l - 1 : Nat) : Int) := by lia
  have hfb : H' f = some (.list []) := s2 _ _ (upd_same _ _ _)
  have hbf : b ≠ f := fun q => by rw [q, upd_same] at hb; cases hb
  rw [lk2]
  delta srcOf
  dsimp only
  rw [hb', elim, el]; clear elim el
  refine l_every1 C (by exact easy' (by assumption) rfl) x hz (by lia) hf hx4 (fun y hy => ?_) (fun la ms vs o4 o7 H'' s3 h1 h2 h3 h4 => ?_) xs.length 0 (l - 1) [] [] .odd .odd H' (by exact Int.toNat_natCast _) (hs.trans s2) hfb hbf hb' trivial (by simp) ((Ev.nil hl).more fun r hr => by simp at hr)
  · by_cases hpl : p + l ≤ T.length
    · obtain ⟨q, q1, q2, q3, _⟩ := (hc hpl).ok y hy; exact ⟨q, q1, q2, q3⟩
    · rw [hno hpl] at hy; cases hy
  · simp
    refine hq f ms vs H'' s3 hf h1 h2 h4 (h3.res fun q c q1 q2 q3 q4 q5 => ?_)
    have hpl : p + l ≤ T.length := by lia
    exact (hc hpl).all q q1 q2 (by lia) (agree_key q5 q4 (by lia) (by lia))
end
end Mine
end
-- part K7
section
open PySem PySem.Calls PyProof.Rows PySem.W
set_option maxHeartbeats 4000000
set_option maxRecDepth 100000
namespace Mine

structure FinOK (G : Gd) (n : Nat) (c : Nat) (F : MH → Nat → Prop) (a : Addr) (T : List Int) (w ch : Int) (l : Nat) (fp : List Addr) : Prop where
  keep : ∀ {H H' : MH} {p : Nat}, F H p → (∀ b ∈ fp, H' b = H b) → F H' p
  here : ∀ {H : MH} {p : Nat}, F H p → ∀ b ∈ fp, ∃ o, H b = some o ∧ ∀ xs, o ≠ .tup xs
  mf : ∀ {H : MH} {p : Nat}, F H p → ∃ fs, MF H a c fs T l w ch p
  mem : a ∈ fp
  l1 : 1 ≤ l
  every : ∀ {H : MH} {p m : Nat} {Q : V → MH → Prop}, F H p → p ≤ T.length →
    (∀ b ms vs H', Sub H H' → H b = none → H' b = some (.list vs) → Tups H' vs ms → vs.length ≤ 4004 → Res T w p (min m (T.length - p)) l ms → Q (.ref b) H') → WCall G n (.meth c 32) [.ref a, .int p, .int m] Q H
  put : ∀ {H : MH} {p : Nat} {Q : V → MH → Prop}, F H p → p < T.length → (∀ H', F H' (p + 1) → (∀ b, b ∉ fp → H b ≠ none → H' b = H b) → Q .none H') → WCall G n (.meth 7 26) [.ref a, .int p] Q H
theorem FinOK.sub {G : Gd} {n c : Nat} {F : MH → Nat → Prop} {a : Addr} {T : List Int} {w ch : Int} {l : Nat} {fp : List Addr} (f : FinOK G n c F a T w ch l fp) {H H' : MH} {p : Nat} (x : F H p) (s : Sub H H') : F H' p :=
  f.keep x fun b hb => by obtain ⟨o, ho, _⟩ := f.here x b hb; rw [ho, s _ _ ho]

noncomputable def Best (T : List Int) (w : Int) (p lim l : Nat) (m : Int × Int) : Prop :=
  (m = (0, 0) ∧ ∀ q c : Nat, q < p → (p : Int) - q ≤ w → c ≤ lim → l ≤ c → ¬ agree T p q c) ∨
  ((l : Int) ≤ m.1 ∧ m.1 ≤ lim ∧ 1 ≤ m.2 ∧ m.2 ≤ p ∧ m.2 ≤ w ∧ agree T p (p - m.2.toNat) m.1.toNat ∧ ∀ q c : Nat, q < p → (p : Int) - q ≤ w → c ≤ lim → l ≤ c → agree T p q c → (c : Int) ≤ m.1)
theorem Res.best {T : List Int} {w : Int} {p lim l : Nat} {ms : List (Int × Int)} (x : Res T w p lim l ms) : (ms = [] ∧ Best T w p lim l (0, 0)) ∨ ∃ m, ms.getLast? = some m ∧ Best T w p lim l m := by
  cases h : ms.getLast? with
  | none =>
    have : ms = [] := List.getLast?_eq_none_iff.mp h
    refine .inl ⟨this, .inl ⟨rfl, fun q c h1 h2 h3 h4 h5 => ?_⟩⟩
    obtain ⟨m, h6, _⟩ := x.top q c h1 h2 h3 h4 h5
    rw [h] at h6; cases h6
  | some m =>
    obtain ⟨a1, a2, a3, a4, a5, a6⟩ := x.ok m (List.mem_of_getLast? h)
    refine .inr ⟨m, rfl, .inr ⟨a1, a2, a3, a4, a5, a6, fun q c h1 h2 h3 h4 h5 => ?_⟩⟩
    obtain ⟨m', h6, h7⟩ := x.top q c h1 h2 h3 h4 h5
    rw [h] at h6; cases h6; exact h7

section
variable {G : Gd} (C : Cx G) {n : Nat} {Q : V → MH → Prop} {H : MH} {a r L B : Addr} {T : List Int} {l p : Nat} {w ch : Int}
include C
theorem c_best {c m : Nat} {F : MH → Nat → Prop} {fp : List Addr} (f : FinOK G n c F a T w ch l fp) (x : F H p) (hp : p ≤ T.length)
    (hq : ∀ t m' H', Sub H H' → H' t = some (.tup [.int m'.1, .int m'.2]) → Best T w p (min m (T.length - p)) l m' → Q (.ref t) H') : WCall G (n + 1) (.meth 7 33) [.ref a, .int p, .int m] Q H := by
  have hbg : big = 16777216 := rfl
  refine WCall.intro (C.at 24 rfl) ?_
  have e : fr0 p_Matcher_best_ln [.ref a, .int p, .int m] = [.ref a, .int p, .int m, .odd] := rfl
  rw [e]
  obtain ⟨fs, mf⟩ := f.mf x
  simp [p_Matcher_best]
  refine m_inst (c' := c) mf.h mf.c7 (by decide) (mf.m 32 (by decide)) (by rcases mf.c with h | h | h <;> subst h <;> rfl) ?_
  simp
  refine f.every x hp fun b ms vs H' s hb hb' ht hv hr => ?_
  have hl := ht.length
  simp [hb']
  refine ⟨by exact easy (by assumption) rfl, fun hpos => ?_, fun hz => ?_⟩
  · rcases hr.best with ⟨h, _⟩ | ⟨m', h1, h2⟩
    · rw [h] at hl; simp at hl; simp [hl] at hpos
    · have hi : ms[ms.length - 1]? = some m' := by rw [← List.getLast?_eq_getElem?]; exact h1
      obtain ⟨t, t1, t2⟩ := ht.at hi
      rw [s_list hb']
      refine ⟨by exact easy (by assumption) rfl, vs.length - 1, .ref t, ?_, by rw [hl]; exact t1, hq t m' H' s t2 h2⟩
      unfold place
      rw [if_neg (by decide), if_pos (by lia)]
      congr 1; lia
  · rcases hr.best with ⟨h, h2⟩ | ⟨m', h1, h2⟩
    · refine ⟨by decide, fun t ht' => hq t (0, 0) _ (s.trans (Sub.fresh ht' _)) (upd_same _ _ _) h2⟩
    · have : ms = [] := by cases ms with | nil => rfl | cons _ _ => simp_all
      rw [this] at h1; cases h1

theorem c_enter1 {ah : Nat} (hn : 3 ≤ n) (h : H a = some (.inst 1 [(0, .bytes T), (4, .int l), (5, .int w), (6, .int ch), (7, .int ah), (8, .ref r)])) (x : PR H r T l p L B) (hp : p < T.length) (hz : T.length ≤ 4000)
    (hq : ∀ H', PR H' r T l (p + 1) L B → (∀ b, b ≠ L → b ≠ B → H' b = H b) → Q .none H') : WCall G n (.meth 1 28) [.ref a, .int p] Q H := by
  obtain ⟨k, rfl, hk⟩ := pred_of hn
  refine WCall.intro (C.at 26 rfl) ?_
  have e : fr0 p_Finder_enter_ln [.ref a, .int p] = [.ref a, .int p] := rfl
  rw [e]
  simp [p_Finder_enter, h, fget]
  refine m_inst x.h (by decide) (by decide) rfl rfl ?_
  simp
  exact c_rowput C (by omega) x hp hz fun H' h1 h2 => hq H' h1 h2

theorem c_put1 (hn : 4 ≤ n) (x : F1 H a T w ch l p r L B) (hp : p < T.length) (hz : T.length ≤ 4000)
    (hq : ∀ H', F1 H' a T w ch l (p + 1) r L B → (∀ b, b ∉ [a, r, L, B] → H' b = H b) → Q .none H') : WCall G n (.meth 7 26) [.ref a, .int p] Q H := by
  obtain ⟨k, rfl, hk⟩ := pred_of hn
  have hbg : big = 16777216 := rfl
  refine WCall.intro (C.at 20 rfl) ?_
  have e : fr0 p_Matcher_put_ln [.ref a, .int p] = [.ref a, .int p] := rfl
  rw [e]
  obtain ⟨n1, n2, n3⟩ := x.ne
  simp [p_Matcher_put, x.h, fget]
  refine ⟨by exact easy (by assumption) rfl, hp, fun _ => ?_⟩
  refine setA_of x.h (by decide) (by decide) (by simp) (by simp) ?_
  simp [fput]
  refine m_inst (upd_same _ _ _) (by decide) (by decide) rfl rfl ?_
  simp
  refine c_enter1 C (by omega) (upd_same _ _ _) (x.row.keep (upd_ne _ _ n1.symm) (upd_ne _ _ n2.symm) (upd_ne _ _ n3.symm)) hp hz fun H' h1 h2 => ?_
  refine hq H' ⟨?_, h1, x.ne⟩ (fun b hb => ?_)
  · rw [h2 a n2 n3, upd_same]; rfl
  · simp at hb
    rw [h2 b hb.2.2.1 hb.2.2.2, upd_ne _ _ hb.1]
end
theorem fin1 {G : Gd} (C : Cx G) {n : Nat} {a r L B : Addr} {T : List Int} {l : Nat} {w ch : Int} (hn : 4 ≤ n) (hz : T.length ≤ 4000) (hl : 1 ≤ l) (hch : (T.length : Int) < ch) :
    FinOK G n 1 (fun H p => F1 H a T w ch l p r L B) a T w ch l [a, r, L, B] where
  keep := fun x h => ⟨(h _ (by simp)).trans x.h, x.row.keep (h _ (by simp)) (h _ (by simp)) (h _ (by simp)), x.ne⟩
  here := fun x b hb => by
    obtain ⟨m, f, hd, _⟩ := x.row.d
    obtain ⟨bs, hbs, _⟩ := x.row.b
    simp at hb
    rcases hb with rfl | rfl | rfl | rfl
    · exact ⟨_, x.h, fun _ => nofun⟩
    · exact ⟨_, x.row.h, fun _ => nofun⟩
    · exact ⟨_, hd, fun _ => nofun⟩
    · exact ⟨_, hbs, fun _ => nofun⟩
  mf := fun x => ⟨_, x.mf (by have : big = 16777216 := rfl; lia)⟩
  mem := by simp
  l1 := hl
  every := fun x hp hq => c_every1 C hn x hz hl hp hch fun b ms vs H' h1 h2 h3 h4 h5 h6 => hq b ms vs H' h1 h2 h3 h4 (by exact easy (by assumption) rfl) h6
  put := fun x hp hq => c_put1 C hn x hp hz fun H' h1 h2 => hq H' h1 fun b hb _ => h2 b hb
end Mine
end
-- part K8
section
open PySem PySem.Calls PyProof.Rows PySem.W
set_option maxHeartbeats 4000000
set_option maxRecDepth 100000
namespace Mine

inductive BT where
  | leaf
  | node (l : BT) (p : Nat) (r : BT)
noncomputable def BT.root : BT → Int
  | .leaf => -1
  | .node _ p _ => p
noncomputable def BT.Mem (x : Nat) : BT → Prop
  | .leaf => False
  | .node l p r => x = p ∨ BT.Mem x l ∨ BT.Mem x r
noncomputable def BT.Rep (s g : List V) : BT → Prop
  | .leaf => True
  | .node l p r => s[p]? = some (.int l.root) ∧ g[p]? = some (.int r.root) ∧ BT.Rep s g l ∧ BT.Rep s g r
noncomputable def BT.Heap : BT → Prop
  | .leaf => True
  | .node l p r => (∀ x, l.Mem x → x < p) ∧ (∀ x, r.Mem x → x < p) ∧ (∀ x, l.Mem x → ¬ r.Mem x) ∧ BT.Heap l ∧ BT.Heap r
noncomputable def le (T : List Int) (h x y : Nat) : Prop := ∀ k, k < h → agree T x y k → oct T (x + k) ≤ oct T (y + k)
noncomputable def BT.Ord (T : List Int) (h : Nat) : BT → Prop
  | .leaf => True
  | .node l p r => (∀ x, l.Mem x → le T h x p) ∧ (∀ x, r.Mem x → le T h p x) ∧ BT.Ord T h l ∧ BT.Ord T h r

theorem agree.symm {T : List Int} {p q k : Nat} (h : agree T p q k) : agree T q p k := fun i hi => (h i hi).symm
theorem agree.trans {T : List Int} {p q r k : Nat} (h : agree T p q k) (h' : agree T q r k) : agree T p r k := fun i hi => (h i hi).trans (h' i hi)
theorem le_trans' {T : List Int} {h x y z : Nat} (a : le T h x y) (b : le T h y z) : le T h x z := by
  intro k hk hxz
  have key : ∀ j, j ≤ k → agree T x y j ∧ agree T y z j := by
    intro j
    induction j with
    | zero => exact fun _ => ⟨fun i hi => by exact absurd (by assumption) (by lia), fun i hi => by exact absurd (by assumption) (by lia)⟩
    | succ j ih =>
      intro hj
      obtain ⟨h1, h2⟩ := ih (by exact Nat.le_of_lt (by assumption))
      have e1 := a j (by exact Nat.lt_trans (by assumption) (by assumption)) h1
      have e2 := b j (by exact Nat.lt_trans (by assumption) (by assumption)) h2
      have e3 := hxz j (by assumption)
      exact ⟨h1.succ (by lia), h2.succ (by lia)⟩
  obtain ⟨h1, h2⟩ := key k (Nat.le_refl _)
  have := a k hk h1
  have := b k hk h2
  lia
theorem le_of_agree {T : List Int} {h x y : Nat} (a : agree T x y h) : le T h x y := fun k hk _ => by have := a k hk; lia
theorem le_weaken {T : List Int} {h h' x y : Nat} (a : le T h x y) (hh : h' ≤ h) : le T h' x y := fun k hk => a k (by exact Nat.lt_of_lt_of_le (by assumption) (by assumption))
theorem le_of_lt {T : List Int} {h x y c : Nat} (hc : agree T x y c) (hl : oct T (x + c) < oct T (y + c)) : le T h x y := fun k hk ha => by
  rcases Nat.lt_trichotomy k c with h1 | h1 | h1
  · have := hc k h1; lia
  · subst h1; exact Int.le_of_lt (by assumption)
  · have := ha c h1; lia
theorem Ord_weaken {T : List Int} {h h' : Nat} (hh : h' ≤ h) : ∀ {t : BT}, t.Ord T h → t.Ord T h'
  | .leaf, _ => trivial
  | .node _ _ _, ⟨a, b, c, d⟩ => ⟨fun x hx => le_weaken (a x hx) hh, fun x hx => le_weaken (b x hx) hh, Ord_weaken hh c, Ord_weaken hh d⟩
theorem Rep_keep {s g s' g' : List V} : ∀ {t : BT}, t.Rep s g → (∀ x, t.Mem x → s'[x]? = s[x]? ∧ g'[x]? = g[x]?) → t.Rep s' g'
  | .leaf, _, _ => trivial
  | .node l p r, ⟨a, b, c, d⟩, h => ⟨(h p (.inl rfl)).1.trans a, (h p (.inl rfl)).2.trans b, Rep_keep c fun x hx => h x (.inr (.inl hx)), Rep_keep d fun x hx => h x (.inr (.inr hx))⟩
theorem root_mem : ∀ {t : BT} {x : Nat}, t.root = x → t.Mem x
  | .leaf, _, h => by have : (-1 : Int) = _ := h; lia
  | .node _ p _, _, h => .inl (by have : (p : Int) = _ := h; lia)
theorem root_ge : ∀ (t : BT), -1 ≤ t.root
  | .leaf => by decide
  | .node _ p _ => by show -1 ≤ (p : Int); exact Int.natCast_nonneg _
theorem heap_le : ∀ {t : BT} {x : Nat}, t.Heap → t.Mem x → (x : Int) ≤ t.root
  | .leaf, _, _, h => h.elim
  | .node _ p _, x, ⟨a, b, _⟩, h => by
    show (x : Int) ≤ p
    rcases h with h | h | h
    · exact Int.ofNat_le.mpr (by lia)
    · have := a x h; lia
    · have := b x h; lia
theorem squeeze {T : List Int} {h p v y u m : Nat} (a : le T h v y) (b : le T h y u) (hv : agree T p v m) (hu : agree T p u m) (hm : m ≤ h) : agree T p y m := by
  have key : ∀ j, j ≤ m → agree T p y j := by
    intro j
    induction j with
    | zero => exact fun _ i hi => by exact absurd (by assumption) (by lia)
    | succ j ih =>
      intro hj
      have h1 := ih (by exact Nat.le_of_lt (by assumption))
      have e1 := a j (by exact Nat.lt_of_lt_of_le (by assumption) (by assumption)) ((hv.le (by exact Nat.le_of_lt (by assumption))).symm.trans h1)
      have e2 := b j (by exact Nat.lt_of_lt_of_le (by assumption) (by assumption)) (h1.symm.trans (hu.le (by exact Nat.le_of_lt (by assumption))))
      have e3 := hv j (by assumption)
      have e4 := hu j (by assumption)
      exact h1.succ (by lia)
  exact key m (Nat.le_refl _)
theorem prune_lo {T : List Int} {h p x y cnt : Nat} (a : le T h y x) (hx : agree T p x cnt) (hc : cnt < h) (hl : oct T (x + cnt) < oct T (p + cnt)) : ∀ c, agree T p y c → c ≤ cnt := fun c hy => by
  rcases Nat.lt_or_ge cnt c with h1 | h1
  · have e1 := a cnt hc ((hy.le (by exact Nat.le_of_lt (by assumption))).symm.trans hx)
    have e2 := hy cnt h1
    lia
  · exact h1
theorem prune_hi {T : List Int} {h p x y cnt : Nat} (a : le T h x y) (hx : agree T p x cnt) (hc : cnt < h) (hl : oct T (p + cnt) < oct T (x + cnt)) : ∀ c, agree T p y c → c ≤ cnt := fun c hy => by
  rcases Nat.lt_or_ge cnt c with h1 | h1
  · have e1 := a cnt hc (hx.symm.trans (hy.le (by exact Nat.le_of_lt (by assumption))))
    have e2 := hy cnt h1
    lia
  · exact h1

structure TreeOK (T : List Int) (l ah : Nat) (w : Int) (k : Int) (t : BT) : Prop where
  mem : ∀ x, t.Mem x → x < ah ∧ x + l ≤ T.length ∧ keyN T l x = k
  heap : t.Heap
  ord : t.Ord T (T.length - ah)
  cov : ∀ q : Nat, q < ah → q + l ≤ T.length → keyN T l q = k → (ah : Int) - q ≤ w → ∃ x, t.Mem x ∧ q ≤ x ∧ agree T x q (T.length - ah)

structure F2 (H : MH) (a : Addr) (T : List Int) (w ch : Int) (l ah : Nat) (r L B rd sm gr : Addr) : Prop where
  h : H a = some (.inst 2 [(0, .bytes T), (4, .int l), (5, .int w), (6, .int ch), (7, .int ah), (8, .ref r), (9, .ref rd), (10, .ref sm), (11, .ref gr)])
  row : H r = some (.inst 0 (rowF T l L B))
  tr : ∃ m f s g, ∃ t : Int → BT, H rd = some (.dict m f) ∧ m ≤ ah ∧ H sm = some (.list s) ∧ H gr = some (.list g) ∧ s.length = T.length ∧ g.length = T.length ∧
    (∀ k, (f k).getD (.int (-1)) = .int (t k).root ∧ (t k).Rep s g ∧ TreeOK T l ah w k (t k)) ∧ (∀ x, ah ≤ x → x < T.length → s[x]? = some (.int (-1)) ∧ g[x]? = some (.int (-1)))
  ne : [a, r, rd, sm, gr].Nodup
theorem F2.mf {H : MH} {a : Addr} {T : List Int} {w ch : Int} {l ah : Nat} {r L B rd sm gr : Addr} (x : F2 H a T w ch l ah r L B rd sm gr) (hz : T.length ≤ big) :
    MF H a 2 [(0, .bytes T), (4, .int l), (5, .int w), (6, .int ch), (7, .int ah), (8, .ref r), (9, .ref rd), (10, .ref sm), (11, .ref gr)] T l w ch ah :=
  ⟨x.h, .inr (.inl rfl), rfl, rfl, rfl, rfl, rfl, fget_ge (by simp), hz, by show 9 ≤ 20; decide⟩
theorem F2.sub {H H' : MH} {a : Addr} {T : List Int} {w ch : Int} {l ah : Nat} {r L B rd sm gr : Addr} (q : Sub H H') (x : F2 H a T w ch l ah r L B rd sm gr) : F2 H' a T w ch l ah r L B rd sm gr :=
  ⟨q _ _ x.h, q _ _ x.row, x.tr.imp fun _ h => h.imp fun _ h => h.imp fun _ h => h.imp fun _ h => h.imp fun _ h => ⟨q _ _ h.1, h.2.1, q _ _ h.2.2.1, q _ _ h.2.2.2.1, h.2.2.2.2⟩, x.ne⟩
end Mine
end
-- part K9
section
open PySem PySem.Calls PyProof.Rows PySem.W
set_option maxHeartbeats 4000000
set_option maxRecDepth 100000
namespace Mine
@[local simp] theorem lkd_9 {α : Type} {x : α} : @lk α ⟨x⟩ = x := rfl

theorem emin_eq (lc hc : Nat) : (if hc < lc then (hc : Int) else (lc : Int)) = ((min lc hc : Nat) : Int) := by
  by_cases h : hc < lc
  · rw [if_pos h, Nat.min_eq_right (Nat.le_of_lt h)]
  · rw [if_neg h, Nat.min_eq_left (Nat.le_of_not_lt h)]
theorem root_lt {t : BT} {q : Nat} (h : ∀ x, t.Mem x → x < q) : t.root < q := by
  cases t with
  | leaf => show (-1 : Int) < q; exact Int.natCast_nonneg _
  | node l x r => have := h x (.inl rfl); show (x : Int) < q; exact Int.ofNat_lt.mpr (by assumption)
theorem nd_every2 : p_TreeFinder_every_ln.Nodup := by decide +kernel
section
variable {G : Gd} (C : Cx G) {n : Nat} {Q : V → MH → Prop} {H : MH} {a r L B rd sm gr f : Addr} {T : List Int} {l p : Nat} {w ch : Int} {fs : List (Nat × V)} {s g : List V}
include C
theorem l_every2 {K : Fl → List V → MH → Prop} {m num : V} {lim : Nat} (hn : 1 ≤ n) (x : F2 H a T w ch l p r L B rd sm gr) (hz : T.length ≤ 4000) (hp : p ≤ T.length) (hlim : p + lim ≤ T.length) (hfn : H f = none) (hch : (T.length : Int) < ch)
    (hs : H sm = some (.list s)) (hg : H gr = some (.list g)) (hsl : s.length = T.length) (hgl : g.length = T.length) :
    ∀ (t : BT) (st la lc hc : Nat) (ms : List (Int × Int)) (vs : List V) (o11 : V) (H' : MH) (D : Nat → Prop), t.Rep s g → t.Heap → t.Ord T (T.length - p) → (∀ y, t.Mem y → y < p) → Sub H H' → H' f = some (.list vs) → Tups H' vs ms → vs.length ≤ st → (st : Int) + (t.root + 1) ≤ p →
      lc ≤ lim → hc ≤ lim → (lc = 0 ∨ ∃ v, (∀ y, t.Mem y → le T (T.length - p) v y) ∧ agree T p v lc) → (hc = 0 ∨ ∃ v, (∀ y, t.Mem y → le T (T.length - p) y v) ∧ agree T p v hc) → Ev T w p lim l la ms D →
      (∀ la ms vs o4 o8 o9 o10 o11 H'', Sub H H'' → H'' f = some (.list vs) → Tups H'' vs ms → Ev T w p lim l la ms (fun y => D y ∨ (t.Mem y ∧ (p : Int) - y ≤ w)) → vs.length ≤ 4000 →
        K .next [.ref a, .int p, m, num, o4, .ref f, .int lim, .int la, o8, o9, o10, o11] H'') →
      WWhile G p_TreeFinder_every_ln n p_TreeFinder_every_wt0 p_TreeFinder_every_wb1 [.ref a, .int p, m, num, .int t.root, .ref f, .int lim, .int la, .int st, .int lc, .int hc, o11] K H' := by
  have hbg : big = 16777216 := rfl
  intro t
  induction t with
  | leaf =>
    intro st la lc hc ms vs o11 H' D hrep hheap hord hmem hsub hf ht hv hst hlc hhc hA hB he hK
    refine WWhile.step nd_every2 ?_
    have x' := x.sub hsub
    simp [p_TreeFinder_every_wt0, BT.root]
    refine m_inst x'.h (by decide) (by decide) rfl rfl ?_
    simp
    refine c_is_near C hn (x'.mf (by exact easy (by assumption) rfl)) (fun h => absurd rfl h) (fun _ => ?_)
    simp
    have : (st : Int) ≤ p := by have : BT.root .leaf = -1 := rfl; lia
    exact hK la ms vs _ _ _ _ _ H' hsub hf ht (he.more fun r hr => hr.elim .inr fun h => h.1.elim) (by exact Nat.le_trans (by assumption) (by lia))
  | node tl q tr ihl ihr =>
    intro st la lc hc ms vs o11 H' D hrep hheap hord hmem hsub hf ht hv hst hlc hhc hA hB he hK
    obtain ⟨r1, r2, r3, r4⟩ := hrep
    obtain ⟨h1, h2, h3, h4, h5⟩ := hheap
    obtain ⟨o1, o2, o3, o4⟩ := hord
    have hqp : q < p := hmem q (.inl rfl)
    have hst' : (st : Int) + (q + 1) ≤ p := hst
    have x' := x.sub hsub
    have out : ∀ {lb : Nat} {ms' : List (Int × Int)} {vs' : List V} {o4 o8 o9 o10 o11 : V} {H'' : MH}, Sub H H'' → H'' f = some (.list vs') → Tups H'' vs' ms' → Ev T w p lim l lb ms' D → lim ≤ lb → vs'.length ≤ st + 1 →
        K .next [.ref a, .int p, m, num, o4, .ref f, .int lim, .int lb, o8, o9, o10, o11] H'' := fun a1 a2 a3 a4 a5 a6 => hK _ _ _ _ _ _ _ _ _ a1 a2 a3 (a4.past a5) (by exact Nat.le_trans (by assumption) (by lia))
    refine WWhile.turn nd_every2 fun Q0 k1 _ _ _ => ?_
    simp [p_TreeFinder_every_wt0, BT.root]
    refine m_inst x'.h (by decide) (by decide) rfl rfl ?_
    simp
    refine c_is_near C hn (x'.mf (by exact easy (by assumption) rfl)) (fun _ hw => ?_) (fun hnw => ?_)
    · simp [x'.h, fget]
      refine ⟨fun _ => ⟨fun hla => ?_, fun hla => out hsub hf ht he (by omega) (by exact Nat.le_succ_of_le (by assumption))⟩, fun h => by exact mh_false (by lia)⟩
      unfold p_TreeFinder_every_wb1
      refine wB_go fun Q1 n1 _ _ _ => ?_
      simp [wAug]
      refine n1 _ _ (wB_go fun Q2 n2 _ _ _ => ?_)
      simp
      refine m_inst x'.h (by decide) (by decide) rfl rfl ?_
      simp
      have emin := emin_eq lc hc
      rw [emin]
      have hag : agree T p q (min lc hc) := by
        rcases hA with h | ⟨v, hv1, hv2⟩
        · exact fun i hi => absurd (Nat.lt_of_lt_of_le hi (Nat.min_le_left _ _)) (by rw [h]; exact Nat.not_lt_zero _)
        rcases hB with h | ⟨u, hu1, hu2⟩
        · exact fun i hi => absurd (Nat.lt_of_lt_of_le hi (Nat.min_le_right _ _)) (by rw [h]; exact Nat.not_lt_zero _)
        exact squeeze (hv1 q (.inl rfl)) (hu1 q (.inl rfl)) (hv2.le (Nat.min_le_left _ _)) (hu2.le (Nat.min_le_right _ _)) (Nat.le_trans (Nat.min_le_left _ _) (Nat.le_trans hlc (Nat.le_sub_of_add_le (by rw [Nat.add_comm]; exact hlim))))
      refine c_alike C hn (x'.mf (by clear emin; lia)) (Nat.le_trans (Nat.min_le_left _ _) hlc) hlim (by clear emin; lia) hag fun c c1 c2 c3 c4 => ?_
      have cmax : ∀ c' : Nat, agree T p q c' → c' ≤ c ∨ c = lim := fun c' h2 => by
        rcases Nat.lt_or_ge c c' with h | h
        · rcases Nat.lt_or_ge c lim with h3 | h3
          · exact absurd (h2 c h) (c4 h3)
          · exact .inr (by lia)
        · exact .inl h
      have cm2 : ∀ c' : Nat, c' ≤ lim → agree T p q c' → c' ≤ c := fun c' h1 h2 => (cmax c' h2).elim id fun h => by lia
      have tail : ∀ (lb : Nat) (ms' : List (Int × Int)) (vs' : List V) (H2 : MH), Sub H H2 → H2 f = some (.list vs') → Tups H2 vs' ms' → vs'.length ≤ st + 1 → Ev T w p lim l lb ms' (fun y => D y ∨ y = q) → c ≤ lb →
          wB G p_TreeFinder_every_ln n (.cons (.ife (.cmp .Lt (.loc 11) (.loc 6)) (.cons (.ife (.cmp .Lt (.sub (.attr (.loc 0) 0) (.bin .Add (.loc 4) (.loc 11))) (.sub (.attr (.loc 0) 0) (.bin .Add (.loc 1) (.loc 11)))) (.cons (.asgT [9, 4] (.cons (.loc 11) (.cons (.sub (.attr (.loc 0) 11) (.loc 4)) .nil))) .nil) (.cons (.asgT [10, 4] (.cons (.loc 11) (.cons (.sub (.attr (.loc 0) 10) (.loc 4)) .nil))) .nil)) .nil) .nil) .nil)
            [.ref a, .int p, m, num, .int q, .ref f, .int lim, .int lb, .int (st + 1), .int lc, .int hc, .int c]
            Q0 H2 := by
        intro lb ms' vs' H2 hsub2 hf2 ht2 hv2 he2 hcl
        have x2 := x.sub hsub2
        simp
        refine ⟨fun hlt => ?_, fun hge => ?_⟩
        · simp [x2.h, fget]
          rw [s_bytes (by lia) (by lia) (by lia)]
          simp [x2.h, fget]
          rw [s_bytes (by lia) (by lia) (by lia)]
          have e1 : ((q : Int) + c).toNat = q + c := by lia
          have e2 : ((p : Int) + c).toNat = p + c := by lia
          rw [e1, e2]
          simp
          refine ⟨fun hl => ?_, fun hl => ?_⟩
          · simp [x2.h, fget]
            refine sub_at (hsub2 _ _ hg) r2 (by lia) ?_
            refine ⟨by decide, ?_⟩
            refine k1 _ _ ?_
            have rl := root_lt h2
            refine ihr (st + 1) lb c hc ms' vs' _ H2 (fun y => D y ∨ y = q ∨ tl.Mem y) r4 h5 o4 (fun y hy => hmem y (.inr (.inr hy))) hsub2 hf2 ht2 hv2 (by lia) c2 hhc (.inr ⟨q, o2, c3⟩) (hB.imp id fun ⟨u, u1, u2⟩ => ⟨u, fun y hy => u1 y (.inr (.inr hy)), u2⟩) (he2.more fun y hy => ?_) (fun la ms vs o4 o8 o9 o10 o11 H'' a1 a2 a3 a4 a5 => hK la ms vs o4 o8 o9 o10 o11 H'' a1 a2 a3 (a4.more fun y hy => .inr ?_) a5)
            · rcases hy with h | h | h
              · exact .inr (.inl h)
              · exact .inr (.inr h)
              · exact .inl fun c' _ h2 => by have := prune_lo (o1 y h) c3 (by lia) hl c' h2; lia
            · rcases hy with h | ⟨h | h | h, hw⟩
              · exact .inl (.inl h)
              · exact .inl (.inr (.inl h))
              · exact .inl (.inr (.inr h))
              · exact .inr ⟨h, hw⟩
          · simp [x2.h, fget]
            refine sub_at (hsub2 _ _ hs) r1 (by lia) ?_
            refine ⟨by decide, ?_⟩
            refine k1 _ _ ?_
            have rl := root_lt h1
            have hl' : oct T (p + c) < oct T (q + c) := by
              have := c4 hlt
              simp [oct] at this ⊢
              lia
            refine ihl (st + 1) lb lc c ms' vs' _ H2 (fun y => D y ∨ y = q ∨ tr.Mem y) r3 h4 o3 (fun y hy => hmem y (.inr (.inl hy))) hsub2 hf2 ht2 hv2 (by lia) hlc c2 (hA.imp id fun ⟨u, u1, u2⟩ => ⟨u, fun y hy => u1 y (.inr (.inl hy)), u2⟩) (.inr ⟨q, o1, c3⟩) (he2.more fun y hy => ?_) (fun la ms vs o4 o8 o9 o10 o11 H'' a1 a2 a3 a4 a5 => hK la ms vs o4 o8 o9 o10 o11 H'' a1 a2 a3 (a4.more fun y hy => .inr ?_) a5)
            · rcases hy with h | h | h
              · exact .inr (.inl h)
              · exact .inr (.inr h)
              · exact .inl fun c' _ h2 => by have := prune_hi (o2 y h) c3 (by lia) hl' c' h2; lia
            · rcases hy with h | ⟨h | h | h, hw⟩
              · exact .inl (.inl h)
              · exact .inl (.inr (.inl h))
              · exact .inr ⟨h, hw⟩
              · exact .inl (.inr (.inr h))
        · refine k1 _ _ (WWhile.turn nd_every2 fun Q3 _ _ _ _ => ?_)
          simp [p_TreeFinder_every_wt0]
          refine m_inst x2.h (by decide) (by decide) rfl rfl ?_
          simp
          refine c_is_near C hn (x2.mf (by lia)) (fun _ _ => ?_) (fun h => absurd ⟨by lia, by lia⟩ h)
          simp [x2.h, fget]
          exact ⟨fun _ => ⟨fun h => by lia, fun _ => hK lb ms' vs' _ _ _ _ _ H2 hsub2 hf2 ht2 (he2.past (by lia)) (by lia)⟩, fun h => by lia⟩
      simp
      refine n2 _ _ (wB_go fun Q3 n3 _ _ _ => ?_)
      simp
      refine ⟨fun hgt => ?_, fun hle => n3 _ _ ?_⟩
      · refine m_app hf ?_
        simp
        refine ⟨by decide, fun t ht' => ?_⟩
        have htf : f ≠ t := ne_of ht' hf
        refine app_to ((upd_ne _ _ htf).trans hf) (by lia) (by simp) ?_
        have s1 : Sub H (upd H' t (.tup [.int c, .int (p - q)])) := fun z o hz' => by rw [upd_ne _ _ (fun e => by rw [e, hsub.none ht'] at hz'; cases hz')]; exact hsub z o hz'
        refine n3 _ _ ?_
        refine tail c (ms ++ [((c : Int), (p : Int) - q)]) (vs ++ [.ref t]) _ (sub_updNew s1 hfn _) (upd_same _ _ _) ?_ (by simp; lia) (he.push hqp hw (by lia) c2 c3 fun r hr => ?_) (Nat.le_refl _)
        · refine tups_upd (fun x h => by rw [upd_ne _ _ htf, hf] at h; cases h) (Tups.snoc (m := ((c : Int), (p : Int) - q)) (upd_same _ _ _) (tups_upd (fun x h => by rw [ht'] at h; cases h) ht))
        · rcases hr with h | rfl
          · exact .inr h
          · exact .inl cm2
      · exact tail la ms vs H' hsub hf ht (by exact Nat.le_succ_of_le (by assumption)) (he.more fun r hr => by
          rcases hr with h | rfl
          · exact .inr h
          · exact .inl fun c' h1 h2 => by have := cm2 c' h1 h2; lia) (by omega)
    · simp
      refine hK la ms vs _ _ _ _ _ H' hsub hf ht (he.more fun r hr => ?_) (by exact Nat.le_trans (by assumption) (by lia))
      rcases hr with h | ⟨h, hw⟩
      · exact .inr h
      · have : (r : Int) ≤ q := heap_le (t := .node tl q tr) ⟨h1, h2, h3, h4, h5⟩ h
        exact absurd ⟨by lia, by lia⟩ hnw
end
end Mine
end
-- part K10
section
open PySem PySem.Calls PyProof.Rows PySem.W
set_option maxHeartbeats 4000000
set_option maxRecDepth 100000
namespace Mine
section
variable {G : Gd} (C : Cx G) {n : Nat} {Q : V → MH → Prop} {H : MH} {a r L B rd sm gr : Addr} {T : List Int} {l p : Nat} {w ch : Int}
include C
theorem c_every2 {m : Nat} (hn : 4 ≤ n) (x : F2 H a T w ch l p r L B rd sm gr) (hz : T.length ≤ 4000) (hl : 1 ≤ l) (hp : p ≤ T.length) (hch : (T.length : Int) < ch)
    (hq : ∀ b ms vs H', Sub H H' → H b = none → H' b = some (.list vs) → Tups H' vs ms → vs.length ≤ 4000 → Res T w p (min m (T.length - p)) l ms → Q (.ref b) H') : WCall G n (.meth 2 32) [.ref a, .int p, .int m] Q H := by
  obtain ⟨k, rfl, hk⟩ := pred_of hn
  have hbg : big = 16777216 := rfl
  refine WCall.intro (C.at 33 rfl) ?_
  have e : fr0 p_TreeFinder_every_ln [.ref a, .int p, .int m] = [.ref a, .int p, .int m, .odd, .odd, .odd, .odd, .odd, .odd, .odd, .odd, .odd] := rfl
  rw [e]
  simp [p_TreeFinder_every, x.h, fget]
  refine m_inst x.row (by decide) (by decide) rfl rfl ?_
  simp
  refine c_key C (by exact easy' (by assumption) rfl) x.row hp (by exact easy (by assumption) rfl) (fun hpl => ?_) (fun hpl => ?_)
  · simp
    intro f hf
    have hs : Sub H (upd H f (.list [])) := Sub.fresh hf _
    have x' := x.sub hs
    refine m_inst x'.h (by decide) (by decide) rfl rfl ?_
    simp
    refine c_limit C (by exact easy' (by assumption) rfl) (x'.mf (by exact easy (by assumption) rfl)) ?_
    simp [x'.h, fget]
    obtain ⟨mm, ff, s, g, t, t1, t2, t3, t4, t5, t6, t7, t8⟩ := x.tr
    obtain ⟨u1, u2, u3⟩ := t7 (keyN T l p)
    try refine ⟨by decide, ?_⟩
    refine m_get (hs _ _ t1) ?_
    simp
    refine get_of (hs _ _ t1) (by simp) ?_
    rw [u1]
    have elim : min (m : Int) (T.length - p) = ((min m (T.length - p) : Nat) : Int) := by exact min_cast (by lia)
    have el : (l : Int) - 1 = ((l - 1 : Nat) : Int) := by lia
    simp
    rw [elim, el]; clear elim el
    have rl : (t (keyN T l p)).root < p := root_lt fun y hy => (u3.mem y hy).1
    refine l_every2 C (by exact easy' (by assumption) rfl) x hz hp (by lia) hf hch t3 t4 t5 t6 (t (keyN T l p)) 0 (l - 1) 0 0 [] [] .odd _ (fun _ => False) u2 u3.heap u3.ord (fun y hy => (u3.mem y hy).1) hs (upd_same _ _ _) trivial (by simp) (by lia) (Nat.zero_le _) (Nat.zero_le _) (.inl rfl) (.inl rfl) (Ev.nil hl) (fun la ms vs o4 o8 o9 o10 o11 H'' s1 h1 h2 h3 h4 => ?_)
    simp
    refine hq f ms vs H'' s1 hf h1 h2 h4 ?_
    refine ⟨h3.ok, fun q c q1 q2 q3 q4 q5 => ?_⟩
    obtain ⟨y, y1, y2, y3⟩ := u3.cov q q1 (by lia) (agree_key q5 q4 (by lia) (by lia)) q2
    have := h3.cov y (.inr ⟨y1, by lia⟩) c q3 (q5.trans (y3.symm.le (by exact Nat.le_sub_of_add_le (by lia))))
    have g1 := h3.ge
    rcases h3.lst with ⟨_, h'⟩ | ⟨m', h', h2⟩
    · lia
    · exact ⟨m', h', by lia⟩
  · simp
    exact fun b hb => hq b [] [] _ (Sub.fresh hb _) hb (upd_same _ _ _) trivial (by simp) ⟨(fun _ h => nomatch h), (fun q c q1 q2 q3 q4 q5 => by exact absurd (by lia) (by assumption))⟩
end
end Mine
end
-- part K11
section
open PySem PySem.Calls PyProof.Rows PySem.W
set_option maxHeartbeats 4000000
set_option maxRecDepth 100000
namespace Mine

noncomputable def cell (s g : List V) (q : Nat) (b : Bool) : Option V := if b then g[q]? else s[q]?
noncomputable def setc (s g : List V) (q : Nat) (b : Bool) (v : V) : List V × List V := if b then (s, g.set q v) else (s.set q v, g)
theorem cell_set {s g : List V} {q q' : Nat} {b b' : Bool} {v : V} (hs : q < s.length) (hg : q < g.length) : cell (setc s g q b v).1 (setc s g q b v).2 q' b' = if q' = q ∧ b' = b then some v else cell s g q' b' := by
  unfold cell setc
  cases b <;> cases b' <;> by_cases h : q' = q <;> simp [h, List.getElem?_set, hs, hg] <;> (try (intro e; exact absurd e.symm h))
theorem setc_len {s g : List V} {q : Nat} {b : Bool} {v : V} : (setc s g q b v).1.length = s.length ∧ (setc s g q b v).2.length = g.length := by
  unfold setc
  cases b <;> simp
theorem Rep_cells {s g s' g' : List V} {t : BT} (h : t.Rep s g) (k : ∀ x b, t.Mem x → cell s' g' x b = cell s g x b) : t.Rep s' g' :=
  Rep_keep h fun x hx => ⟨k x false hx, k x true hx⟩

structure Fin' (T : List Int) (h p : Nat) (w : Int) (s g : List V) (t : BT) (lo : Nat) (lb : Bool) (hi : Nat) (hb : Bool) (s' g' : List V) (L R : BT) : Prop where
  len : s'.length = s.length ∧ g'.length = g.length
  clo : cell s' g' lo lb = some (.int L.root)
  chi : cell s' g' hi hb = some (.int R.root)
  rep : L.Rep s' g' ∧ R.Rep s' g'
  old : ∀ q b, ¬ t.Mem q → (q, b) ≠ (lo, lb) → (q, b) ≠ (hi, hb) → cell s' g' q b = cell s g q b
  sub : (∀ y, L.Mem y → t.Mem y) ∧ ∀ y, R.Mem y → t.Mem y
  heap : L.Heap ∧ R.Heap
  ord : L.Ord T h ∧ R.Ord T h
  les : (∀ y, L.Mem y → le T h y p) ∧ ∀ y, R.Mem y → le T h p y
  apart : ∀ y, L.Mem y → ¬ R.Mem y
  cov : ∀ y, t.Mem y → (p : Int) - y ≤ w → L.Mem y ∨ R.Mem y ∨ agree T p y h

section
variable {T : List Int} {h p : Nat} {w : Int} {s g : List V} {t tl tr : BT} {q lo hi : Nat} {lb hb : Bool}

theorem fin_two {v1 v2 : V} (hls : lo < s.length) (hlg : lo < g.length) (hhs : hi < s.length) (hhg : hi < g.length) (hne : (lo, lb) ≠ (hi, hb))
    (s1 g1 : List V) (e1 : (s1, g1) = setc s g lo lb v1) (s' g' : List V) (e2 : (s', g') = setc s1 g1 hi hb v2) :
    (s'.length = s.length ∧ g'.length = g.length) ∧ cell s' g' lo lb = some v1 ∧ cell s' g' hi hb = some v2 ∧ ∀ x b, (x, b) ≠ (lo, lb) → (x, b) ≠ (hi, hb) → cell s' g' x b = cell s g x b := by
  have a1 : s1 = (setc s g lo lb v1).1 := by rw [← e1]
  have a2 : g1 = (setc s g lo lb v1).2 := by rw [← e1]
  have b1 : s' = (setc s1 g1 hi hb v2).1 := by rw [← e2]
  have b2 : g' = (setc s1 g1 hi hb v2).2 := by rw [← e2]
  have l1 : s1.length = s.length := by rw [a1]; exact setc_len.1
  have l2 : g1.length = g.length := by rw [a2]; exact setc_len.2
  have c1 : ∀ x b, cell s1 g1 x b = if x = lo ∧ b = lb then some v1 else cell s g x b := fun x b => by rw [a1, a2]; exact cell_set hls hlg
  have c2 : ∀ x b, cell s' g' x b = if x = hi ∧ b = hb then some v2 else cell s1 g1 x b := fun x b => by rw [b1, b2]; exact cell_set (by lia) (by lia)
  refine ⟨⟨by rw [b1, setc_len.1, l1], by rw [b2, setc_len.2, l2]⟩, ?_, ?_, fun x b n1 n2 => ?_⟩
  · rw [c2, if_neg (fun e => hne (by rw [e.1, e.2])), c1, if_pos ⟨rfl, rfl⟩]
  · rw [c2, if_pos ⟨rfl, rfl⟩]
  · rw [c2, if_neg (fun e => n2 (by rw [e.1, e.2])), c1, if_neg (fun e => n1 (by rw [e.1, e.2]))]

theorem fin_stop (hls : lo < s.length) (hlg : lo < g.length) (hhs : hi < s.length) (hhg : hi < g.length) (hne : (lo, lb) ≠ (hi, hb)) (hw : ∀ y, t.Mem y → ¬ (p : Int) - y ≤ w)
    (s1 g1 : List V) (e1 : (s1, g1) = setc s g lo lb (.int (-1))) (s' g' : List V) (e2 : (s', g') = setc s1 g1 hi hb (.int (-1))) : Fin' T h p w s g t lo lb hi hb s' g' .leaf .leaf := by
  obtain ⟨a, b, c, d⟩ := fin_two hls hlg hhs hhg hne s1 g1 e1 s' g' e2
  exact ⟨a, b, c, ⟨trivial, trivial⟩, fun x b _ n1 n2 => d x b n1 n2, ⟨(fun _ h => h.elim), (fun _ h => h.elim)⟩, ⟨trivial, trivial⟩, ⟨trivial, trivial⟩, ⟨(fun _ h => h.elim), (fun _ h => h.elim)⟩, (fun _ h => h.elim), fun y hy h => absurd h (hw y hy)⟩
theorem fin_eq (hls : lo < s.length) (hlg : lo < g.length) (hhs : hi < s.length) (hhg : hi < g.length) (hne : (lo, lb) ≠ (hi, hb)) (hlo : ¬ (BT.node tl q tr).Mem lo) (hhi : ¬ (BT.node tl q tr).Mem hi) (rp : (BT.node tl q tr).Rep s g) (hp : (BT.node tl q tr).Heap) (od : (BT.node tl q tr).Ord T h) (ha : agree T p q h)
    (s1 g1 : List V) (e1 : (s1, g1) = setc s g lo lb (.int tl.root)) (s' g' : List V) (e2 : (s', g') = setc s1 g1 hi hb (.int tr.root)) : Fin' T h p w s g (.node tl q tr) lo lb hi hb s' g' tl tr := by
  obtain ⟨a, b, c, d⟩ := fin_two hls hlg hhs hhg hne s1 g1 e1 s' g' e2
  obtain ⟨r1, r2, r3, r4⟩ := rp
  obtain ⟨h1, h2, h3, h4, h5⟩ := hp
  obtain ⟨o1, o2, o3, o4⟩ := od
  have kp : ∀ x b, (BT.node tl q tr).Mem x → cell s' g' x b = cell s g x b := fun x b hx => d x b (fun e => hlo (by cases e; exact hx)) (fun e => hhi (by cases e; exact hx))
  refine ⟨a, b, c, ⟨Rep_cells r3 fun x b hx => kp x b (.inr (.inl hx)), Rep_cells r4 fun x b hx => kp x b (.inr (.inr hx))⟩, fun x b _ n1 n2 => d x b n1 n2, ⟨fun y hy => .inr (.inl hy), fun y hy => .inr (.inr hy)⟩, ⟨h4, h5⟩, ⟨o3, o4⟩,
    ⟨fun y hy => le_trans' (o1 y hy) (le_of_agree ha.symm), fun y hy => le_trans' (le_of_agree ha) (o2 y hy)⟩, h3, fun y hy _ => ?_⟩
  rcases hy with rfl | hy | hy
  · exact .inr (.inr ha)
  · exact .inl hy
  · exact .inr (.inl hy)
theorem fin_less {L' R' : BT} {s' g' : List V} (hls : lo < s.length) (hlg : lo < g.length) (hne : (lo, lb) ≠ (hi, hb)) (hlo : ¬ (BT.node tl q tr).Mem lo) (hhi : ¬ (BT.node tl q tr).Mem hi) (rp : (BT.node tl q tr).Rep s g) (hp : (BT.node tl q tr).Heap) (od : (BT.node tl q tr).Ord T h) (hq : le T h q p)
    (s1 g1 : List V) (e1 : (s1, g1) = setc s g lo lb (.int q)) (f : Fin' T h p w s1 g1 tr q true hi hb s' g' L' R') : Fin' T h p w s g (.node tl q tr) lo lb hi hb s' g' (.node tl q L') R' := by
  have a1 : s1 = (setc s g lo lb (.int q)).1 := by rw [← e1]
  have a2 : g1 = (setc s g lo lb (.int q)).2 := by rw [← e1]
  have l1 : s1.length = s.length := by rw [a1]; exact setc_len.1
  have l2 : g1.length = g.length := by rw [a2]; exact setc_len.2
  have c1 : ∀ x b, cell s1 g1 x b = if x = lo ∧ b = lb then some (.int q) else cell s g x b := fun x b => by rw [a1, a2]; exact cell_set hls hlg
  obtain ⟨r1, r2, r3, r4⟩ := rp
  obtain ⟨h1, h2, h3, h4, h5⟩ := hp
  obtain ⟨o1, o2, o3, o4⟩ := od
  have hqt : ¬ tr.Mem q := fun hx => by have := h2 q hx; lia
  have loq : lo ≠ q := fun e => hlo (by rw [e]; exact .inl rfl)
  have hiq : hi ≠ q := fun e => hhi (by rw [e]; exact .inl rfl)
  have lotr : ¬ tr.Mem lo := fun hx => hlo (.inr (.inr hx))
  have same : ∀ x b, x ≠ lo → cell s1 g1 x b = cell s g x b := fun x b hx => by rw [c1, if_neg fun e => hx e.1]
  have cq : cell s' g' q false = some (.int tl.root) := by
    rw [f.old q false hqt (by simp) (fun e => hiq (by cases e; rfl)), same q false loq.symm]; exact r1
  refine ⟨⟨f.len.1.trans l1, f.len.2.trans l2⟩, ?_, f.chi, ⟨⟨cq, f.clo, ?_, f.rep.1⟩, f.rep.2⟩, fun x b hx n1 n2 => ?_, ⟨fun y hy => ?_, fun y hy => .inr (.inr (f.sub.2 y hy))⟩, ⟨⟨h1, fun y hy => h2 y (f.sub.1 y hy), fun y hy hy' => h3 y hy (f.sub.1 y hy'), h4, f.heap.1⟩, f.heap.2⟩,
    ⟨⟨o1, fun y hy => o2 y (f.sub.1 y hy), o3, f.ord.1⟩, f.ord.2⟩, ⟨fun y hy => ?_, f.les.2⟩, fun y hy hy' => ?_, fun y hy hw => ?_⟩
  · rw [f.old lo lb lotr (fun e => loq (by cases e; rfl)) hne, c1, if_pos ⟨rfl, rfl⟩]; rfl
  · refine Rep_cells r3 fun x b hx => ?_
    rw [f.old x b (h3 x hx) (fun e => by cases e; have := h1 q hx; lia) (fun e => hhi (by cases e; exact .inr (.inl hx))), same x b fun e => hlo (by rw [← e]; exact .inr (.inl hx))]
  · rw [f.old x b (fun hy => hx (.inr (.inr hy))) (fun e => hx (by cases e; exact .inl rfl)) n2, c1, if_neg (fun e => n1 (by rw [e.1, e.2]))]
  · rcases hy with rfl | hy | hy
    · exact .inl rfl
    · exact .inr (.inl hy)
    · exact .inr (.inr (f.sub.1 y hy))
  · rcases hy with rfl | hy | hy
    · exact hq
    · exact le_trans' (o1 y hy) hq
    · exact f.les.1 y hy
  · have hyt := f.sub.2 y hy'
    rcases hy with rfl | hy | hy
    · exact hqt hyt
    · exact h3 y hy hyt
    · exact f.apart y hy hy'
  · rcases hy with rfl | hy | hy
    · exact .inl (.inl rfl)
    · exact .inl (.inr (.inl hy))
    · rcases f.cov y hy hw with h | h | h
      · exact .inl (.inr (.inr h))
      · exact .inr (.inl h)
      · exact .inr (.inr h)
theorem fin_more {L' R' : BT} {s' g' : List V} (hhs : hi < s.length) (hhg : hi < g.length) (hne : (lo, lb) ≠ (hi, hb)) (hlo : ¬ (BT.node tl q tr).Mem lo) (hhi : ¬ (BT.node tl q tr).Mem hi) (rp : (BT.node tl q tr).Rep s g) (hp : (BT.node tl q tr).Heap) (od : (BT.node tl q tr).Ord T h) (hq : le T h p q)
    (s1 g1 : List V) (e1 : (s1, g1) = setc s g hi hb (.int q)) (f : Fin' T h p w s1 g1 tl lo lb q false s' g' L' R') : Fin' T h p w s g (.node tl q tr) lo lb hi hb s' g' L' (.node R' q tr) := by
  have a1 : s1 = (setc s g hi hb (.int q)).1 := by rw [← e1]
  have a2 : g1 = (setc s g hi hb (.int q)).2 := by rw [← e1]
  have l1 : s1.length = s.length := by rw [a1]; exact setc_len.1
  have l2 : g1.length = g.length := by rw [a2]; exact setc_len.2
  have c1 : ∀ x b, cell s1 g1 x b = if x = hi ∧ b = hb then some (.int q) else cell s g x b := fun x b => by rw [a1, a2]; exact cell_set hhs hhg
  obtain ⟨r1, r2, r3, r4⟩ := rp
  obtain ⟨h1, h2, h3, h4, h5⟩ := hp
  obtain ⟨o1, o2, o3, o4⟩ := od
  have hqt : ¬ tl.Mem q := fun hx => by have := h1 q hx; lia
  have loq : lo ≠ q := fun e => hlo (by rw [e]; exact .inl rfl)
  have hiq : hi ≠ q := fun e => hhi (by rw [e]; exact .inl rfl)
  have hitl : ¬ tl.Mem hi := fun hx => hhi (.inr (.inl hx))
  have same : ∀ x b, x ≠ hi → cell s1 g1 x b = cell s g x b := fun x b hx => by rw [c1, if_neg fun e => hx e.1]
  have cq : cell s' g' q true = some (.int tr.root) := by
    rw [f.old q true hqt (fun e => loq (by cases e; rfl)) (by simp), same q true hiq.symm]; exact r2
  refine ⟨⟨f.len.1.trans l1, f.len.2.trans l2⟩, f.clo, ?_, ⟨f.rep.1, ⟨f.chi, cq, f.rep.2, ?_⟩⟩, fun x b hx n1 n2 => ?_, ⟨fun y hy => .inr (.inl (f.sub.1 y hy)), fun y hy => ?_⟩, ⟨f.heap.1, ⟨fun y hy => h1 y (f.sub.2 y hy), h2, fun y hy hy' => h3 y (f.sub.2 y hy) hy', f.heap.2, h5⟩⟩,
    ⟨f.ord.1, ⟨fun y hy => o1 y (f.sub.2 y hy), o2, f.ord.2, o4⟩⟩, ⟨f.les.1, fun y hy => ?_⟩, fun y hy hy' => ?_, fun y hy hw => ?_⟩
  · rw [f.old hi hb hitl hne.symm (fun e => hiq (by cases e; rfl)), c1, if_pos ⟨rfl, rfl⟩]; rfl
  · refine Rep_cells r4 fun x b hx => ?_
    rw [f.old x b (fun hy => h3 x hy hx) (fun e => hlo (by cases e; exact .inr (.inr hx))) (fun e => by cases e; have := h2 q hx; lia), same x b fun e => hhi (by rw [← e]; exact .inr (.inr hx))]
  · rw [f.old x b (fun hy => hx (.inr (.inl hy))) n1 (fun e => hx (by cases e; exact .inl rfl)), c1, if_neg (fun e => n2 (by rw [e.1, e.2]))]
  · rcases hy with rfl | hy | hy
    · exact .inl rfl
    · exact .inr (.inl (f.sub.2 y hy))
    · exact .inr (.inr hy)
  · rcases hy with rfl | hy | hy
    · exact hq
    · exact f.les.2 y hy
    · exact le_trans' hq (o2 y hy)
  · have hyt := f.sub.1 y hy
    rcases hy' with rfl | hy' | hy'
    · exact hqt hyt
    · exact f.apart y hy hy'
    · exact h3 y hyt hy'
  · rcases hy with rfl | hy | hy
    · exact .inr (.inl (.inl rfl))
    · rcases f.cov y hy hw with h | h | h
      · exact .inl h
      · exact .inr (.inl (.inr (.inl h)))
      · exact .inr (.inr h)
    · exact .inr (.inl (.inr (.inr hy)))
end
end Mine
end
-- part K12
section
open PySem PySem.Calls PyProof.Rows PySem.W
set_option maxHeartbeats 4000000
set_option maxRecDepth 100000
namespace Mine

noncomputable abbrev tfF (T : List Int) (w ch : Int) (l : Nat) (ah : Int) (r rd sm gr : Addr) : List (Nat × V) := [(0, .bytes T), (4, .int l), (5, .int w), (6, .int ch), (7, .int ah), (8, .ref r), (9, .ref rd), (10, .ref sm), (11, .ref gr)]
theorem tfF_mf {H : MH} {a : Addr} {T : List Int} {w ch ah : Int} {l : Nat} {r rd sm gr : Addr} (h : H a = some (.inst 2 (tfF T w ch l ah r rd sm gr))) (hz : T.length ≤ big) : MF H a 2 (tfF T w ch l ah r rd sm gr) T l w ch ah :=
  ⟨h, .inr (.inl rfl), rfl, rfl, rfl, rfl, rfl, fget_ge (by simp), hz, by show 9 ≤ 20; decide⟩

theorem wB_nil {G : Gd} {ln : List Str} {n : Nat} {fr : List V} {Q : Fl → List V → MH → Prop} {H : MH} : wB G ln n .nil fr Q H = Q .next fr H := rfl
structure Arr (H H' : MH) (sm gr : Addr) (s g : List V) : Prop where
  s : H' sm = some (.list s)
  g : H' gr = some (.list g)
  o : ∀ x, x ≠ sm → x ≠ gr → H' x = H x

theorem nd_part : p_TreeFinder_part_ln.Nodup := by decide +kernel
section
variable {G : Gd} (C : Cx G) {n : Nat} {Q : V → MH → Prop} {H : MH} {a r rd sm gr : Addr} {T : List Int} {l p : Nat} {w ch ah : Int}
include C
theorem c_hang {H' : MH} {s g : List V} {q : Nat} {b : Bool} {v : Int} (hn : 1 ≤ n) (h : H a = some (.inst 2 (tfF T w ch l ah r rd sm gr))) (ne : a ≠ sm ∧ a ≠ gr ∧ sm ≠ gr) (A : Arr H H' sm gr s g) (hs : q < s.length) (hg : q < g.length) (zs : s.length ≤ big) (zg : g.length ≤ big)
    (hq : ∀ s' g' H'', (s', g') = setc s g q b (.int v) → Arr H H'' sm gr s' g' → Q .none H'') : WCall G n (.meth 2 35) [.ref a, .int q, .bool b, .int v] Q H' := by
  obtain ⟨k, rfl, hk⟩ := pred_of hn
  refine WCall.intro (C.at 30 rfl) ?_
  have e : fr0 p_TreeFinder_hang_ln [.ref a, .int q, .bool b, .int v] = [.ref a, .int q, .bool b, .int v] := rfl
  rw [e]
  have ha : H' a = some (.inst 2 (tfF T w ch l ah r rd sm gr)) := (A.o a ne.1 ne.2.1).trans h
  simp [p_TreeFinder_hang, ha, fget]
  refine ⟨fun hb => ?_, fun hb => ?_⟩
  · subst hb
    refine set_at A.g hg zg ?_
    exact hq s _ _ rfl ⟨(upd_ne _ _ ne.2.2).trans A.s, upd_same _ _ _, fun x h1 h2 => (upd_ne _ _ h2).trans (A.o x h1 h2)⟩
  · subst hb
    refine set_at A.s hs zs ?_
    exact hq _ g _ rfl ⟨upd_same _ _ _, (upd_ne _ _ ne.2.2.symm).trans A.g, fun x h1 h2 => (upd_ne _ _ h1).trans (A.o x h1 h2)⟩

theorem l_part {K : Fl → List V → MH → Prop} (hn : 1 ≤ n) (h : H a = some (.inst 2 (tfF T w ch l ah r rd sm gr))) (ne : a ≠ sm ∧ a ≠ gr ∧ sm ≠ gr) (hz : T.length ≤ 4000) (hp : p < T.length) (hch : (T.length : Int) < ch) :
    ∀ (t : BT) (st lc hc lo hi : Nat) (lb hb : Bool) (s g : List V) (o11 : V) (H' : MH), t.Rep s g → t.Heap → t.Ord T (T.length - p) → (∀ y, t.Mem y → y < p) → ¬ t.Mem lo → ¬ t.Mem hi → (lo, lb) ≠ (hi, hb) → lo ≤ p → hi ≤ p → s.length = T.length → g.length = T.length → (st : Int) + (t.root + 1) ≤ p →
      lc ≤ T.length - p → hc ≤ T.length - p → (lc = 0 ∨ ∃ v, (∀ y, t.Mem y → le T (T.length - p) v y) ∧ agree T p v lc) → (hc = 0 ∨ ∃ v, (∀ y, t.Mem y → le T (T.length - p) y v) ∧ agree T p v hc) → Arr H H' sm gr s g →
      (∀ lo' hi' lb' hb' s1 g1 o2 o4 o7 o10 o11 H'', Arr H H'' sm gr s1 g1 → s1.length = T.length → g1.length = T.length → lo' ≤ p → hi' ≤ p →
        (∀ s2 g2, (s2, g2) = setc s1 g1 lo' lb' (.int (-1)) → ∀ s3 g3, (s3, g3) = setc s2 g2 hi' hb' (.int (-1)) → ∃ L R, Fin' T (T.length - p) p w s g t lo lb hi hb s3 g3 L R) →
        K .next [.ref a, .int p, o2, .int (T.length - p : Nat), o4, .int lo', .bool lb', o7, .int hi', .bool hb', o10, o11] H'') →
      (∀ fr s3 g3 L R H'', Arr H H'' sm gr s3 g3 → Fin' T (T.length - p) p w s g t lo lb hi hb s3 g3 L R → K (.ret .none) fr H'') →
      WWhile G p_TreeFinder_part_ln n p_TreeFinder_part_wt0 p_TreeFinder_part_wb1 [.ref a, .int p, .int t.root, .int (T.length - p : Nat), .int st, .int lo, .bool lb, .int lc, .int hi, .bool hb, .int hc, o11] K H' := by
  have hbg : big = 16777216 := rfl
  intro t
  induction t with
  | leaf =>
    intro st lc hc lo hi lb hb s g o11 H' rp hp' od mem nlo nhi nlh lop hip sl gl hst hlc hhc hA hB A hK hR
    have ha : H' a = some (.inst 2 (tfF T w ch l ah r rd sm gr)) := (A.o a ne.1 ne.2.1).trans h
    refine WWhile.step nd_part ?_
    simp [p_TreeFinder_part_wt0, BT.root]
    refine m_inst ha (by decide) (by decide) rfl rfl ?_
    simp
    refine c_is_near C hn (tfF_mf ha (by exact easy (by assumption) rfl)) (fun h => absurd rfl h) (fun _ => ?_)
    simp [BT.root]
    have := hK lo hi lb hb s g (.int (-1)) (.int st) (.int lc) (.int hc) o11 H' A sl gl lop hip fun s2 g2 e2 s3 g3 e3 => ⟨.leaf, .leaf, fin_stop (t := .leaf) (by exact Nat.lt_of_le_of_lt (by assumption) (by lia)) (by exact Nat.lt_of_le_of_lt (by assumption) (by lia)) (by exact Nat.lt_of_le_of_lt (by assumption) (by lia)) (by exact Nat.lt_of_le_of_lt (by assumption) (by lia)) nlh (fun y hy => (show False from hy).elim) s2 g2 e2 s3 g3 e3⟩
    simpa using this
  | node tl q tr ihl ihr =>
    intro st lc hc lo hi lb hb s g o11 H' rp hp' od mem nlo nhi nlh lop hip sl gl hst hlc hhc hA hB A hK hR
    have ha : H' a = some (.inst 2 (tfF T w ch l ah r rd sm gr)) := (A.o a ne.1 ne.2.1).trans h
    have mf := tfF_mf ha (by exact easy (by assumption) rfl)
    have hqp : q < p := mem q (.inl rfl)
    have hst' : (st : Int) + (q + 1) ≤ p := hst
    refine WWhile.step nd_part ?_
    simp [p_TreeFinder_part_wt0, BT.root]
    refine m_inst ha (by decide) (by decide) rfl rfl ?_
    simp
    refine c_is_near C hn mf (fun _ hw => ?_) (fun hnw => ?_)
    · simp [ha, fget]
      refine ⟨fun _ => ?_, fun h => by exact mh_false (by lia)⟩
      simp [p_TreeFinder_part_wb1, wAug]
      refine m_inst ha (by decide) (by decide) rfl rfl ?_
      simp
      rw [emin_eq]
      obtain ⟨r1, r2, r3, r4⟩ := id rp
      obtain ⟨h1, h2, h3, h4, h5⟩ := id hp'
      obtain ⟨o1, o2, o3, o4⟩ := id od
      have hag : agree T p q (min lc hc) := by
        rcases hA with h | ⟨v, hv1, hv2⟩
        · exact fun i hi => absurd (Nat.lt_of_lt_of_le hi (Nat.min_le_left _ _)) (by rw [h]; exact Nat.not_lt_zero _)
        rcases hB with h | ⟨u, hu1, hu2⟩
        · exact fun i hi => absurd (Nat.lt_of_lt_of_le hi (Nat.min_le_right _ _)) (by rw [h]; exact Nat.not_lt_zero _)
        exact squeeze (hv1 q (.inl rfl)) (hu1 q (.inl rfl)) (hv2.le (by exact Nat.min_le_left _ _)) (hu2.le (by exact Nat.min_le_right _ _)) (by exact Nat.le_trans (Nat.min_le_left _ _) (by lia))
      refine c_alike C hn mf (by exact Nat.le_trans (Nat.min_le_left _ _) (by lia)) (by lia) (by lia) hag fun c c1 c2 c3 c4 => ?_
      have loq : lo ≠ q := fun e => nlo (by rw [e]; exact .inl rfl)
      have hiq : hi ≠ q := fun e => nhi (by rw [e]; exact .inl rfl)
      simp
      refine ⟨fun hceq => ?_, fun hcne => ?_⟩
      · refine m_inst ha (by decide) (by decide) rfl rfl ?_
        simp [ha, fget]
        refine sub_at A.s r1 (by lia) ?_
        simp
        refine c_hang C hn h ne A (by exact Nat.lt_of_le_of_lt (by assumption) (by lia)) (by exact Nat.lt_of_le_of_lt (by assumption) (by lia)) (by lia) (by lia) fun s1 g1 H1 e1 A1 => ?_
        have ha1 : H1 a = some (.inst 2 (tfF T w ch l ah r rd sm gr)) := (A1.o a ne.1 ne.2.1).trans h
        have l1 := @setc_len s g lo lb (.int tl.root)
        rw [← e1] at l1
        have cq : cell s1 g1 q true = some (.int tr.root) := by
          have := @cell_set s g lo q lb true (.int tl.root) (by exact Nat.lt_of_le_of_lt (by assumption) (by lia)) (by exact Nat.lt_of_le_of_lt (by assumption) (by lia))
          rw [← e1] at this
          rw [this, if_neg fun e => loq e.1.symm]; exact r2
        simp
        refine m_inst ha1 (by decide) (by decide) rfl rfl ?_
        simp [ha1, fget]
        refine sub_at A1.g cq (by have := l1.2; simp at this; lia) ?_
        simp
        refine c_hang C hn h ne A1 (by have := l1.1; simp at this; lia) (by have := l1.2; simp at this; lia) (by have := l1.1; simp at this; lia) (by have := l1.2; simp at this; lia) fun s3 g3 H3 e3 A3 => ?_
        simp
        have : c = T.length - p := by lia
        subst this
        exact hR _ s3 g3 tl tr H3 A3 (fin_eq (by exact Nat.lt_of_le_of_lt (by assumption) (by lia)) (by exact Nat.lt_of_le_of_lt (by assumption) (by lia)) (by exact Nat.lt_of_le_of_lt (by assumption) (by lia)) (by exact Nat.lt_of_le_of_lt (by assumption) (by lia)) nlh nlo nhi rp hp' od c3 s1 g1 e1 s3 g3 e3)
      · have hclt : c < T.length - p := by lia
        simp [ha, fget, BT.root]
        rw [s_bytes (by exact Int.natCast_nonneg _) (by lia) (by exact easy (by assumption) rfl)]
        simp [ha, fget, BT.root]
        rw [s_bytes (by exact Int.natCast_nonneg _) (by lia) (by exact easy (by assumption) rfl)]
        have e1 : ((q : Int) + c).toNat = q + c := by exact Int.toNat_natCast _
        have e2 : ((p : Int) + c).toNat = p + c := by lia
        simp
        rw [e1, e2]
        refine ⟨fun hl => ?_, fun hl => ?_⟩
        · refine m_inst ha (by decide) (by decide) rfl rfl ?_
          simp [ha, fget, BT.root]
          refine c_hang C hn h ne A (by lia) (by lia) (by lia) (by lia) fun s1 g1 H1 e1 A1 => ?_
          have ha1 : H1 a = some (.inst 2 (tfF T w ch l ah r rd sm gr)) := (A1.o a ne.1 ne.2.1).trans h
          have l1 := @setc_len s g lo lb (.int q)
          rw [← e1] at l1
          have l1s : s1.length = s.length := l1.1
          have l1g : g1.length = g.length := l1.2
          have cs : ∀ x b, x ≠ lo → cell s1 g1 x b = cell s g x b := fun x b hx => by
            have := @cell_set s g lo x lb b (.int q) (by lia) (by lia)
            rw [← e1] at this
            rw [this, if_neg fun e => hx e.1]
          simp
          refine ⟨by decide, ?_⟩
          simp [ha1, fget]
          refine sub_at A1.g ((cs q true loq.symm).trans r2) (by lia) ?_
          simp
          have rl := root_lt h2
          show WWhile G p_TreeFinder_part_ln n p_TreeFinder_part_wt0 p_TreeFinder_part_wb1 _ _ _
          refine ihr (st + 1) c hc q hi true hb s1 g1 _ H1 (Rep_cells r4 fun x b hx => cs x b fun e => nlo (by rw [← e]; exact .inr (.inr hx))) h5 o4 (fun y hy => mem y (.inr (.inr hy))) (fun hx => by have := h2 q hx; lia) (fun hx => nhi (.inr (.inr hx))) (fun e => hiq (by cases e; rfl)) (by lia) hip (by lia) (by lia) (by lia) c2 hhc (.inr ⟨q, o2, c3⟩) (hB.imp id fun ⟨u, u1, u2⟩ => ⟨u, fun y hy => u1 y (.inr (.inr hy)), u2⟩) A1 (fun lo' hi' lb' hb' s2 g2 v2 v4 v7 v10 v11 H2 A2 q1 q2 q3 q4 q5 => ?_) (fun fr s3 g3 L R H3 A3 f => ?_)
          · exact hK lo' hi' lb' hb' s2 g2 v2 v4 v7 v10 v11 H2 A2 q1 q2 q3 q4 fun s3 g3 e3 s4 g4 e4 => by
              obtain ⟨L, R, f⟩ := q5 s3 g3 e3 s4 g4 e4
              exact ⟨_, _, fin_less (by lia) (by lia) nlh nlo nhi rp hp' od (le_of_lt c3.symm hl) s1 g1 e1 f⟩
          · exact hR fr s3 g3 _ _ H3 A3 (fin_less (by lia) (by lia) nlh nlo nhi rp hp' od (le_of_lt c3.symm hl) s1 g1 e1 f)
        · have hl' : oct T (p + c) < oct T (q + c) := by
            have := c4 hclt
            simp [oct] at this ⊢
            lia
          refine m_inst ha (by decide) (by decide) rfl rfl ?_
          simp [ha, fget, BT.root]
          refine c_hang C hn h ne A (by lia) (by lia) (by lia) (by lia) fun s1 g1 H1 e1 A1 => ?_
          have ha1 : H1 a = some (.inst 2 (tfF T w ch l ah r rd sm gr)) := (A1.o a ne.1 ne.2.1).trans h
          have l1 := @setc_len s g hi hb (.int q)
          rw [← e1] at l1
          have l1s : s1.length = s.length := l1.1
          have l1g : g1.length = g.length := l1.2
          have cs : ∀ x b, x ≠ hi → cell s1 g1 x b = cell s g x b := fun x b hx => by
            have := @cell_set s g hi x hb b (.int q) (by lia) (by lia)
            rw [← e1] at this
            rw [this, if_neg fun e => hx e.1]
          simp
          refine ⟨by decide, ?_⟩
          simp [ha1, fget]
          refine sub_at A1.s ((cs q false hiq.symm).trans r1) (by lia) ?_
          simp
          have rl := root_lt h1
          show WWhile G p_TreeFinder_part_ln n p_TreeFinder_part_wt0 p_TreeFinder_part_wb1 _ _ _
          refine ihl (st + 1) lc c lo q lb false s1 g1 _ H1 (Rep_cells r3 fun x b hx => cs x b fun e => nhi (by rw [← e]; exact .inr (.inl hx))) h4 o3 (fun y hy => mem y (.inr (.inl hy))) (fun hx => nlo (.inr (.inl hx))) (fun hx => by have := h1 q hx; lia) (fun e => loq (by cases e; rfl)) lop (by lia) (by lia) (by lia) (by lia) hlc c2 (hA.imp id fun ⟨u, u1, u2⟩ => ⟨u, fun y hy => u1 y (.inr (.inl hy)), u2⟩) (.inr ⟨q, o1, c3⟩) A1 (fun lo' hi' lb' hb' s2 g2 v2 v4 v7 v10 v11 H2 A2 q1 q2 q3 q4 q5 => ?_) (fun fr s3 g3 L R H3 A3 f => ?_)
          · exact hK lo' hi' lb' hb' s2 g2 v2 v4 v7 v10 v11 H2 A2 q1 q2 q3 q4 fun s3 g3 e3 s4 g4 e4 => by
              obtain ⟨L, R, f⟩ := q5 s3 g3 e3 s4 g4 e4
              exact ⟨_, _, fin_more (by lia) (by lia) nlh nlo nhi rp hp' od (le_of_lt c3 hl') s1 g1 e1 f⟩
          · exact hR fr s3 g3 _ _ H3 A3 (fin_more (by lia) (by lia) nlh nlo nhi rp hp' od (le_of_lt c3 hl') s1 g1 e1 f)
    · simp [BT.root]
      have := hK lo hi lb hb s g (.int q) (.int st) (.int lc) (.int hc) o11 H' A sl gl lop hip fun s2 g2 e2 s3 g3 e3 => ⟨.leaf, .leaf, fin_stop (by lia) (by lia) (by lia) (by lia) nlh (fun y hy hyw => by
        have : (y : Int) ≤ q := heap_le (t := .node tl q tr) hp' hy
        exact absurd ⟨by lia, by lia⟩ hnw) s2 g2 e2 s3 g3 e3⟩
      simpa using this
end
end Mine
end
-- part K13
section
open PySem PySem.Calls PyProof.Rows PySem.W
set_option maxHeartbeats 4000000
set_option maxRecDepth 100000
namespace Mine
section
variable {G : Gd} (C : Cx G) {n : Nat} {Q : V → MH → Prop} {H : MH} {a r L B rd sm gr : Addr} {T : List Int} {l p : Nat} {w ch ah : Int}
include C
theorem c_part {t : BT} {s g : List V} (hn : 2 ≤ n) (h : H a = some (.inst 2 (tfF T w ch l ah r rd sm gr))) (ne : a ≠ sm ∧ a ≠ gr ∧ sm ≠ gr) (hz : T.length ≤ 4000) (hp : p < T.length) (hch : (T.length : Int) < ch) (A : Arr H H sm gr s g) (sl : s.length = T.length) (gl : g.length = T.length)
    (rp : t.Rep s g) (hp' : t.Heap) (od : t.Ord T (T.length - p)) (mem : ∀ y, t.Mem y → y < p)
    (hq : ∀ s' g' L R H', Arr H H' sm gr s' g' → Fin' T (T.length - p) p w s g t p false p true s' g' L R → Q .none H') : WCall G n (.meth 2 36) [.ref a, .int p, .int t.root] Q H := by
  obtain ⟨k, rfl, hk⟩ := pred_of hn
  have hbg : big = 16777216 := rfl
  refine WCall.intro (C.at 32 rfl) ?_
  have e : fr0 p_TreeFinder_part_ln [.ref a, .int p, .int t.root] = [.ref a, .int p, .int t.root, .odd, .odd, .odd, .odd, .odd, .odd, .odd, .odd, .odd] := rfl
  rw [e]
  have rl := root_lt mem
  have el : (T.length : Int) - p = ((T.length - p : Nat) : Int) := by lia
  unfold p_TreeFinder_part
  refine wB_step ?_
  simp [-xB_cons, -xB_nil, h, fget]
  refine ⟨by exact easy (by assumption) rfl, by decide, ?_⟩
  refine wB_step ?_
  simp [-xB_cons, -xB_nil]
  refine ⟨by decide, ?_⟩
  refine wB_step ?_
  simp [-xB_cons, -xB_nil]
  refine ⟨by decide, ?_⟩
  refine wB_step ?_
  simp [-xB_cons, -xB_nil]
  rw [el]
  refine l_part C (by omega) h ne hz hp hch t 0 0 0 p p false true s g .odd H rp hp' od mem (fun hx => by have := mem p hx; lia) (fun hx => by have := mem p hx; lia) (by simp) (Nat.le_refl _) (Nat.le_refl _) sl gl (by lia) (Nat.zero_le _) (Nat.zero_le _) (.inl rfl) (.inl rfl) A (fun lo' hi' lb' hb' s1 g1 o2 o4 o7 o10 o11 H1 A1 q1 q2 q3 q4 q5 => ?_) (fun fr s3 g3 L R H3 A3 f => ?_)
  · have ha1 : H1 a = some (.inst 2 (tfF T w ch l ah r rd sm gr)) := (A1.o a ne.1 ne.2.1).trans h
    dsimp only
    refine wB_step ?_
    simp [-xB_cons, -xB_nil]
    refine m_inst ha1 (by decide) (by decide) rfl rfl ?_
    simp [-xB_cons, -xB_nil]
    refine c_hang C (by omega) h ne A1 (by exact Nat.lt_of_le_of_lt (by assumption) (by lia)) (by exact Nat.lt_of_le_of_lt (by assumption) (by lia)) (by lia) (by lia) fun s2 g2 H2 e2 A2 => ?_
    have ha2 : H2 a = some (.inst 2 (tfF T w ch l ah r rd sm gr)) := (A2.o a ne.1 ne.2.1).trans h
    have l2 := @setc_len s1 g1 lo' lb' (.int (-1))
    rw [← e2] at l2
    have l2s : s2.length = s1.length := l2.1
    have l2g : g2.length = g1.length := l2.2
    refine wB_step ?_
    simp [-xB_cons, -xB_nil]
    refine m_inst ha2 (by decide) (by decide) rfl rfl ?_
    simp [-xB_cons, -xB_nil]
    refine c_hang C (by omega) h ne A2 (by exact Nat.lt_of_le_of_lt (by assumption) (by lia)) (by exact Nat.lt_of_le_of_lt (by assumption) (by lia)) (by lia) (by lia) fun s3 g3 H3 e3 A3 => ?_
    simp
    obtain ⟨L, R, f⟩ := q5 s2 g2 e2 s3 g3 e3
    exact hq s3 g3 L R H3 A3 f
  · exact hq s3 g3 L R H3 A3 f

theorem c_put2 (hn : 4 ≤ n) (x : F2 H a T w ch l p r L B rd sm gr) (hp : p < T.length) (hz : T.length ≤ 4000) (hch : (T.length : Int) < ch)
    (hq : ∀ H', F2 H' a T w ch l (p + 1) r L B rd sm gr → (∀ b, b ∉ [a, r, rd, sm, gr] → H' b = H b) → Q .none H') : WCall G n (.meth 7 26) [.ref a, .int p] Q H := by
  obtain ⟨k, rfl, hk⟩ := pred_of hn
  have hbg : big = 16777216 := rfl
  refine WCall.intro (C.at 20 rfl) ?_
  have e : fr0 p_Matcher_put_ln [.ref a, .int p] = [.ref a, .int p] := rfl
  rw [e]
  have ne := x.ne
  simp only [List.nodup_cons, List.mem_cons, not_or, List.not_mem_nil, not_false_eq_true, and_true, List.nodup_nil] at ne
  obtain ⟨⟨n1, n2, n3, n4⟩, ⟨n5, n6, n7⟩, ⟨n8, n9⟩, n10⟩ := ne
  simp [p_Matcher_put, x.h, fget]
  refine ⟨by exact easy (by assumption) rfl, hp, fun _ => ?_⟩
  refine setA_of x.h (by decide) (by decide) (by simp) (by simp) ?_
  simp [fput]
  refine m_inst (upd_same _ _ _) (by decide) (by decide) rfl rfl ?_
  simp
  obtain ⟨H1, hH1⟩ : ∃ H1, upd H a (MO.inst 2 [(0, V.bytes T), (4, V.int l), (5, V.int w), (6, V.int ch), (7, V.int (p + 1)), (8, V.ref r), (9, V.ref rd), (10, V.ref sm), (11, V.ref gr)]) = H1 := ⟨_, rfl⟩
  rw [hH1]
  have ha1 : H1 a = some (.inst 2 (tfF T w ch l (p + 1) r rd sm gr)) := by rw [← hH1]; exact upd_same _ _ _
  have ho1 : ∀ b, b ≠ a → H1 b = H b := fun b hb => by rw [← hH1]; exact upd_ne _ _ hb
  obtain ⟨k2, rfl, hk2⟩ := pred_of hk
  refine WCall.intro (C.at 31 rfl) ?_
  have e : fr0 p_TreeFinder_enter_ln [.ref a, .int p] = [.ref a, .int p, .odd, .odd] := rfl
  rw [e]
  have hr1 : H1 r = some (.inst 0 (rowF T l L B)) := (ho1 r (fun q => n1 q.symm)).trans x.row
  obtain ⟨mm, ff, s, g, t, t1, t2, t3, t4, t5, t6, t7, t8⟩ := x.tr
  have hd1 : H1 rd = some (.dict mm ff) := (ho1 rd (fun q => n2 q.symm)).trans t1
  have hs1 : H1 sm = some (.list s) := (ho1 sm (fun q => n3 q.symm)).trans t3
  have hg1 : H1 gr = some (.list g) := (ho1 gr (fun q => n4 q.symm)).trans t4
  have hcast : ((p + 1 : Nat) : Int) = (p : Int) + 1 := by exact rfl
  have weak : T.length - (p + 1) ≤ T.length - p := by exact Nat.sub_le_of_le_add (by lia)
  simp [p_TreeFinder_enter, ha1, fget]
  refine m_inst hr1 (by decide) (by decide) rfl rfl ?_
  simp
  refine c_key C (by exact Nat.le_of_lt (by assumption)) hr1 (by exact Nat.le_of_lt (by assumption)) (by exact easy (by assumption) rfl) (fun hpl => ?_) (fun hpl => ?_)
  · simp [ha1, fget]
    refine m_get hd1 ?_
    simp
    refine get_of hd1 (by simp) ?_
    obtain ⟨u1, u2, u3⟩ := t7 (keyN T l p)
    rw [u1]
    simp [ha1, fget]
    refine set_key hd1 (by exact Nat.lt_of_le_of_lt (by assumption) (by lia)) (by simp) ?_
    have ha2 : (upd H1 rd (.dict (mm + 1) fun x => if x = keyN T l p then some (V.int p) else ff x)) a = some (.inst 2 (tfF T w ch l (p + 1) r rd sm gr)) := (upd_ne _ _ n2).trans ha1
    refine m_inst ha2 (by decide) (by decide) rfl rfl ?_
    simp
    refine c_part C (by omega) ha2 ⟨n3, n4, n10⟩ hz hp hch ⟨(upd_ne _ _ (fun q => n8 q.symm)).trans hs1, (upd_ne _ _ (fun q => n9 q.symm)).trans hg1, fun _ _ _ => rfl⟩ t5 t6 u2 u3.heap u3.ord (fun y hy => (u3.mem y hy).1) (fun s' g' Lt Rt H' A' f => ?_)
    have keep : ∀ b, b ≠ a → b ≠ rd → b ≠ sm → b ≠ gr → H' b = H b := fun b b1 b2 b3 b4 => by rw [A'.o b b3 b4, upd_ne _ _ b2, ho1 b b1]
    refine hq H' ⟨?_, ?_, ⟨mm + 1, (fun x => if x = keyN T l p then some (V.int p) else ff x), s', g', fun κ => if κ = keyN T l p then .node Lt p Rt else t κ, ?_, by exact Nat.succ_le_succ (by assumption), A'.s, A'.g, f.len.1.trans t5, f.len.2.trans t6, fun κ => ?_, fun y hy hy' => ?_⟩, x.ne⟩ (fun b hb => ?_)
    · rw [A'.o a n3 n4, ha2, hcast]
    · rw [keep r (fun q => n1 q.symm) n5 n6 n7]; exact x.row
    · rw [A'.o rd n8 n9]; exact upd_same _ _ _
    · by_cases hκ : κ = keyN T l p
      · subst hκ
        refine ⟨by simp [BT.root], ?_, ?_⟩
        · dsimp only
          rw [if_pos rfl]
          exact ⟨f.clo, f.chi, f.rep.1, f.rep.2⟩
        · dsimp only
          rw [if_pos rfl]
          have subm : ∀ y, Lt.Mem y ∨ Rt.Mem y → (t (keyN T l p)).Mem y := fun y hy => hy.elim (f.sub.1 y) (f.sub.2 y)
          refine ⟨fun y hy => ?_, ⟨fun y hy => (u3.mem y (f.sub.1 y hy)).1, fun y hy => (u3.mem y (f.sub.2 y hy)).1, f.apart, f.heap.1, f.heap.2⟩, ⟨fun y hy => le_weaken (f.les.1 y hy) weak, fun y hy => le_weaken (f.les.2 y hy) weak, Ord_weaken weak f.ord.1, Ord_weaken weak f.ord.2⟩, fun q q1 q2 q3 q4 => ?_⟩
          · rcases hy with rfl | hy | hy
            · exact ⟨by exact Nat.lt_succ_self _, hpl, rfl⟩
            · obtain ⟨a1, a2, a3⟩ := u3.mem y (f.sub.1 y hy); exact ⟨by exact Nat.le_succ_of_le (by assumption), a2, a3⟩
            · obtain ⟨a1, a2, a3⟩ := u3.mem y (f.sub.2 y hy); exact ⟨by exact Nat.le_succ_of_le (by assumption), a2, a3⟩
          · by_cases hqp : q = p
            · subst hqp; exact ⟨q, .inl rfl, Nat.le_refl _, fun _ _ => rfl⟩
            · obtain ⟨y, y1, y2, y3⟩ := u3.cov q (by lia) q2 q3 (by lia)
              rcases f.cov y y1 (by lia) with h | h | h
              · exact ⟨y, .inr (.inl h), y2, y3.le weak⟩
              · exact ⟨y, .inr (.inr h), y2, y3.le weak⟩
              · exact ⟨p, .inl rfl, by exact Nat.le_of_lt_succ (by assumption), (h.trans y3).le weak⟩
      · obtain ⟨v1, v2, v3⟩ := t7 κ
        refine ⟨by simp only [if_neg hκ]; exact v1, ?_, ?_⟩
        · dsimp only
          rw [if_neg hκ]
          refine Rep_cells v2 fun y b hy => f.old y b (fun hy' => hκ ?_) (fun e => ?_) (fun e => ?_)
          · rw [← (v3.mem y hy).2.2, (u3.mem y hy').2.2]
          · cases e; have := (v3.mem p hy).1; lia
          · cases e; have := (v3.mem p hy).1; lia
        · dsimp only
          rw [if_neg hκ]
          refine ⟨fun y hy => by obtain ⟨a1, a2, a3⟩ := v3.mem y hy; exact ⟨by exact Nat.le_succ_of_le (by assumption), a2, a3⟩, v3.heap, Ord_weaken weak v3.ord, fun q q1 q2 q3 q4 => ?_⟩
          have hqp : q ≠ p := fun e => hκ (by rw [← q3, e])
          obtain ⟨y, y1, y2, y3⟩ := v3.cov q (by lia) q2 q3 (by lia)
          exact ⟨y, y1, y2, y3.le weak⟩
    · have hnm : ¬ (t (keyN T l p)).Mem y := fun h => by have := (u3.mem y h).1; lia
      have c1 := f.old y false hnm (fun e => by cases e; lia) (fun e => by cases e)
      have c2 := f.old y true hnm (fun e => by cases e) (fun e => by cases e; lia)
      obtain ⟨d1, d2⟩ := t8 y (by exact Nat.le_of_lt (by assumption)) hy'
      exact ⟨c1.trans d1, c2.trans d2⟩
    · simp at hb
      exact keep b hb.1 hb.2.2.1 hb.2.2.2.1 hb.2.2.2.2
  · simp
    refine hq H1 ⟨by rw [ha1, hcast], hr1, ⟨mm, ff, s, g, t, hd1, by exact Nat.le_succ_of_le (by assumption), hs1, hg1, t5, t6, fun κ => ?_, fun y hy hy' => t8 y (by exact Nat.le_of_lt (by assumption)) hy'⟩, x.ne⟩ (fun b hb => ho1 b (fun q => by simp at hb; exact hb.1 q))
    obtain ⟨v1, v2, v3⟩ := t7 κ
    refine ⟨v1, v2, fun y hy => by obtain ⟨a1, a2, a3⟩ := v3.mem y hy; exact ⟨by exact Nat.le_succ_of_le (by assumption), a2, a3⟩, v3.heap, Ord_weaken weak v3.ord, fun q q1 q2 q3 q4 => ?_⟩
    have hqp : q ≠ p := fun e => hpl (by exact absurd (by lia) (by assumption))
    obtain ⟨y, y1, y2, y3⟩ := v3.cov q (by lia) q2 q3 (by lia)
    exact ⟨y, y1, y2, y3.le weak⟩
end
end Mine
end
-- part K14
section
open PySem PySem.Calls PyProof.Rows PySem.W
set_option maxHeartbeats 4000000
set_option maxRecDepth 100000
namespace Mine
theorem F2.keep {H H' : MH} {a : Addr} {T : List Int} {w ch : Int} {l ah : Nat} {r L B rd sm gr : Addr} (x : F2 H a T w ch l ah r L B rd sm gr) (h : ∀ b ∈ [a, r, rd, sm, gr], H' b = H b) : F2 H' a T w ch l ah r L B rd sm gr :=
  ⟨(h _ (by simp)).trans x.h, (h _ (by simp)).trans x.row, x.tr.imp fun _ k => k.imp fun _ k => k.imp fun _ k => k.imp fun _ k => k.imp fun _ k => ⟨(h _ (by simp)).trans k.1, k.2.1, (h _ (by simp)).trans k.2.2.1, (h _ (by simp)).trans k.2.2.2.1, k.2.2.2.2⟩, x.ne⟩
theorem F2.here {H : MH} {a : Addr} {T : List Int} {w ch : Int} {l ah : Nat} {r L B rd sm gr : Addr} (x : F2 H a T w ch l ah r L B rd sm gr) : ∀ b ∈ [a, r, rd, sm, gr], ∃ o, H b = some o ∧ ∀ xs, o ≠ .tup xs := fun b hb => by
  obtain ⟨m, f, s, g, t, h1, h2, h3, h4, _⟩ := x.tr
  simp at hb
  rcases hb with rfl | rfl | rfl | rfl | rfl
  · exact ⟨_, x.h, fun _ => nofun⟩
  · exact ⟨_, x.row, fun _ => nofun⟩
  · exact ⟨_, h1, fun _ => nofun⟩
  · exact ⟨_, h3, fun _ => nofun⟩
  · exact ⟨_, h4, fun _ => nofun⟩
theorem fin2 {G : Gd} (C : Cx G) {n : Nat} {a r L B rd sm gr : Addr} {T : List Int} {l : Nat} {w ch : Int} (hn : 4 ≤ n) (hz : T.length ≤ 4000) (hl : 1 ≤ l) (hch : (T.length : Int) < ch) :
    FinOK G n 2 (fun H p => F2 H a T w ch l p r L B rd sm gr) a T w ch l [a, r, rd, sm, gr] where
  keep := fun x h => x.keep h
  here := fun x => x.here
  mf := fun x => ⟨_, x.mf (by have : big = 16777216 := rfl; lia)⟩
  mem := by simp
  l1 := hl
  every := fun x hp hq => c_every2 C hn x hz hl hp hch fun b ms vs H' h1 h2 h3 h4 h5 h6 => hq b ms vs H' h1 h2 h3 h4 (by exact easy (by assumption) rfl) h6
  put := fun x hp hq => c_put2 C hn x hp hz hch fun H' h1 h2 => hq H' h1 fun b hb _ => h2 b hb
end Mine
end
-- part K15
section
open PySem PySem.Calls PyProof.Rows PySem.W
set_option maxHeartbeats 4000000
set_option maxRecDepth 100000
namespace Mine

structure F3 (H : MH) (a : Addr) (T : List Int) (w ch : Int) (ah : Nat) (rl r1 L1 B1 r2 L2 B2 ta tr TL TB rd sm gr : Addr) : Prop where
  h : H a = some (.inst 3 [(0, .bytes T), (4, .int (2 : Nat)), (5, .int w), (6, .int ch), (7, .int ah), (12, .ref rl), (13, .ref ta)])
  rows : H rl = some (.list [.ref r1, .ref r2])
  row1 : PR H r1 T 2 ah L1 B1
  row2 : PR H r2 T 3 ah L2 B2
  tree : F2 H ta T w ch 4 ah tr TL TB rd sm gr
  ne : [a, rl, r1, L1, B1, r2, L2, B2, ta, tr, rd, sm, gr].Nodup
theorem F3.mf {H : MH} {a : Addr} {T : List Int} {w ch : Int} {ah : Nat} {rl r1 L1 B1 r2 L2 B2 ta tr TL TB rd sm gr : Addr} (x : F3 H a T w ch ah rl r1 L1 B1 r2 L2 B2 ta tr TL TB rd sm gr) (hz : T.length ≤ big) :
    MF H a 3 [(0, .bytes T), (4, .int (2 : Nat)), (5, .int w), (6, .int ch), (7, .int ah), (12, .ref rl), (13, .ref ta)] T (2 : Nat) w ch ah :=
  ⟨x.h, .inr (.inr rfl), rfl, rfl, rfl, rfl, rfl, fget_ge (by simp), hz, by show 7 ≤ 20; decide⟩
theorem F3.sub {H H' : MH} {a : Addr} {T : List Int} {w ch : Int} {ah : Nat} {rl r1 L1 B1 r2 L2 B2 ta tr TL TB rd sm gr : Addr} (s : Sub H H') (x : F3 H a T w ch ah rl r1 L1 B1 r2 L2 B2 ta tr TL TB rd sm gr) : F3 H' a T w ch ah rl r1 L1 B1 r2 L2 B2 ta tr TL TB rd sm gr :=
  ⟨s _ _ x.h, s _ _ x.rows, x.row1.sub s, x.row2.sub s, x.tree.sub s, x.ne⟩

structure Ly (T : List Int) (w : Int) (p lim : Nat) (la : Nat) (ms : List (Int × Int)) : Prop where
  ok : ∀ m ∈ ms, ((2 : Nat) : Int) ≤ m.1 ∧ m.1 ≤ lim ∧ 1 ≤ m.2 ∧ m.2 ≤ p ∧ m.2 ≤ w ∧ agree T p (p - m.2.toNat) m.1.toNat
  lst : (ms = [] ∧ la = 1) ∨ ∃ m, ms.getLast? = some m ∧ m.1 = la
theorem Ly.ge {T : List Int} {w : Int} {p lim la : Nat} {ms : List (Int × Int)} (e : Ly T w p lim la ms) : 1 ≤ la := by
  rcases e.lst with ⟨_, h⟩ | ⟨m, h, h2⟩
  · lia
  · have := (e.ok m (List.mem_of_getLast? h)).1
    lia
theorem Ly.push {T : List Int} {w : Int} {p lim la : Nat} {ms : List (Int × Int)} (e : Ly T w p lim la ms) {c d : Int} (hc : (la : Int) < c) (hl : c ≤ lim) (h1 : 1 ≤ d) (h2 : d ≤ p) (h3 : d ≤ w) (ha : agree T p (p - d.toNat) c.toNat) : Ly T w p lim c.toNat (ms ++ [(c, d)]) := by
  have := e.ge
  refine ⟨fun m hm => ?_, .inr ⟨_, List.getLast?_concat, by show c = _; lia⟩⟩
  rcases List.mem_append.mp hm with h | h
  · exact e.ok m h
  · have : m = (c, d) := by simpa using h
    subst this
    exact ⟨by show ((2 : Nat) : Int) ≤ c; lia, hl, h1, h2, h3, ha⟩

theorem fold_inj : ∀ {xs ys : List Int} {a b : Int}, xs.length = ys.length → (∀ x ∈ xs, 0 ≤ x ∧ x < 256) → (∀ x ∈ ys, 0 ≤ x ∧ x < 256) → fold256 xs a = fold256 ys b → a = b ∧ xs = ys
  | [], [], _, _, _, _, _, h => ⟨h, rfl⟩
  | [], _ :: _, _, _, h, _, _, _ => by cases h
  | _ :: _, [], _, _, h, _, _, _ => by cases h
  | x :: xs, y :: ys, a, b, hl, hx, hy, h => by
    have h' : fold256 xs (a * 256 + x) = fold256 ys (b * 256 + y) := h
    obtain ⟨e1, e2⟩ := fold_inj (Nat.succ.inj hl) (fun z hz => hx z (List.mem_cons_of_mem _ hz)) (fun z hz => hy z (List.mem_cons_of_mem _ hz)) h'
    have := hx x List.mem_cons_self
    have := hy y List.mem_cons_self
    have e3 : x = y := by lia
    have e4 : a = b := by lia
    exact ⟨e4, by rw [e2, e3]⟩
theorem key_agree {T : List Int} {z p q : Nat} (hT : ∀ x ∈ T, 0 ≤ x ∧ x < 256) (h : keyN T z q = keyN T z p) (hp : p + z ≤ T.length) (hq : q + z ≤ T.length) : agree T p q z := by
  obtain ⟨_, e⟩ := fold_inj (by simp; lia) (fun x hx => hT x (List.mem_of_mem_drop (List.mem_of_mem_take hx))) (fun x hx => hT x (List.mem_of_mem_drop (List.mem_of_mem_take hx))) h
  intro i hi
  have e1 : ((T.drop q).take z)[i]? = ((T.drop p).take z)[i]? := by rw [e]
  simp only [List.getElem?_take, List.getElem?_drop, if_pos hi] at e1
  simp only [oct, List.getD_eq_getElem?_getD, e1]
theorem nd_every3 : p_LayeredFinder_every_ln.Nodup := by decide +kernel
section
variable {G : Gd} (C : Cx G) {n : Nat} {Q : V → MH → Prop} {H : MH} {a rl r1 L1 B1 r2 L2 B2 ta tr TL TB rd sm gr f r L B : Addr} {T : List Int} {p lim z : Nat} {w ch : Int} {m : V}
include C
theorem l_row3 {K : Fl → List V → MH → Prop} (hn : 3 ≤ n) (x : F3 H a T w ch p rl r1 L1 B1 r2 L2 B2 ta tr TL TB rd sm gr) (hz : T.length ≤ 4000) (hp : p ≤ T.length) (hlim : p + lim ≤ T.length) (hfn : H f = none) (hr : PR H r T z p L B) (hT : ∀ x ∈ T, 0 ≤ x ∧ x < 256)
    (la : Nat) (ms : List (Int × Int)) (vs : List V) (o7 o8 o9 : V) (H' : MH) (hs : Sub H H') (hf : H' f = some (.list vs)) (ht : Tups H' vs ms) (hv : vs.length ≤ 4) (he : Ly T w p lim la ms)
    (hK : ∀ la' ms' vs' o7 o8 o9 H'', Sub H H'' → H'' f = some (.list vs') → Tups H'' vs' ms' → vs'.length ≤ vs.length + 1 → Ly T w p lim la' ms' → la ≤ la' → (∀ q : Nat, q < p → (p : Int) - q ≤ w → z ≤ lim → agree T p q z → z ≤ la') →
      K .next [.ref a, .int p, m, .int lim, .ref r, .ref f, .int la', o7, o8, o9] H'') :
    wB G p_LayeredFinder_every_ln n p_LayeredFinder_every_fb1 [.ref a, .int p, m, .int lim, .ref r, .ref f, .int la, o7, o8, o9] K H' := by
  have hbg : big = 16777216 := rfl
  have x' := x.sub hs
  have hr' := hr.sub hs
  unfold p_LayeredFinder_every_fb1
  refine wB_step ?_
  simp [-xB_cons, -xB_nil]
  refine m_inst hr'.h (by decide) (by decide) rfl rfl ?_
  simp [-xB_cons, -xB_nil]
  refine c_newest C (by exact Nat.le_of_lt (by assumption)) hr' hp (by exact easy (by assumption) rfl) ?_
  simp [-xB_cons, -xB_nil]
  refine wB_step ?_
  simp [-xB_cons, -xB_nil]
  refine m_inst x'.h (by decide) (by decide) rfl rfl ?_
  simp [-xB_cons, -xB_nil]
  refine c_is_near C (by exact easy' (by assumption) rfl) (x'.mf (by exact easy (by assumption) rfl)) (fun hne hw => ?_) (fun hnw => ?_)
  · simp [-xB_cons, -xB_nil]
    split at hne
    case isFalse => exact absurd rfl hne
    rename_i hpl
    rw [if_pos hpl] at hw ⊢
    rcases lastK_is T z (keyN T z p) p with h | ⟨q, q1, q2, q3, q4⟩
    · exact absurd h hne
    rw [q2] at hw ⊢
    refine wB_step ?_
    simp [-xB_cons, -xB_nil]
    refine m_inst x'.h (by decide) (by decide) rfl rfl ?_
    simp [-xB_cons, -xB_nil]
    refine c_alike C (known := 0) (by exact easy' (by assumption) rfl) (x'.mf (by exact easy (by assumption) rfl)) (Nat.zero_le _) hlim (by lia) (fun i hi => by exact absurd (by assumption) (by lia)) fun c c1 c2 c3 c4 => ?_
    simp [-xB_cons, -xB_nil]
    refine wB_step ?_
    simp [-xB_cons, -xB_nil]
    have keyc : z ≤ lim → z ≤ c := fun hzl => by
      rcases Nat.lt_or_ge c z with h | h
      · have := key_agree hT q4 hpl (by omega) c h
        exact absurd this (c4 (by exact Nat.lt_of_lt_of_le (by assumption) (by assumption)))
      · exact h
    refine ⟨fun hgt => ?_, fun hle => ?_⟩
    · refine wB_step ?_
      simp [-xB_cons, -xB_nil]
      refine m_app hf ?_
      simp [-xB_cons, -xB_nil]
      refine ⟨by decide, fun t ht' => ?_⟩
      have htf : f ≠ t := ne_of ht' hf
      refine app_to ((upd_ne _ _ htf).trans hf) (by exact Nat.lt_of_le_of_lt (by assumption) (by lia)) (by simp) ?_
      have s1 : Sub H (upd H' t (.tup [.int c, .int (p - q)])) := fun z o hz' => by rw [upd_ne _ _ (fun e => by rw [e, hs.none ht'] at hz'; cases hz')]; exact hs z o hz'
      refine wB_step ?_
      simp [-xB_cons, -xB_nil, wB_nil]
      have e1 : ((p : Int) - q).toNat = p - q := by exact Int.toNat_sub _ _
      have := hK c (ms ++ [((c : Int), (p : Int) - q)]) (vs ++ [.ref t]) (.int q) (.int c) o9 _ (sub_updNew s1 hfn _) (upd_same _ _ _) ?_ (by simp) ?_ (by exact Nat.le_of_lt (by assumption)) (fun q' _ _ hzl _ => keyc hzl)
      · simpa using this
      · refine tups_upd (fun x h => by rw [upd_ne _ _ htf, hf] at h; cases h) (Tups.snoc (m := ((c : Int), (p : Int) - q)) (upd_same _ _ _) (tups_upd (fun x h => by rw [ht'] at h; cases h) ht))
      · have := he.push (c := c) (d := (p : Int) - q) (by exact Int.ofNat_lt.mpr (by assumption)) (by exact Int.ofNat_le.mpr (by assumption)) (by lia) (by lia) hw (by rw [e1, show p - (p - q) = q by exact Nat.sub_sub_self (Nat.le_of_lt (by assumption))]; exact c3)
        simpa using this
    · simp [wB_nil]
      have := hK la ms vs (.int q) (.int c) o9 H' hs hf ht (by exact Nat.le_succ _) he (Nat.le_refl _) (fun q' _ _ hzl _ => by have := keyc hzl; lia)
      simpa using this
  · simp [wB_nil]
    refine hK la ms vs _ o8 o9 H' hs hf ht (by exact Nat.le_succ _) he (Nat.le_refl _) (fun q q1 q2 q3 q4 => ?_)
    exfalso
    have hpl : p + z ≤ T.length := by lia
    rw [if_pos hpl] at hnw
    have := lastK_max T z (keyN T z p) p q q1 (by lia) (agree_key q4 (Nat.le_refl _) hpl (by lia))
    exact hnw ⟨by lia, by lia⟩
end
end Mine
end
-- part K16
section
open PySem PySem.Calls PyProof.Rows PySem.W
set_option maxHeartbeats 4000000
set_option maxRecDepth 100000
namespace Mine
@[local simp] theorem lkd_16 {α : Type} {x : α} : @lk α ⟨x⟩ = x := rfl
theorem wT_tup {H : MH} {t : Addr} {is : List Nat} {xs fr : List V} {Q : List V → MH → Prop} (h : H t = some (.tup xs)) (hl : xs.length = is.length) (hq : Q (setAll fr is xs) H) : wT (.tup is) (.ref t) fr Q H := by
  show vRef (.ref t) (fun a => hTup (H a) fun xs => xs.length = is.length ∧ Q (setAll fr is xs) H)
  show hTup (H t) _
  rw [h]
  exact ⟨hl, hq⟩
section
variable {G : Gd} (C : Cx G) {n : Nat} {Q : V → MH → Prop} {H : MH} {a rl r1 L1 B1 r2 L2 B2 ta tr TL TB rd sm gr f b : Addr} {T : List Int} {p lim : Nat} {w ch : Int} {m : V}
theorem l_tree3 {K : Fl → List V → MH → Prop} {tms : List (Int × Int)} {tvs : List V} (hfn : H f = none) (hb4 : tvs.length ≤ 4000) (hres : Res T w p lim 4 tms)
    (la0 : Nat) (hK2 : ∀ la' ms' vs' o7 o8 o9 H'', Sub H H'' → H'' f = some (.list vs') → Tups H'' vs' ms' → vs'.length ≤ 4004 → Ly T w p lim la' ms' → (∀ x ∈ tms, x.1 ≤ la') → la0 ≤ la' →
      K .next [.ref a, .int p, m, .int lim, .ref r2, .ref f, .int la', o7, o8, o9] H'') :
    ∀ (j i : Nat) (la : Nat) (ms : List (Int × Int)) (vs : List V) (o7 o8 o9 : V) (H' : MH), j + i = tvs.length → Sub H H' → H' f = some (.list vs) → b ≠ f → H' b = some (.list tvs) → Tups H' tvs tms → Tups H' vs ms → vs.length ≤ i + 4 → Ly T w p lim la ms → la0 ≤ la → (∀ k x, k < i → tms[k]? = some x → x.1 ≤ la) →
      WFor G p_LayeredFinder_every_ln n (.tup [8, 9]) p_LayeredFinder_every_fb0 (.lst b i) [.ref a, .int p, m, .int lim, .ref r2, .ref f, .int la, o7, o8, o9] K H' := by
  have hbg : big = 16777216 := rfl
  intro j
  induction j with
  | zero =>
    intro i la ms vs o7 o8 o9 H' hi hs hf hbf hb htt ht hv he hla hdone
    refine WFor.step nd_every3 ?_
    have : tvs[i]? = none := by rw [List.getElem?_eq_none_iff]; lia
    simp only [Src.next, hb, this, Option.map_none]
    refine hK2 la ms vs o7 o8 o9 H' hs hf ht (by exact Nat.le_trans (by assumption) (by lia)) he (fun x hx => ?_) hla
    obtain ⟨k, hk, e⟩ := List.mem_iff_getElem.mp hx
    have hl := htt.length
    exact hdone k x (by exact Nat.lt_of_lt_of_le (by assumption) (by lia)) (by rw [List.getElem?_eq_getElem hk, e])
  | succ j ih =>
    intro i la ms vs o7 o8 o9 H' hi hs hf hbf hb htt ht hv he hla hdone
    refine WFor.step nd_every3 ?_
    have hl := htt.length
    have hlt : i < tms.length := by lia
    obtain ⟨t, t1, t2⟩ := htt.at (List.getElem?_eq_getElem hlt)
    simp only [Src.next, hb, t1, Option.map_some]
    refine wT_tup t2 rfl ?_
    obtain ⟨c, hc⟩ : ∃ c, c = tms[i] := ⟨_, rfl⟩
    rw [← hc]
    obtain ⟨k1, k2, k3, k4, k5, k6⟩ := hres.ok c (by rw [hc]; exact List.getElem_mem hlt)
    have done' : ∀ la', la ≤ la' → c.1 ≤ (la' : Int) → ∀ k x, k < i + 1 → tms[k]? = some x → x.1 ≤ (la' : Int) := fun la' h1 h2 k x hk hx => by
      rcases Nat.lt_or_ge k i with h | h
      · have := hdone k x h hx; lia
      · have : k = i := by lia
        subst this
        rw [List.getElem?_eq_getElem hlt] at hx
        cases hx
        rw [← hc]; exact h2
    unfold p_LayeredFinder_every_fb0
    refine wB_step ?_
    simp [-xB_cons, -xB_nil]
    refine ⟨fun hgt => ?_, fun hle => ?_⟩
    · refine wB_step ?_
      simp [-xB_cons, -xB_nil]
      refine m_app hf ?_
      simp [-xB_cons, -xB_nil]
      refine ⟨by decide, fun t ht' => ?_⟩
      have htf : f ≠ t := ne_of ht' hf
      refine app_to ((upd_ne _ _ htf).trans hf) (by exact Nat.lt_of_le_of_lt (by assumption) (by lia)) (by simp) ?_
      have s1 : Sub H (upd H' t (.tup [.int c.1, .int c.2])) := fun z o hz' => by rw [upd_ne _ _ (fun e => by rw [e, hs.none ht'] at hz'; cases hz')]; exact hs z o hz'
      refine wB_step ?_
      simp [-xB_cons, -xB_nil]
      have cn : ((c.1.toNat : Nat) : Int) = c.1 := by exact Int.toNat_of_nonneg (by lia)
      have tk : ∀ {us : List V} {ns : List (Int × Int)} {o : MO}, Tups H' us ns → Tups (upd (upd H' t (.tup [.int c.1, .int c.2])) f o) us ns := fun h => tups_upd (fun x h => by rw [upd_ne _ _ htf, hf] at h; cases h) (tups_upd (fun x h => by rw [ht'] at h; cases h) h)
      have := ih (i + 1) c.1.toNat (ms ++ [c]) (vs ++ [.ref t]) o7 (.int c.1) (.int c.2) (upd (upd H' t (.tup [.int c.1, .int c.2])) f (.list (vs ++ [.ref t]))) (by lia) (sub_updNew s1 hfn _) (upd_same _ _ _) hbf (by rw [upd_ne _ _ hbf, upd_ne _ _ (ne_of ht' hb)]; exact hb) (tk htt) (tups_upd (fun x h => by rw [upd_ne _ _ htf, hf] at h; cases h) (Tups.snoc (m := c) (upd_same _ _ _) (tups_upd (fun x h => by rw [ht'] at h; cases h) ht))) (by simp; omega) (he.push (by omega) k2 k3 k4 k5 k6) (by exact Nat.le_trans (by assumption) (by lia)) (done' c.1.toNat (by lia) (by lia))
      rw [cn] at this
      exact this
    · exact ih (i + 1) la ms vs o7 (.int c.1) (.int c.2) H' (by lia) hs hf hbf hb htt ht (by exact Nat.le_succ_of_le (by assumption)) he hla (done' la (Nat.le_refl _) hle)
end
end Mine
end
-- part K17
section
open PySem PySem.Calls PyProof.Rows PySem.W
set_option maxHeartbeats 4000000
set_option maxRecDepth 100000
namespace Mine
section
variable {G : Gd} (C : Cx G) {n : Nat} {Q : V → MH → Prop} {H : MH} {a rl r1 L1 B1 r2 L2 B2 ta tr TL TB rd sm gr : Addr} {T : List Int} {p : Nat} {w ch : Int}
include C
theorem c_every3 {m : Nat} (hn : 5 ≤ n) (x : F3 H a T w ch p rl r1 L1 B1 r2 L2 B2 ta tr TL TB rd sm gr) (hz : T.length ≤ 4000) (hT : ∀ x ∈ T, 0 ≤ x ∧ x < 256) (hp : p ≤ T.length) (hch : (T.length : Int) < ch)
    (hq : ∀ b ms vs H', Sub H H' → H b = none → H' b = some (.list vs) → Tups H' vs ms → vs.length ≤ 4004 → Res T w p (min m (T.length - p)) 2 ms → Q (.ref b) H') : WCall G n (.meth 3 32) [.ref a, .int p, .int m] Q H := by
  obtain ⟨k, rfl, hk⟩ := pred_of hn
  have hbg : big = 16777216 := rfl
  refine WCall.intro (C.at 36 rfl) ?_
  have e : fr0 p_LayeredFinder_every_ln [.ref a, .int p, .int m] = [.ref a, .int p, .int m, .odd, .odd, .odd, .odd, .odd, .odd, .odd] := rfl
  rw [e]
  have elim : min (m : Int) (T.length - p) = ((min m (T.length - p) : Nat) : Int) := by exact min_cast (by lia)
  obtain ⟨lim, hlim⟩ : ∃ lim, lim = min m (T.length - p) := ⟨_, rfl⟩
  rw [← hlim] at elim hq
  unfold p_LayeredFinder_every
  refine wB_step ?_
  simp [-xB_cons, -xB_nil]
  refine m_inst x.h (by decide) (by decide) rfl rfl ?_
  simp [-xB_cons, -xB_nil]
  refine c_limit C (by exact easy' (by assumption) rfl) (x.mf (by exact easy (by assumption) rfl)) ?_
  simp [-xB_cons, -xB_nil]
  rw [elim, wB_cons]; clear elim
  simp [-xB_cons, -xB_nil]
  intro f hf
  have hs : Sub H (upd H f (.list [])) := Sub.fresh hf _
  have x' := x.sub hs
  simp [-xB_cons, -xB_nil, x'.h, fget]
  refine ⟨by decide, ?_⟩
  refine wB_step ?_
  simp [-xB_cons, -xB_nil, x'.h, fget, srcOf_l x'.rows]
  refine WFor.step nd_every3 ?_
  simp only [Src.next, x'.rows]
  simp [-xB_cons, -xB_nil]
  refine l_row3 C (by exact Nat.le_of_lt (by assumption)) x hz hp (by lia) hf x.row1 hT 1 [] [] .odd .odd .odd _ hs (upd_same _ _ _) trivial (by simp) ⟨(fun _ h => nomatch h), .inl ⟨rfl, rfl⟩⟩ (fun la1 ms1 vs1 o7 o8 o9 H1 s1 f1 t1 v1 e1 g1 d1 => ?_)
  have x1 := x.sub s1
  try dsimp only
  simp [-xB_cons, -xB_nil]
  refine WFor.step nd_every3 ?_
  simp only [Src.next, x1.rows]
  simp [-xB_cons, -xB_nil]
  refine l_row3 C (by exact Nat.le_of_lt (by assumption)) x hz hp (by lia) hf x.row2 hT la1 ms1 vs1 o7 o8 o9 H1 s1 f1 t1 (by simp at v1; exact easy (by assumption) rfl) e1 (fun la2 ms2 vs2 o7 o8 o9 H2 s2 f2 t2 v2 e2 g2 d2 => ?_)
  have x2 := x.sub s2
  try dsimp only
  simp [-xB_cons, -xB_nil]
  refine WFor.step nd_every3 ?_
  simp only [Src.next, x2.rows]
  simp [-xB_cons, -xB_nil]
  refine wB_step ?_
  simp [-xB_cons, -xB_nil, x2.h, fget]
  refine m_inst x2.tree.h (by decide) (by decide) rfl rfl ?_
  simp [-xB_cons, -xB_nil]
  refine c_every2 C (by omega) x2.tree hz (by decide) hp hch fun b tms tvs H3 s3 hb hb' htt hv4 hres => ?_
  rw [← hlim] at hres
  have hfb : H3 f = some (.list vs2) := s3 _ _ f2
  have hbf : b ≠ f := fun q => by rw [q, f2] at hb; cases hb
  simp [-xB_cons, -xB_nil, srcOf_l hb']
  have v1' : vs1.length ≤ 1 := by simpa using v1
  have fin : ∀ la' ms' vs' H'', Sub H H'' → H'' f = some (.list vs') → Tups H'' vs' ms' → vs'.length ≤ 4004 → Ly T w p lim la' ms' → (∀ x ∈ tms, x.1 ≤ la') → la2 ≤ la' → Q (.ref f) H'' := by
    intro la' ms' vs' H'' a1 a2 a3 a4 a5 a6 a7
    refine hq f ms' vs' H'' a1 hf a2 a3 a4 ⟨a5.ok, fun q c q1 q2 q3 q4 q5 => ?_⟩
    have hc : c ≤ la' := by
      rcases Nat.lt_or_ge c 4 with h | h
      · rcases Nat.lt_or_ge c 3 with h3 | h3
        · have := d1 q q1 q2 (by exact Nat.le_trans (by assumption) (by assumption)) (q5.le (by omega)); lia
        · have := d2 q q1 q2 (by exact Nat.le_trans (by assumption) (by assumption)) (q5.le (by omega)); lia
      · obtain ⟨m', h1, h2⟩ := hres.top q c q1 q2 q3 h q5
        have := a6 m' (List.mem_of_getLast? h1); lia
    rcases a5.lst with ⟨_, h'⟩ | ⟨m', h', h2⟩
    · lia
    · exact ⟨m', h', by lia⟩
  refine l_tree3 (H := H) hf hv4 hres la2 (fun la' ms' vs' o7 o8 o9 H'' a1 a2 a3 a4 a5 a6 a7 => ?_) tvs.length 0 la2 ms2 vs2 o7 o8 o9 H3 (by exact Int.toNat_natCast _) (s2.trans s3) hfb hbf hb' htt (t2.keep fun t x e => s3 _ _ e) (by exact Nat.le_trans (by assumption) (by lia)) e2 (Nat.le_refl _) (fun k x hk _ => by exact absurd (by lia) (by assumption))
  simp
  exact fin la' ms' vs' H'' a1 a2 a3 a4 a5 a6 a7
end
end Mine
end
-- part K18
section
open PySem PySem.Calls PyProof.Rows PySem.W
set_option maxHeartbeats 4000000
set_option maxRecDepth 100000
namespace Mine
@[local simp] theorem lkd_18 {α : Type} {x : α} : @lk α ⟨x⟩ = x := rfl
theorem nodup_at {l : List Addr} (h : l.Nodup) (i j : Nat) (hi : i < l.length) (hj : j < l.length) (hij : i ≠ j) : l[i] ≠ l[j] := by
  have p := List.pairwise_iff_getElem.mp h
  rcases Nat.lt_or_ge i j with q | q
  · exact p i j hi hj q
  · exact (p j i hj hi (by lia)).symm
section
variable {H : MH} {a rl r1 L1 B1 r2 L2 B2 ta tr TL TB rd sm gr : Addr} {T : List Int} {p : Nat} {w ch : Int}
theorem F3.keep {H' : MH} (x : F3 H a T w ch p rl r1 L1 B1 r2 L2 B2 ta tr TL TB rd sm gr) (h : ∀ b ∈ [a, rl, r1, L1, B1, r2, L2, B2, ta, tr, rd, sm, gr], H' b = H b) : F3 H' a T w ch p rl r1 L1 B1 r2 L2 B2 ta tr TL TB rd sm gr :=
  ⟨(h _ (by simp)).trans x.h, (h _ (by simp)).trans x.rows, x.row1.keep (h _ (by simp)) (h _ (by simp)) (h _ (by simp)), x.row2.keep (h _ (by simp)) (h _ (by simp)) (h _ (by simp)), x.tree.keep (fun b hb => h b (List.mem_append_right [a, rl, r1, L1, B1, r2, L2, B2] hb)), x.ne⟩
theorem F3.here (x : F3 H a T w ch p rl r1 L1 B1 r2 L2 B2 ta tr TL TB rd sm gr) : ∀ b ∈ [a, rl, r1, L1, B1, r2, L2, B2, ta, tr, rd, sm, gr], ∃ o, H b = some o ∧ ∀ xs, o ≠ .tup xs := fun b hb => by
  obtain ⟨m1, f1, h1, _⟩ := x.row1.d
  obtain ⟨m2, f2, h2, _⟩ := x.row2.d
  obtain ⟨b1, g1, _⟩ := x.row1.b
  obtain ⟨b2, g2, _⟩ := x.row2.b
  have tt := x.tree.here
  simp only [List.mem_cons, List.not_mem_nil, or_false] at hb tt
  rcases hb with rfl | rfl | rfl | rfl | rfl | rfl | rfl | rfl | hb
  · exact ⟨_, x.h, fun _ => nofun⟩
  · exact ⟨_, x.rows, fun _ => nofun⟩
  · exact ⟨_, x.row1.h, fun _ => nofun⟩
  · exact ⟨_, h1, fun _ => nofun⟩
  · exact ⟨_, g1, fun _ => nofun⟩
  · exact ⟨_, x.row2.h, fun _ => nofun⟩
  · exact ⟨_, h2, fun _ => nofun⟩
  · exact ⟨_, g2, fun _ => nofun⟩
  · exact tt b hb
end
theorem nd_enter3 : p_LayeredFinder_enter_ln.Nodup := by decide +kernel
section
variable {G : Gd} (C : Cx G) {n : Nat} {Q : V → MH → Prop} {H : MH} {a rl r1 L1 B1 r2 L2 B2 ta tr TL TB rd sm gr : Addr} {T : List Int} {p : Nat} {w ch : Int}
include C
theorem c_put3 (hn : 6 ≤ n) (x : F3 H a T w ch p rl r1 L1 B1 r2 L2 B2 ta tr TL TB rd sm gr) (hp : p < T.length) (hz : T.length ≤ 4000) (hch : (T.length : Int) < ch)
    (hq : ∀ H', F3 H' a T w ch (p + 1) rl r1 L1 B1 r2 L2 B2 ta tr TL TB rd sm gr → (∀ b, b ∉ [a, rl, r1, L1, B1, r2, L2, B2, ta, tr, rd, sm, gr] → H' b = H b) → Q .none H') : WCall G n (.meth 7 26) [.ref a, .int p] Q H := by
  obtain ⟨k, rfl, hk⟩ := pred_of hn
  have hbg : big = 16777216 := rfl
  refine WCall.intro (C.at 20 rfl) ?_
  have e : fr0 p_Matcher_put_ln [.ref a, .int p] = [.ref a, .int p] := rfl
  rw [e]
  have d : ∀ (i j : Nat) (hi : i < 13) (hj : j < 13), i ≠ j → [a, rl, r1, L1, B1, r2, L2, B2, ta, tr, rd, sm, gr][i]'hi ≠ [a, rl, r1, L1, B1, r2, L2, B2, ta, tr, rd, sm, gr][j]'hj := fun i j hi hj => nodup_at x.ne i j hi hj
  simp [p_Matcher_put, x.h, fget]
  refine ⟨by exact easy (by assumption) rfl, hp, fun _ => ?_⟩
  refine setA_of x.h (by decide) (by decide) (by simp) (by simp) ?_
  simp [fput]
  refine m_inst (upd_same _ _ _) (by decide) (by decide) rfl rfl ?_
  simp
  obtain ⟨H1, hH1⟩ : ∃ H1, upd H a (MO.inst 3 [(0, V.bytes T), (4, V.int 2), (5, V.int w), (6, V.int ch), (7, V.int (p + 1)), (12, V.ref rl), (13, V.ref ta)]) = H1 := ⟨_, rfl⟩
  rw [hH1]
  have ha1 : H1 a = some (.inst 3 [(0, V.bytes T), (4, V.int 2), (5, V.int w), (6, V.int ch), (7, V.int (p + 1)), (12, V.ref rl), (13, V.ref ta)]) := by rw [← hH1]; exact upd_same _ _ _
  have ho1 : ∀ b, b ≠ a → H1 b = H b := fun b hb => by rw [← hH1]; exact upd_ne _ _ hb
  obtain ⟨k2, rfl, hk2⟩ := pred_of hk
  refine WCall.intro (C.at 35 rfl) ?_
  have e : fr0 p_LayeredFinder_enter_ln [.ref a, .int p] = [.ref a, .int p, .odd] := rfl
  rw [e]
  have hrl : H1 rl = some (.list [.ref r1, .ref r2]) := (ho1 rl (d 1 0 (by decide) (by decide) (by decide))).trans x.rows
  unfold p_LayeredFinder_enter
  refine wB_step ?_
  simp [-xB_cons, -xB_nil, ha1, fget, srcOf_l hrl]
  refine WFor.step nd_enter3 ?_
  simp only [Src.next, hrl]
  simp [-xB_cons, -xB_nil]
  have row1 : PR H1 r1 T 2 p L1 B1 := x.row1.keep (ho1 _ (d 2 0 (by decide) (by decide) (by decide))) (ho1 _ (d 3 0 (by decide) (by decide) (by decide))) (ho1 _ (d 4 0 (by decide) (by decide) (by decide)))
  unfold p_LayeredFinder_enter_fb0
  refine wB_step ?_
  simp [-xB_cons, -xB_nil]
  refine m_inst row1.h (by decide) (by decide) rfl rfl ?_
  simp [-xB_cons, -xB_nil]
  refine c_rowput C (by exact easy' (by assumption) rfl) row1 hp hz fun H2 x2 o2 => ?_
  rw [wB_nil]
  dsimp only
  have hrl2 : H2 rl = some (.list [.ref r1, .ref r2]) := (o2 rl (d 1 3 (by decide) (by decide) (by decide)) (d 1 4 (by decide) (by decide) (by decide))).trans hrl
  refine WFor.step nd_enter3 ?_
  simp only [Src.next, hrl2]
  simp [-xB_cons, -xB_nil]
  have k2' : ∀ b, b ≠ a → b ≠ L1 → b ≠ B1 → H2 b = H b := fun b h1 h2 h3 => (o2 b h2 h3).trans (ho1 b h1)
  have row2 : PR H2 r2 T 3 p L2 B2 := x.row2.keep (k2' _ (d 5 0 (by decide) (by decide) (by decide)) (d 5 3 (by decide) (by decide) (by decide)) (d 5 4 (by decide) (by decide) (by decide))) (k2' _ (d 6 0 (by decide) (by decide) (by decide)) (d 6 3 (by decide) (by decide) (by decide)) (d 6 4 (by decide) (by decide) (by decide))) (k2' _ (d 7 0 (by decide) (by decide) (by decide)) (d 7 3 (by decide) (by decide) (by decide)) (d 7 4 (by decide) (by decide) (by decide)))
  refine wB_step ?_
  simp [-xB_cons, -xB_nil]
  refine m_inst row2.h (by decide) (by decide) rfl rfl ?_
  simp [-xB_cons, -xB_nil]
  refine c_rowput C (by exact easy' (by assumption) rfl) row2 hp hz fun H3 x3 o3 => ?_
  rw [wB_nil]
  dsimp only
  have hrl3 : H3 rl = some (.list [.ref r1, .ref r2]) := (o3 rl (d 1 6 (by decide) (by decide) (by decide)) (d 1 7 (by decide) (by decide) (by decide))).trans hrl2
  refine WFor.step nd_enter3 ?_
  simp only [Src.next, hrl3]
  simp [-xB_cons, -xB_nil]
  have k3 : ∀ b, b ≠ a → b ≠ L1 → b ≠ B1 → b ≠ L2 → b ≠ B2 → H3 b = H b := fun b h1 h2 h3 h4 h5 => (o3 b h4 h5).trans (k2' b h1 h2 h3)
  have ha3 : H3 a = H1 a := (o3 a (d 0 6 (by decide) (by decide) (by decide)) (d 0 7 (by decide) (by decide) (by decide))).trans (o2 a (d 0 3 (by decide) (by decide) (by decide)) (d 0 4 (by decide) (by decide) (by decide)))
  have x1' : PR H3 r1 T 2 (p + 1) L1 B1 := x2.keep (o3 _ (d 2 6 (by decide) (by decide) (by decide)) (d 2 7 (by decide) (by decide) (by decide))) (o3 _ (d 3 6 (by decide) (by decide) (by decide)) (d 3 7 (by decide) (by decide) (by decide))) (o3 _ (d 4 6 (by decide) (by decide) (by decide)) (d 4 7 (by decide) (by decide) (by decide)))
  have tree3 : F2 H3 ta T w ch 4 p tr TL TB rd sm gr := x.tree.keep fun b hb => by
    simp only [List.mem_cons, List.not_mem_nil, or_false] at hb
    rcases hb with rfl | rfl | rfl | rfl | rfl
    · exact k3 _ (d 8 0 (by decide) (by decide) (by decide)) (d 8 3 (by decide) (by decide) (by decide)) (d 8 4 (by decide) (by decide) (by decide)) (d 8 6 (by decide) (by decide) (by decide)) (d 8 7 (by decide) (by decide) (by decide))
    · exact k3 _ (d 9 0 (by decide) (by decide) (by decide)) (d 9 3 (by decide) (by decide) (by decide)) (d 9 4 (by decide) (by decide) (by decide)) (d 9 6 (by decide) (by decide) (by decide)) (d 9 7 (by decide) (by decide) (by decide))
    · exact k3 _ (d 10 0 (by decide) (by decide) (by decide)) (d 10 3 (by decide) (by decide) (by decide)) (d 10 4 (by decide) (by decide) (by decide)) (d 10 6 (by decide) (by decide) (by decide)) (d 10 7 (by decide) (by decide) (by decide))
    · exact k3 _ (d 11 0 (by decide) (by decide) (by decide)) (d 11 3 (by decide) (by decide) (by decide)) (d 11 4 (by decide) (by decide) (by decide)) (d 11 6 (by decide) (by decide) (by decide)) (d 11 7 (by decide) (by decide) (by decide))
    · exact k3 _ (d 12 0 (by decide) (by decide) (by decide)) (d 12 3 (by decide) (by decide) (by decide)) (d 12 4 (by decide) (by decide) (by decide)) (d 12 6 (by decide) (by decide) (by decide)) (d 12 7 (by decide) (by decide) (by decide))
  refine wB_step ?_
  simp [-xB_cons, -xB_nil, ha3, ha1, fget]
  refine m_inst tree3.h (by decide) (by decide) rfl rfl ?_
  simp [-xB_cons, -xB_nil]
  refine c_put2 C (by omega) tree3 hp hz hch fun H4 x4 o4 => ?_
  rw [wB_nil]
  dsimp only
  have nt : ∀ i : Nat, (hi : i < 8) → [a, rl, r1, L1, B1, r2, L2, B2, ta, tr, rd, sm, gr][i]'(by simp; exact easy (by assumption) rfl) ∉ [ta, tr, rd, sm, gr] := fun i hi hm => by
    simp only [List.mem_cons, List.not_mem_nil, or_false] at hm
    rcases hm with h | h | h | h | h
    · exact d i 8 (by exact easy (by assumption) rfl) (by decide) (by exact Nat.ne_of_lt (by assumption)) h
    · exact d i 9 (by exact easy (by assumption) rfl) (by decide) (by lia) h
    · exact d i 10 (by exact easy (by assumption) rfl) (by decide) (by lia) h
    · exact d i 11 (by exact easy (by assumption) rfl) (by decide) (by lia) h
    · exact d i 12 (by exact easy (by assumption) rfl) (by decide) (by lia) h
  have hcast : ((p + 1 : Nat) : Int) = (p : Int) + 1 := by exact rfl
  refine hq H4 ⟨?_, (o4 rl (nt 1 (by decide))).trans hrl3, x1'.keep (o4 _ (nt 2 (by decide))) (o4 _ (nt 3 (by decide))) (o4 _ (nt 4 (by decide))), x3.keep (o4 _ (nt 5 (by decide))) (o4 _ (nt 6 (by decide))) (o4 _ (nt 7 (by decide))), x4, x.ne⟩ fun b hb => ?_
  · rw [o4 a (nt 0 (by decide)), ha3, ha1, hcast]; rfl
  · simp only [List.mem_cons, List.not_mem_nil, or_false, not_or] at hb
    obtain ⟨b0, b1, b2, b3, b4, b5, b6, b7, b8, b9, b10, b11, b12⟩ := hb
    rw [o4 b (by simp [b8, b9, b10, b11, b12]), k3 b b0 b3 b4 b6 b7]
end
theorem fin3 {G : Gd} (C : Cx G) {n : Nat} {a rl r1 L1 B1 r2 L2 B2 ta tr TL TB rd sm gr : Addr} {T : List Int} {w ch : Int} (hn : 6 ≤ n) (hz : T.length ≤ 4000) (hT : ∀ x ∈ T, 0 ≤ x ∧ x < 256) (hch : (T.length : Int) < ch) :
    FinOK G n 3 (fun H p => F3 H a T w ch p rl r1 L1 B1 r2 L2 B2 ta tr TL TB rd sm gr) a T w ch 2 [a, rl, r1, L1, B1, r2, L2, B2, ta, tr, rd, sm, gr] where
  keep := fun x h => x.keep h
  here := fun x => x.here
  mf := fun x => ⟨_, x.mf (by have : big = 16777216 := rfl; lia)⟩
  mem := by simp
  l1 := by decide
  every := fun x hp hq => c_every3 C (by exact Nat.le_of_lt (by assumption)) x hz hT hp hch hq
  put := fun x hp hq => c_put3 C hn x hp hz hch fun H' h1 h2 => hq H' h1 fun b hb _ => h2 b hb
end Mine
end
-- part K19
section
open PySem PySem.Calls PyProof.Rows PySem.W
set_option maxHeartbeats 4000000
set_option maxRecDepth 100000
namespace Mine
@[local simp] theorem lkd_19 {α : Type} {x : α} : @lk α ⟨x⟩ = x := rfl
structure TS (H : MH) (tr : Addr) (F : MH → Nat → Prop) (a : Addr) (kn : Nat) (fp : List Addr) : Prop where
  h : H tr = some (.inst 4 [(14, .ref a), (15, .int 2), (16, .int kn)])
  f : F H kn
  ne : tr ∉ fp
noncomputable def Fr (H H' : MH) (fp : List Addr) : Prop := ∀ b, b ∉ fp → H b ≠ none → H' b = H b
theorem Fr.refl (H : MH) (fp : List Addr) : Fr H H fp := fun _ _ _ => rfl
theorem Fr.trans {H H1 H2 : MH} {fp : List Addr} (a : Fr H H1 fp) (b : Fr H1 H2 fp) : Fr H H2 fp := fun x h1 h2 => by
  have := a x h1 h2
  rw [b x h1 (by rw [this]; exact h2), this]
theorem Fr.sub {H H' : MH} {fp : List Addr} (s : Sub H H') : Fr H H' fp := fun b _ h => by
  cases e : H b with
  | none => exact absurd e h
  | some o => exact s b o e
theorem Fr.le {H H' : MH} {fp fp' : List Addr} (a : Fr H H' fp) (h : ∀ b ∈ fp, b ∈ fp') : Fr H H' fp' := fun b h1 h2 => a b (fun q => h1 (h b q)) h2
theorem Fr.get {H H' : MH} {fp : List Addr} (a : Fr H H' fp) {b : Addr} {o : MO} (hb : b ∉ fp) (h : H b = some o) : H' b = some o := by rw [a b hb (by rw [h]; simp), h]

theorem nd_upto : p_Trail_up_to_ln.Nodup := by decide +kernel
section
variable {G : Gd} (C : Cx G) {n : Nat} {Q : V → MH → Prop} {H : MH} {tr a : Addr} {T : List Int} {w ch : Int} {c : Nat} {F : MH → Nat → Prop} {fp : List Addr}
include C
theorem l_upto {K : Fl → List V → MH → Prop} {p : Nat} (f : FinOK G n c F a T w ch 2 fp) (hp : p ≤ T.length) : ∀ (j kn : Nat) (H : MH), j + kn = p → TS H tr F a kn fp →
    (∀ H', TS H' tr F a p fp → Fr H H' (tr :: fp) → K .next [.ref tr, .int p] H') → WWhile G p_Trail_up_to_ln n p_Trail_up_to_wt0 p_Trail_up_to_wb1 [.ref tr, .int p] K H := by
  intro j
  induction j with
  | zero =>
    intro kn H hk x hK
    have : kn = p := by lia
    subst this
    refine WWhile.step nd_upto ?_
    simp [p_Trail_up_to_wt0, x.h, fget]
    exact hK H x (Fr.refl _ _)
  | succ j ih =>
    intro kn H hk x hK
    refine WWhile.step nd_upto ?_
    obtain ⟨fs, mf⟩ := f.mf x.f
    simp [p_Trail_up_to_wt0, x.h, fget]
    refine ⟨fun _ => ?_, fun h => by exact mh_false (by lia)⟩
    unfold p_Trail_up_to_wb1
    refine wB_step ?_
    simp [-xB_cons, -xB_nil, x.h, fget]
    refine m_inst (c' := 7) mf.h mf.c7 (by decide) (mf.m 26 (by decide)) (by rcases mf.c with h | h | h <;> subst h <;> rfl) ?_
    simp [-xB_cons, -xB_nil, x.h, fget]
    refine f.put x.f (by exact Nat.lt_of_lt_of_le (by assumption) (by assumption)) fun H1 f1 o1 => ?_
    have ht1 : H1 tr = some (.inst 4 [(14, .ref a), (15, .int 2), (16, .int kn)]) := by rw [o1 tr x.ne (by rw [x.h]; simp), x.h]
    refine wB_step ?_
    simp [-xB_cons, -xB_nil, ht1, fget]
    refine setA_of ht1 (by decide) (by decide) (by simp) (by simp) ?_
    rw [wB_nil]
    dsimp only
    show WWhile G p_Trail_up_to_ln n p_Trail_up_to_wt0 p_Trail_up_to_wb1 _ _ _
    refine ih (kn + 1) _ (by lia) ⟨?_, f.keep f1 fun b hb => upd_ne _ _ (fun q => x.ne (q ▸ hb)), x.ne⟩ fun H' x' o' => hK H' x' ?_
    · rw [upd_same]; simp [fput]
    · refine Fr.trans (fun b h1 h2 => ?_) o'
      simp only [List.mem_cons, not_or] at h1
      rw [upd_ne _ _ h1.1, o1 b h1.2 h2]
theorem c_upto {p kn : Nat} (f : FinOK G n c F a T w ch 2 fp) (hp : p ≤ T.length) (hk : kn ≤ p) (x : TS H tr F a kn fp) (hq : ∀ H', TS H' tr F a p fp → Fr H H' (tr :: fp) → Q .none H') : WCall G (n + 1) (.meth 4 37) [.ref tr, .int p] Q H := by
  refine WCall.intro (C.at 3 rfl) ?_
  have e : fr0 p_Trail_up_to_ln [.ref tr, .int p] = [.ref tr, .int p] := rfl
  rw [e]
  unfold p_Trail_up_to
  refine wB_step ?_
  simp [-xB_cons, -xB_nil]
  exact l_upto C f hp (p - kn) kn H (by exact Nat.sub_add_cancel (by lia)) x fun H' x' o' => hq H' x' o'
end
end Mine
end
-- part K20
section
open PySem PySem.Calls PyProof.Rows PySem.W
set_option maxHeartbeats 4000000
set_option maxRecDepth 100000
namespace Mine
@[local simp] theorem lkd_20 {α : Type} {x : α} : @lk α ⟨x⟩ = x := rfl
noncomputable def stepOf (T : List Int) (p : Nat) (m : Int × Int) : Int × Int := if m = (0, 0) then (0, oct T p) else m
noncomputable def sizeOf' (m : Int × Int) : Nat := if m.1 = 0 then 1 else m.1.toNat
inductive GP (T : List Int) (w : Int) (m s0 : Nat) : List (Int × Int) → Nat → Prop
  | nil : GP T w m s0 [] s0
  | snoc {ms p x} : GP T w m s0 ms p → p < T.length → Best T w p (min m (T.length - p)) 2 x → GP T w m s0 (ms ++ [stepOf T p x]) (p + sizeOf' (stepOf T p x))
theorem Best.cases {T : List Int} {w : Int} {p lim : Nat} {x : Int × Int} (b : Best T w p lim 2 x) : x = (0, 0) ∨ (2 ≤ x.1 ∧ x.1 ≤ lim) := by
  rcases b with h | h
  · exact .inl h.1
  · exact .inr ⟨h.1, h.2.1⟩
theorem nd_greedy : p_greedy_ln.Nodup := by decide +kernel
section
variable {G : Gd} (C : Cx G) {n : Nat} {Q : V → MH → Prop} {H : MH} {tr a : Addr} {T : List Int} {w ch : Int} {c : Nat} {F : MH → Nat → Prop} {fp : List Addr}
include C
theorem c_tbest {p kn m : Nat} (f : FinOK G n c F a T w ch 2 fp) (hp : p ≤ T.length) (hk : kn ≤ p) (x : TS H tr F a kn fp)
    (hq : ∀ t m' H', TS H' tr F a p fp → Fr H H' (tr :: fp) → H' t = some (.tup [.int m'.1, .int m'.2]) → Best T w p (min m (T.length - p)) 2 m' → Q (.ref t) H') : WCall G (n + 2) (.meth 4 33) [.ref tr, .int p, .int m] Q H := by
  refine WCall.intro (C.at 4 rfl) ?_
  have e : fr0 p_Trail_best_ln [.ref tr, .int p, .int m] = [.ref tr, .int p, .int m, .odd, .odd] := rfl
  rw [e]
  unfold p_Trail_best
  refine wB_step ?_
  simp [-xB_cons, -xB_nil]
  refine m_inst x.h (by decide) (by decide) rfl rfl ?_
  simp [-xB_cons, -xB_nil]
  refine c_upto C f hp hk x fun H1 x1 o1 => ?_
  obtain ⟨fs, mf⟩ := f.mf x1.f
  refine wB_step ?_
  simp [-xB_cons, -xB_nil, x1.h, fget]
  refine m_inst (c' := 7) mf.h mf.c7 (by decide) (mf.m 33 (by decide)) (by rcases mf.c with h | h | h <;> subst h <;> rfl) ?_
  simp [-xB_cons, -xB_nil]
  refine c_best C f x1.f hp fun t m' H2 s2 ht hb => ?_
  refine wT_tup ht rfl ?_
  refine wB_step ?_
  simp [-xB_cons, -xB_nil]
  have x2 : TS H2 tr F a p fp := ⟨s2 _ _ x1.h, f.sub x1.f s2, x1.ne⟩
  simp [-xB_cons, -xB_nil, x2.h, fget]
  have fin : ∀ (t' : Addr), H2 t' = none → Q (.ref t') (upd H2 t' (.tup [.int m'.1, .int m'.2])) := fun t' ht' => by
    have s3 := Sub.fresh ht' (.tup [.int m'.1, .int m'.2])
    exact hq t' m' _ ⟨s3 _ _ x2.h, f.sub x2.f s3, x2.ne⟩ (o1.trans (Fr.sub (s2.trans s3))) (upd_same _ _ _) hb
  rcases hb.cases with h | h
  · subst h
    simp at fin ⊢
    exact ⟨by decide, fin⟩
  · refine ⟨fun h' => by exact absurd (by assumption) (by lia), fun _ => ⟨by decide, fin⟩⟩

theorem l_greedy {K : Fl → List V → MH → Prop} {m s0 : Nat} {vF : V} {b : Addr} (hn : 1 ≤ n) (f : FinOK G n c F a T w ch 2 fp) (hz : T.length ≤ 4000) {H₀ : MH} (hb0 : H₀ b = none) (hbt : b ≠ tr) (hbf : b ∉ fp) (htr0 : H₀ tr = none)
    (hK : ∀ ms vs o7 o8 H', GP T w m s0 ms T.length → H' b = some (.list vs) → Tups H' vs ms → Fr H₀ H' fp → vs.length ≤ 4000 → K .next [.bytes T, .int s0, vF, .int m, .ref tr, .ref b, .int T.length, o7, o8] H') :
    ∀ (j p kn : Nat) (ms : List (Int × Int)) (vs : List V) (o7 o8 : V) (H : MH), T.length ≤ p + j → p ≤ T.length → kn ≤ p → TS H tr F a kn fp → Fr H₀ H fp → H b = some (.list vs) → Tups H vs ms → vs.length ≤ p → GP T w m s0 ms p →
      WWhile G p_greedy_ln (n + 2) p_greedy_wt0 p_greedy_wb1 [.bytes T, .int s0, vF, .int m, .ref tr, .ref b, .int p, o7, o8] K H := by
  have hbg : big = 16777216 := rfl
  intro j
  induction j with
  | zero =>
    intro p kn ms vs o7 o8 H hj hp hkn x fr hb ht hv gp
    have : p = T.length := by exact Nat.le_antisymm (by assumption) (by assumption)
    subst this
    refine WWhile.step nd_greedy ?_
    simp [p_greedy_wt0]
    exact ⟨by lia, hK ms vs o7 o8 H gp hb ht fr (by exact Nat.le_trans (by assumption) (by assumption))⟩
  | succ j ih =>
    intro p kn ms vs o7 o8 H hj hp hkn x fr hb ht hv gp
    rcases Nat.lt_or_ge p T.length with hlt | hge
    · refine WWhile.step nd_greedy ?_
      simp [p_greedy_wt0]
      refine ⟨by lia, fun _ => ?_, fun h => by exact mh_false (by lia)⟩
      unfold p_greedy_wb1
      refine wB_step ?_
      simp [-xB_cons, -xB_nil]
      refine m_inst x.h (by decide) (by decide) rfl rfl ?_
      simp [-xB_cons, -xB_nil]
      refine c_tbest C f hp hkn x fun t m' H1 x1 o1 ht1 hbest => ?_
      have hb1 : H1 b = some (.list vs) := o1.get (by simp only [List.mem_cons, not_or]; exact ⟨hbt, hbf⟩) hb
      have nott : ∀ t x', H t = some (.tup x') → t ∉ tr :: fp := fun t x' ht' hm => by
        rcases List.mem_cons.mp hm with h | h
        · rw [h, x.h] at ht'; cases ht'
        · obtain ⟨o, h1, h2⟩ := f.here x.f t h
          rw [h1] at ht'
          exact h2 x' (Option.some.inj ht')
      have htu1 : Tups H1 vs ms := ht.keep fun t x' e => o1.get (nott t x' e) e
      have fr1 : Fr H₀ H1 fp := fun y h1 h2 => by
        have hy : y ≠ tr := fun q => h2 (by rw [q]; exact htr0)
        rw [o1 y (by simp only [List.mem_cons, not_or]; exact ⟨hy, h1⟩) (by rw [fr y h1 h2]; exact h2), fr y h1 h2]
      have sz : 1 ≤ sizeOf' (stepOf T p m') ∧ p + sizeOf' (stepOf T p m') ≤ T.length := by
        rcases hbest.cases with h | h
        · subst h
          have : sizeOf' (stepOf T p (0, 0)) = 1 := by simp [sizeOf', stepOf]
          lia
        · have h0 : m' ≠ (0, 0) := fun q => by rw [q] at h; simp at h
          have : sizeOf' (stepOf T p m') = m'.1.toNat := by unfold sizeOf' stepOf; rw [if_neg h0, if_neg (by lia)]
          lia
      have gp' := GP.snoc gp hlt hbest
      have tail : ∀ (t' : Addr) (H2 : MH), Sub H1 H2 → H2 t' = some (.tup [.int (stepOf T p m').1, .int (stepOf T p m').2]) →
          wB G p_greedy_ln (n + 2) (.cons (.expr (.meth (.loc 5) 42 (.cons (.loc 8) .nil))) (.cons (.asg (.v 6) (.bin .Add (.loc 6) (.call "step_size" (.cons (.loc 8) .nil)))) .nil))
            [.bytes T, .int s0, vF, .int m, .ref tr, .ref b, .int p, .ref t, .ref t']
            (fun fl fr' H => match fl with
              | .next => WWhile G p_greedy_ln (n + 2) p_greedy_wt0 p_greedy_wb1 fr' K H
              | .cont => WWhile G p_greedy_ln (n + 2) p_greedy_wt0 p_greedy_wb1 fr' K H
              | .brk => K .next fr' H
              | .ret v => K (.ret v) fr' H) H2 := by
        intro t' H2 s2 ht2
        have hb2 := s2 _ _ hb1
        have hbt' : t' ≠ b := ne_os ht2 hb2 (by simp)
        refine wB_step ?_
        simp [-xB_cons, -xB_nil]
        refine m_app hb2 ?_
        simp [-xB_cons, -xB_nil]
        refine app_to hb2 (by exact Nat.lt_of_le_of_lt (by assumption) (by lia)) (by simp) ?_
        refine wB_step ?_
        simp [-xB_cons, -xB_nil]
        have ht3 : (upd H2 b (.list (vs ++ [.ref t']))) t' = some (.tup [.int (stepOf T p m').1, .int (stepOf T p m').2]) := (upd_ne _ _ hbt').trans ht2
        refine c_step_size C (by exact Nat.le_add_left _ _) ht3 ?_
        have e1 : (p : Int) + (if (stepOf T p m').1 = 0 then 1 else (stepOf T p m').1) = ((p + sizeOf' (stepOf T p m') : Nat) : Int) := by
          unfold sizeOf'
          have h0 : 0 ≤ (stepOf T p m').1 := by
            rcases hbest.cases with h | h
            · rw [h]; simp [stepOf]
            · have h0 : m' ≠ (0, 0) := fun q => by rw [q] at h; simp at h
              unfold stepOf; rw [if_neg h0]; lia
          split <;> lia
        rw [b_add, e1, wT_v, wB_nil]
        show WWhile G p_greedy_ln (n + 2) p_greedy_wt0 p_greedy_wb1 _ _ _
        refine ih (p + sizeOf' (stepOf T p m')) p (ms ++ [stepOf T p m']) (vs ++ [.ref t']) _ _ _ (by exact Nat.le_trans (by assumption) (by lia)) (by exact (by assumption : _ ∧ _).2) (by exact Nat.le_add_right _ _) ⟨?_, f.keep (f.sub x1.f s2) (fun y hy => upd_ne _ _ (fun q => hbf (q ▸ hy))), x1.ne⟩ (fun y h1 h2 => ?_) (upd_same _ _ _) ?_ (by simp; exact Nat.lt_of_le_of_lt (by assumption) (by lia)) gp'
        · rw [upd_ne _ _ hbt.symm]; exact s2 _ _ x1.h
        · have hy : y ≠ b := fun q => h2 (by rw [q]; exact hb0)
          rw [upd_ne _ _ hy]
          have := fr1 y h1 h2
          cases e : H₀ y with
          | none => exact absurd e h2
          | some o => rw [e] at this; exact s2 y o this
        · refine tups_upd (fun x h => by rw [hb2] at h; cases h) (Tups.snoc ht2 (htu1.keep fun t x e => s2 _ _ e))
      rw [wT_v]
      refine wB_step (ifE_pair (G := G) (i := 7) rfl ht1 (fun h1 h2 => ?_) fun h => ?_)
      · have hm : m' = (0, 0) := Prod.ext h1 h2
        simp [-xB_cons, -xB_nil]
        rw [s_bytes (by exact Int.natCast_nonneg _) (by simpa using hlt) (by lia)]
        refine ⟨by decide, fun t' ht' => ?_⟩
        exact tail t' _ (Sub.fresh ht' _) (by rw [upd_same, hm]; simp [stepOf, oct])
      · have hm : m' ≠ (0, 0) := fun q => h (by rw [q]) (by rw [q])
        exact tail t H1 (Sub.refl _) (by rw [ht1]; unfold stepOf; rw [if_neg hm])
    · exact ih p kn ms vs o7 o8 H (by exact Nat.le_trans (by assumption) (by lia)) hp hkn x fr hb ht hv gp
end
end Mine
end
-- part K21
section
open PySem PySem.Calls PyProof.Rows PySem.W
set_option maxHeartbeats 4000000
set_option maxRecDepth 100000
namespace Mine
section
variable {G : Gd} (C : Cx G) {n : Nat} {Q : V → MH → Prop} {H : MH} {tr a : Addr} {T : List Int} {w ch : Int} {c : Nat} {F : MH → Nat → Prop} {fp : List Addr}
include C
theorem c_trailinit (hn : 1 ≤ n) (hx : H tr = some (.inst 4 [])) (hm : ∃ fs, MF H a c fs T (2 : Nat) w ch 0) (hta : tr ≠ a)
    (hq : ∀ H', H' tr = some (.inst 4 [(14, .ref a), (15, .int 2), (16, .int 0)]) → (∀ b, b ≠ tr → H' b = H b) → Q .none H') : WCall G n (.meth 4 24) [.ref tr, .ref a] Q H := by
  obtain ⟨k, rfl, hk⟩ := pred_of hn
  obtain ⟨fs, mf⟩ := hm
  refine WCall.intro (C.at 2 rfl) ?_
  have e : fr0 p_Trail_init_ln [.ref tr, .ref a] = [.ref tr, .ref a] := rfl
  rw [e]
  unfold p_Trail_init
  refine wB_step ?_
  simp [-xB_cons, -xB_nil]
  refine setA_of hx (by decide) (by decide) (by simp) (by simp) ?_
  have ha1 : (upd H tr (.inst 4 (fput [] 14 (.ref a)))) a = some (.inst c fs) := (upd_ne _ _ hta.symm).trans mf.h
  have hc := mf.c7
  refine wB_step ?_
  simp [-xB_cons, -xB_nil, ha1, mf.f4, hc]
  refine setA_of (upd_same _ _ _) (by decide) (by decide) (by simp [fput]) (by simp) ?_
  refine wB_step ?_
  simp [-xB_cons, -xB_nil]
  refine setA_of (upd_same _ _ _) (by decide) (by decide) (by simp [fput]) (by simp) ?_
  rw [wB_nil]
  exact hq _ (by rw [upd_same]; simp [fput]) (fun b hb => by rw [upd_ne _ _ hb, upd_ne _ _ hb, upd_ne _ _ hb])

theorem c_greedy {s0 m : Nat} (hn : 1 ≤ n) (f : FinOK G n c F a T w ch 2 fp) (hz : T.length ≤ 4000) (hs : s0 ≤ T.length) (x : F H 0)
    (hq : ∀ b ms vs H', GP T w m s0 ms T.length → H b = none → H' b = some (.list vs) → Tups H' vs ms → Fr H H' fp → vs.length ≤ 4000 → Q (.ref b) H') : WCall G (n + 3) (.top "greedy") [.bytes T, .int s0, .ref a, .int m] Q H := by
  have hbg : big = 16777216 := rfl
  refine WCall.intro (C.at 6 rfl) ?_
  have e : fr0 p_greedy_ln [.bytes T, .int s0, .ref a, .int m] = [.bytes T, .int s0, .ref a, .int m, .odd, .odd, .odd, .odd, .odd] := rfl
  rw [e]
  unfold p_greedy
  refine wB_step ?_
  simp [-xB_cons, -xB_nil]
  refine c_check_range C (by exact Nat.le_add_left _ _) (by exact Int.natCast_nonneg _) (by exact Int.ofNat_le.mpr (by assumption)) (by exact Int.natCast_nonneg _) (by exact easy (by assumption) rfl) ?_
  refine wB_step ?_
  simp [-xB_cons, -xB_nil, WNew]
  intro tr htr
  have htf : ∀ b ∈ fp, b ≠ tr := fun b hb q => by
    obtain ⟨o, h1, _⟩ := f.here x b hb
    rw [q, htr] at h1; cases h1
  have x1 : F (upd H tr (.inst 4 [])) 0 := f.keep x fun b hb => upd_ne _ _ (htf b hb)
  refine c_trailinit C (by exact Nat.le_add_left _ _) (upd_same _ _ _) (f.mf x1) (fun q => htf a f.mem q.symm) fun H1 h1 o1 => ?_
  refine ⟨rfl, ?_⟩
  intro b hb
  have hbtr : b ≠ tr := (ne_of hb h1).symm
  have hbH : H b = none := by rw [o1 b hbtr, upd_ne _ _ hbtr] at hb; exact hb
  have x2 : F H1 0 := f.keep x1 fun y hy => o1 y (htf y hy)
  have hbf : b ∉ fp := fun hm => by
    obtain ⟨o, h2, _⟩ := f.here x b hm
    rw [hbH] at h2; cases h2
  try simp
  refine ⟨by decide, ?_⟩
  have fr : Fr H (upd H1 b (.list [])) fp := fun y hy hne => by
    have e1 : y ≠ b := fun q => hne (by rw [q]; exact hbH)
    have e2 : y ≠ tr := fun q => hne (by rw [q]; exact htr)
    rw [upd_ne _ _ e1, o1 y e2, upd_ne _ _ e2]
  refine l_greedy C hn f hz hbH hbtr hbf htr (fun ms vs o7 o8 H' g1 g2 g3 g4 g5 => ?_) T.length s0 0 [] [] .odd .odd _ (by exact Nat.le_add_left _ _) hs (Nat.zero_le _) ⟨(upd_ne _ _ hbtr.symm).trans h1, f.keep x2 (fun y hy => upd_ne _ _ (fun q => hbf (q ▸ hy))), fun hm => htf tr hm rfl⟩ fr (upd_same _ _ _) trivial (by simp) .nil
  simp
  exact hq b ms vs H' g1 hbH g2 g3 g4 g5
end
end Mine
end
-- part K22
section
open PySem PySem.Calls PyProof.Rows PySem.W
set_option maxHeartbeats 4000000
set_option maxRecDepth 100000
namespace Mine
@[local simp] theorem lkd_22 {α : Type} {x : α} : @lk α ⟨x⟩ = x := rfl
theorem repL_len (xs : List V) : ∀ k, (repL xs k).length = xs.length * k
  | 0 => by simp [repL]
  | k + 1 => by simp [repL, repL_len xs k, Nat.mul_succ]; exact Nat.add_comm _ _
theorem repL_one (v : V) : ∀ k, repL [v] k = List.replicate k v
  | 0 => rfl
  | k + 1 => by simp [repL, repL_one v k, List.replicate_succ]
theorem setA_to {H : MH} {a : Addr} {c k : Nat} {fs fs' : List (Nat × V)} {v : V} {T : MH → Prop} (h : H a = some (.inst c fs)) (hc : c < 7) (hk : k < 22) (hl : fs.length ≤ 100) (hv : v ≠ .odd) (e : fput fs k v = fs') (hq : ∀ H', H' a = some (.inst c fs') → (∀ y, y ≠ a → H' y = H y) → T H') : wSetA (.ref a) k v T H :=
  setA_of h hc hk hl hv (hq _ (by rw [upd_same, e]) fun y hy => upd_ne _ _ hy)
section
variable {G : Gd} (C : Cx G) {n : Nat} {Q : V → MH → Prop} {H : MH} {x : Addr} {T : List Int} {w ch : Int} {c l sz : Nat}
include C
theorem c_rowinit (hn : 1 ≤ n) (hx : H x = some (.inst 0 [])) (hz : T.length ≤ 4000) (hs : 1 ≤ sz)
    (hq : ∀ H' L B, PR H' x T sz 0 L B → H L = none → H B = none → Fr H H' [x] → Q .none H') : WCall G n (.meth 0 24) [.ref x, .bytes T, .int sz] Q H := by
  obtain ⟨k, rfl, hk⟩ := pred_of hn
  have hbg : big = 16777216 := rfl
  refine WCall.intro (C.at 15 rfl) ?_
  have e : fr0 p_PlaceRow_init_ln [.ref x, .bytes T, .int sz] = [.ref x, .bytes T, .int sz] := rfl
  rw [e]
  unfold p_PlaceRow_init
  refine wB_step ?_
  simp [-xB_cons, -xB_nil]
  refine ⟨by omega, fun _ => ?_⟩
  rw [wB_nil]
  dsimp only
  refine wB_step ?_
  simp [-xB_cons, -xB_nil]
  refine setA_to hx (by decide) (by decide) (by simp) (by simp) rfl fun H1 h1 o1 => ?_
  refine wB_step ?_
  simp [-xB_cons, -xB_nil]
  refine setA_to h1 (by decide) (by decide) (by simp [fput]) (by simp) rfl fun H2 h2 o2 => ?_
  refine wB_step ?_
  simp [-xB_cons, -xB_nil]
  intro L hL
  have hxL : x ≠ L := ne_of hL h2
  have hLH : H L = none := by rw [o2 L hxL.symm, o1 L hxL.symm] at hL; exact hL
  refine setA_to ((upd_ne _ _ hxL).trans h2) (by decide) (by decide) (by simp [fput]) (by simp) rfl fun H3 h3 o3 => ?_
  refine wB_step ?_
  simp [-xB_cons, -xB_nil]
  have hd3 : H3 L = some (.dict 0 fun _ => none) := by rw [o3 L hxL.symm, upd_same]
  refine ⟨by decide, fun t ht => ⟨by exact easy (by assumption) rfl, ?_⟩⟩
  rw [b_rep (upd_same _ _ _)]
  refine ⟨⟨by exact Int.natCast_nonneg _, by exact Int.ofNat_le.mpr (by lia)⟩, by simp; exact easy (by assumption) rfl, fun B hB => ?_⟩
  have hBt : B ≠ t := fun q => by rw [q, upd_same] at hB; cases hB
  rw [upd_ne _ _ hBt] at hB
  have hBx : x ≠ B := ne_of hB h3
  have hBL : L ≠ B := ne_of hB hd3
  have htx : x ≠ t := ne_of ht h3
  have htL : L ≠ t := ne_of ht hd3
  have hBH : H B = none := by rw [o3 B hBx.symm, upd_ne _ _ hBL.symm, o2 B hBx.symm, o1 B hBx.symm] at hB; exact hB
  have htH : H t = none := by rw [o3 t htx.symm, upd_ne _ _ htL.symm, o2 t htx.symm, o1 t htx.symm] at ht; exact ht
  refine setA_to ((upd_ne _ _ hBx).trans ((upd_ne _ _ htx).trans h3)) (by decide) (by decide) (by simp [fput]) (by simp) rfl fun H4 h4 o4 => ?_
  rw [wB_nil]
  refine hq H4 L B ⟨h4, ⟨0, (fun _ => none), ?_, Nat.le_refl _, fun _ => rfl⟩, ⟨repL [V.int (-1)] (T.length : Int).toNat, ?_, ?_, fun q h => by lia⟩, ⟨hBL, hxL, hBx⟩⟩ hLH hBH fun y hy hne => ?_
  · rw [o4 L hxL.symm, upd_ne _ _ hBL, upd_ne _ _ htL]; exact hd3
  · rw [o4 B hBx.symm]; exact upd_same _ _ _
  · rw [repL_len]; simp
  · have y1 : y ≠ x := by simpa using hy
    have y2 : y ≠ L := fun q => hne (by rw [q]; exact hLH)
    have y3 : y ≠ B := fun q => hne (by rw [q]; exact hBH)
    have y4 : y ≠ t := fun q => hne (by rw [q]; exact htH)
    rw [o4 y y1, upd_ne _ _ y3, upd_ne _ _ y4, o3 y y1, upd_ne _ _ y2, o2 y y1, o1 y y1]

theorem c_matchinit (hn : 1 ≤ n) (hx : H x = some (.inst c [])) (hc : c < 7) (hz : T.length ≤ 4000) (hl : 1 ≤ l) (hw : 1 ≤ w) (hch : 1 ≤ ch)
    (hq : ∀ H', H' x = some (.inst c [(0, .bytes T), (4, .int l), (5, .int w), (6, .int ch), (7, .int 0)]) → (∀ y, y ≠ x → H' y = H y) → Q .none H') : WCall G n (.meth 7 24) [.ref x, .bytes T, .int l, .int w, .int ch] Q H := by
  obtain ⟨k, rfl, hk⟩ := pred_of hn
  refine WCall.intro (C.at 19 rfl) ?_
  have e : fr0 p_Matcher_init_ln [.ref x, .bytes T, .int l, .int w, .int ch] = [.ref x, .bytes T, .int l, .int w, .int ch] := rfl
  rw [e]
  unfold p_Matcher_init
  refine wB_step ?_
  simp [-xB_cons, -xB_nil]
  refine ⟨by omega, fun _ => ?_⟩
  rw [wB_nil]
  dsimp only
  refine wB_step ?_
  simp [-xB_cons, -xB_nil]
  refine ⟨by omega, fun _ => ?_⟩
  rw [wB_nil]
  dsimp only
  refine wB_step ?_
  simp [-xB_cons, -xB_nil]
  refine ⟨by omega, fun _ => ?_⟩
  rw [wB_nil]
  dsimp only
  refine wB_step ?_
  simp [-xB_cons, -xB_nil]
  refine setA_to hx hc (by decide) (by simp [fput]) (by simp) rfl fun H1 h1 o1 => ?_
  refine wB_step ?_
  simp [-xB_cons, -xB_nil]
  refine setA_to h1 hc (by decide) (by simp [fput]) (by simp) rfl fun H2 h2 o2 => ?_
  refine wB_step ?_
  simp [-xB_cons, -xB_nil]
  refine setA_to h2 hc (by decide) (by simp [fput]) (by simp) rfl fun H3 h3 o3 => ?_
  refine wB_step ?_
  simp [-xB_cons, -xB_nil]
  refine setA_to h3 hc (by decide) (by simp [fput]) (by simp) rfl fun H4 h4 o4 => ?_
  refine wB_step ?_
  simp [-xB_cons, -xB_nil]
  refine setA_to h4 hc (by decide) (by simp [fput]) (by simp) rfl fun H5 h5 o5 => ?_
  rw [wB_nil]
  exact hq H5 h5 fun y hy => by rw [o5 y hy, o4 y hy, o3 y hy, o2 y hy, o1 y hy]
end
end Mine
end
-- part K23
section
open PySem PySem.Calls PyProof.Rows PySem.W
set_option maxHeartbeats 4000000
set_option maxRecDepth 100000
namespace Mine
@[local simp] theorem lkd_23 {α : Type} {x : α} : @lk α ⟨x⟩ = x := rfl
section
variable {G : Gd} (C : Cx G) {n : Nat} {Q : V → MH → Prop} {H : MH} {x : Addr} {T : List Int} {w ch : Int} {c l sz : Nat}
include C
theorem c_init1 (hn : 2 ≤ n) (hx : H x = some (.inst 1 [])) (hz : T.length ≤ 4000) (hl : 1 ≤ l) (hw : 1 ≤ w) (hch : 1 ≤ ch)
    (hq : ∀ H' r L B, F1 H' x T w ch l 0 r L B → H r = none → H L = none → H B = none → Fr H H' [x] → Q .none H') : WCall G n (.meth 1 24) [.ref x, .bytes T, .int l, .int w, .int ch] Q H := by
  obtain ⟨k, rfl, hk⟩ := pred_of hn
  refine WCall.intro (C.at 25 rfl) ?_
  have e : fr0 p_Finder_init_ln [.ref x, .bytes T, .int l, .int w, .int ch] = [.ref x, .bytes T, .int l, .int w, .int ch] := rfl
  rw [e]
  unfold p_Finder_init
  refine wB_step ?_
  simp [-xB_cons, -xB_nil]
  refine c_matchinit C (by omega) hx (by decide) hz hl hw hch fun H1 h1 o1 => ?_
  refine wB_step ?_
  simp [-xB_cons, -xB_nil, h1, fget, WNew]
  intro r hr
  have hxr : x ≠ r := ne_of hr h1
  have hrH : H r = none := by rw [o1 r hxr.symm] at hr; exact hr
  refine c_rowinit C (by omega) (upd_same _ _ _) hz hl fun H2 L B pr hL hB fr2 => ?_
  refine ⟨rfl, ?_⟩
  have hLr : L ≠ r := fun q => by rw [q, upd_same] at hL; cases hL
  have hBr : B ≠ r := fun q => by rw [q, upd_same] at hB; cases hB
  rw [upd_ne _ _ hLr] at hL
  rw [upd_ne _ _ hBr] at hB
  have hxL : x ≠ L := ne_of hL h1
  have hxB : x ≠ B := ne_of hB h1
  have hx2 : H2 x = some (.inst 1 [(0, .bytes T), (4, .int l), (5, .int w), (6, .int ch), (7, .int 0)]) := fr2.get (by simpa using hxr) ((upd_ne _ _ hxr).trans h1)
  refine setA_to hx2 (by decide) (by decide) (by simp) (by simp) rfl fun H3 h3 o3 => ?_
  rw [wB_nil]
  refine hq H3 r L B ⟨h3, pr.keep (o3 r hxr.symm) (o3 L hxL.symm) (o3 B hxB.symm), ⟨hxr, hxL, hxB⟩⟩ hrH (by rw [← o1 L hxL.symm]; exact hL) (by rw [← o1 B hxB.symm]; exact hB) fun y hy hne => ?_
  have y1 : y ≠ x := by simpa using hy
  have y2 : y ≠ r := fun q => hne (by rw [q]; exact hrH)
  have e1 : (upd H1 r (.inst 0 [])) y = H y := by rw [upd_ne _ _ y2, o1 y y1]
  rw [o3 y y1, fr2 y (by simpa using y2) (by rw [e1]; exact hne), e1]

theorem c_init2 (hn : 2 ≤ n) (hx : H x = some (.inst 2 [])) (hz : T.length ≤ 4000) (hl : 1 ≤ l) (hw : 1 ≤ w) (hch : 1 ≤ ch)
    (hq : ∀ H' r L B rd sm gr, F2 H' x T w ch l 0 r L B rd sm gr → H r = none → H rd = none → H sm = none → H gr = none → Fr H H' [x] → Q .none H') : WCall G n (.meth 2 24) [.ref x, .bytes T, .int l, .int w, .int ch] Q H := by
  obtain ⟨k, rfl, hk⟩ := pred_of hn
  have hbg : big = 16777216 := rfl
  refine WCall.intro (C.at 29 rfl) ?_
  have e : fr0 p_TreeFinder_init_ln [.ref x, .bytes T, .int l, .int w, .int ch] = [.ref x, .bytes T, .int l, .int w, .int ch] := rfl
  rw [e]
  unfold p_TreeFinder_init
  refine wB_step ?_
  simp [-xB_cons, -xB_nil]
  refine c_matchinit C (by omega) hx (by decide) hz hl hw hch fun H1 h1 o1 => ?_
  refine wB_step ?_
  simp [-xB_cons, -xB_nil, h1, fget, WNew]
  intro r hr
  have hxr : x ≠ r := ne_of hr h1
  have hrH : H r = none := by rw [o1 r hxr.symm] at hr; exact hr
  refine c_rowinit C (by omega) (upd_same _ _ _) hz hl fun H2 L B pr hL hB fr2 => ?_
  refine ⟨rfl, ?_⟩
  have hx2 : H2 x = some (.inst 2 [(0, .bytes T), (4, .int l), (5, .int w), (6, .int ch), (7, .int 0)]) := fr2.get (by simpa using hxr) ((upd_ne _ _ hxr).trans h1)
  have f2 : ∀ y, y ≠ x → H y ≠ none → H2 y = H y := fun y y1 hne => by
    have y2 : y ≠ r := fun q => hne (by rw [q]; exact hrH)
    have e1 : (upd H1 r (.inst 0 [])) y = H y := by rw [upd_ne _ _ y2, o1 y y1]
    rw [fr2 y (by simpa using y2) (by rw [e1]; exact hne), e1]
  refine setA_to hx2 (by decide) (by decide) (by simp) (by simp) rfl fun H3 h3 o3 => ?_
  have hr3 : H3 r = some (.inst 0 (rowF T l L B)) := (o3 r hxr.symm).trans pr.h
  refine wB_step ?_
  simp [-xB_cons, -xB_nil]
  intro rd hrd
  have hxd : x ≠ rd := ne_of hrd h3
  have hrrd : r ≠ rd := ne_of hrd hr3
  refine setA_to ((upd_ne _ _ hxd).trans h3) (by decide) (by decide) (by simp [fput]) (by simp) rfl fun H4 h4 o4 => ?_
  have hr4 : H4 r = some (.inst 0 (rowF T l L B)) := (o4 r hxr.symm).trans ((upd_ne _ _ hrrd).trans hr3)
  have hd4 : H4 rd = some (.dict 0 fun _ => none) := by rw [o4 rd hxd.symm, upd_same]
  refine wB_step ?_
  simp [-xB_cons, -xB_nil]
  refine ⟨by decide, fun t1 ht1 => ?_⟩
  have hxt1 : x ≠ t1 := ne_of ht1 h4
  have h4' : (upd H4 t1 (.list [.int (-1)])) x = some (.inst 2 _) := (upd_ne _ _ hxt1).trans h4
  simp [-xB_cons, -xB_nil, h4', fget, fput]
  refine ⟨by exact easy (by assumption) rfl, ?_⟩
  rw [b_rep (upd_same _ _ _)]
  refine ⟨⟨by exact Int.natCast_nonneg _, by exact Int.ofNat_le.mpr (by lia)⟩, by simp; exact easy (by assumption) rfl, fun sm hsm => ?_⟩
  have hst : sm ≠ t1 := fun q => by rw [q, upd_same] at hsm; cases hsm
  rw [upd_ne _ _ hst] at hsm
  have hxs : x ≠ sm := ne_of hsm h4
  refine setA_to ((upd_ne _ _ hxs).trans h4') (by decide) (by decide) (by simp [fput]) (by simp) rfl fun H5 h5 o5 => ?_
  have hr5 : H5 r = some (.inst 0 (rowF T l L B)) := by rw [o5 r hxr.symm, upd_ne _ _ (ne_of hsm hr4), upd_ne _ _ (ne_of ht1 hr4)]; exact hr4
  have hd5 : H5 rd = some (.dict 0 fun _ => none) := by rw [o5 rd hxd.symm, upd_ne _ _ (ne_of hsm hd4), upd_ne _ _ (ne_of ht1 hd4)]; exact hd4
  have hs5 : H5 sm = some (.list (repL [.int (-1)] (T.length : Int).toNat)) := by rw [o5 sm hxs.symm, upd_same]
  refine wB_step ?_
  simp [-xB_cons, -xB_nil]
  refine ⟨by decide, fun t2 ht2 => ?_⟩
  have hxt2 : x ≠ t2 := ne_of ht2 h5
  have h5' : (upd H5 t2 (.list [.int (-1)])) x = some (.inst 2 _) := (upd_ne _ _ hxt2).trans h5
  simp [-xB_cons, -xB_nil, h5', fget, fput]
  refine ⟨by exact easy (by assumption) rfl, ?_⟩
  rw [b_rep (upd_same _ _ _)]
  refine ⟨⟨by exact Int.natCast_nonneg _, by exact Int.ofNat_le.mpr (by lia)⟩, by simp; exact easy (by assumption) rfl, fun gr hgr => ?_⟩
  have hgt : gr ≠ t2 := fun q => by rw [q, upd_same] at hgr; cases hgr
  rw [upd_ne _ _ hgt] at hgr
  have hxg : x ≠ gr := ne_of hgr h5
  refine setA_to ((upd_ne _ _ hxg).trans h5') (by decide) (by decide) (by simp [fput]) (by simp) rfl fun H6 h6 o6 => ?_
  rw [wB_nil]
  have hr6 : H6 r = some (.inst 0 (rowF T l L B)) := by rw [o6 r hxr.symm, upd_ne _ _ (ne_of hgr hr5), upd_ne _ _ (ne_of ht2 hr5)]; exact hr5
  have hd6 : H6 rd = some (.dict 0 fun _ => none) := by rw [o6 rd hxd.symm, upd_ne _ _ (ne_of hgr hd5), upd_ne _ _ (ne_of ht2 hd5)]; exact hd5
  have hs6 : H6 sm = some (.list (repL [.int (-1)] (T.length : Int).toNat)) := by rw [o6 sm hxs.symm, upd_ne _ _ (ne_of hgr hs5), upd_ne _ _ (ne_of ht2 hs5)]; exact hs5
  have hg6 : H6 gr = some (.list (repL [.int (-1)] (T.length : Int).toNat)) := by rw [o6 gr hxg.symm, upd_same]
  have old : ∀ y, y ≠ x → H y ≠ none → H6 y = H y := fun y y1 hne => by
    have e2 := f2 y y1 hne
    have n0 : ∀ {Hc : MH} {z : Addr}, Hc z = none → Hc y = H y → y ≠ z := fun h1 h2 q => hne (by rw [← h2, q, h1])
    have e3 : H3 y = H y := (o3 y y1).trans e2
    have e4 : H4 y = H y := by rw [o4 y y1, upd_ne _ _ (n0 hrd e3)]; exact e3
    have e5 : H5 y = H y := by rw [o5 y y1, upd_ne _ _ (n0 hsm e4), upd_ne _ _ (n0 ht1 e4)]; exact e4
    rw [o6 y y1, upd_ne _ _ (n0 hgr e5), upd_ne _ _ (n0 ht2 e5)]; exact e5
  have fresh : ∀ {y : Addr} {o : MO}, y ≠ x → ∀ {Hc : MH}, Hc y = none → (∀ z, z ≠ x → H z ≠ none → Hc z = H z) → H y = none := fun {y o} y1 {Hc} hy ho => by
    cases e : H y with
    | none => rfl
    | some o => have := ho y y1 (by rw [e]; simp); rw [hy, e] at this; cases this
  have k3 : ∀ z, z ≠ x → H z ≠ none → H3 z = H z := fun z z1 z2 => (o3 z z1).trans (f2 z z1 z2)
  have k4 : ∀ z, z ≠ x → H z ≠ none → H4 z = H z := fun z z1 z2 => by
    have e := k3 z z1 z2
    rw [o4 z z1, upd_ne _ _ (fun q => z2 (by rw [← e, q, hrd]))]; exact e
  have k5 : ∀ z, z ≠ x → H z ≠ none → H5 z = H z := fun z z1 z2 => by
    have e := k4 z z1 z2
    rw [o5 z z1, upd_ne _ _ (fun q => z2 (by rw [← e, q, hsm])), upd_ne _ _ (fun q => z2 (by rw [← e, q, ht1]))]; exact e
  refine hq H6 r L B rd sm gr ⟨h6, hr6, ⟨0, (fun _ => none), repL [.int (-1)] (T.length : Int).toNat, repL [.int (-1)] (T.length : Int).toNat, (fun _ => .leaf), hd6, Nat.le_refl _, hs6, hg6, by rw [repL_len]; simp, by rw [repL_len]; simp, fun κ => ⟨rfl, trivial, ⟨(fun _ h => h.elim), trivial, trivial, fun q hq => by lia⟩⟩, fun y _ hy => ?_⟩, ?_⟩ hrH (fresh (o := .list []) hxd.symm hrd k3) (fresh (o := .list []) hxs.symm hsm k4) (fresh (o := .list []) hxg.symm hgr k5) fun y hy hne => old y (by simpa using hy) hne
  · rw [repL_one, List.getElem?_replicate]
    have : y < (T.length : Int).toNat := by simpa using hy
    rw [if_pos this]; exact ⟨rfl, rfl⟩
  · have q1 : r ≠ sm := ne_of hsm hr4
    have q2 : r ≠ gr := ne_of hgr hr5
    have q3 : rd ≠ sm := ne_of hsm hd4
    have q4 : rd ≠ gr := ne_of hgr hd5
    have q5 : sm ≠ gr := ne_of hgr hs5
    simp [hxr, hxd, hxs, hxg, hrrd, q1, q2, q3, q4, q5]
end
end Mine
end
-- part K24
section
open PySem PySem.Calls PyProof.Rows PySem.W
set_option maxHeartbeats 4000000
set_option maxRecDepth 100000
namespace Mine
@[local simp] theorem lkd_24 {α : Type} {x : α} : @lk α ⟨x⟩ = x := rfl
@[local simp] theorem oOr_none24 {α : Type} {q : α → Prop} {p : Prop} : oOr none q p = p := rfl
theorem nd_init3 : p_LayeredFinder_init_ln.Nodup := by decide +kernel
section
variable {G : Gd} (C : Cx G) {n : Nat} {Q : V → MH → Prop} {H : MH} {x : Addr} {T : List Int} {w ch : Int} {c l sz : Nat}
include C
theorem c_init3 (hn : 4 ≤ n) (hx : H x = some (.inst 3 [])) (hL : H (layersA G.K) = some (.tup [.int 2, .int 3])) (hz : T.length ≤ 4000) (hw : 1 ≤ w) (hch : 1 ≤ ch)
    (hq : ∀ H' rl r1 L1 B1 r2 L2 B2 ta tr TL TB rd sm gr, F3 H' x T w ch 0 rl r1 L1 B1 r2 L2 B2 ta tr TL TB rd sm gr → (∀ y ∈ [rl, r1, L1, B1, r2, L2, B2, ta, tr, rd, sm, gr], H y = none) → Fr H H' [x] → Q .none H') : WCall G n (.meth 3 24) [.ref x, .bytes T, .int w, .int ch] Q H := by
  obtain ⟨k, rfl, hk⟩ := pred_of hn
  have hbg : big = 16777216 := rfl
  refine WCall.intro (C.at 34 rfl) ?_
  have e : fr0 p_LayeredFinder_init_ln [.ref x, .bytes T, .int w, .int ch] = [.ref x, .bytes T, .int w, .int ch, .odd] := rfl
  rw [e]
  have hxl : x ≠ layersA G.K := ne_os hx hL (by simp)
  unfold p_LayeredFinder_init
  refine wB_step ?_
  simp [-xB_cons, -xB_nil, hx, fget]
  rw [show wSub (V.ref (layersA G.K)) (V.int 0) = fun Q H => wSub (V.ref (layersA G.K)) (V.int 0) Q H from rfl]
  dsimp only
  rw [s_tup0 hL]
  refine c_matchinit C (l := 2) (by exact easy' (by assumption) rfl) hx (by decide) hz (by decide) hw hch fun H1 h1 o1 => ?_
  have hL1 : H1 (layersA G.K) = some (.tup [.int 2, .int 3]) := (o1 _ hxl.symm).trans hL
  refine wB_step ?_
  simp [-xB_cons, -xB_nil, h1, fget, srcOf_t hL1]
  intro rl hrl
  refine WComp.step nd_init3 ?_
  have hL2 : (upd H1 rl (.list [])) (layersA G.K) = some (.tup [.int 2, .int 3]) := upd_old hrl hL1
  simp only [Src.next, hL2]
  simp [-xB_cons, -xB_nil, p_LayeredFinder_init_cc1, p_LayeredFinder_init_ce0]
  have hxrl : x ≠ rl := ne_of hrl h1
  have hx2 := (upd_old (o' := .list []) hrl h1)
  simp [-xB_cons, -xB_nil, hx2, fget, WNew]
  intro r1 hr1
  have hxr1 : x ≠ r1 := ne_of hr1 hx2
  have hrl1 : rl ≠ r1 := ne_of hr1 (upd_same _ _ _)
  refine c_rowinit C (sz := 2) (by exact easy' (by assumption) rfl) (upd_same _ _ _) hz (by decide) fun H3 L1 B1 pr1 hL1' hB1' fr3 => ?_
  refine ⟨rfl, ?_⟩
  have up3 : ∀ {y : Addr} {o : MO}, y ≠ r1 → upd H1 rl (.list []) y = some o → H3 y = some o := fun h1 h2 => fr3.get (by simpa using h1) ((upd_ne _ _ h1).trans h2)
  have hx3 := up3 hxr1 hx2
  have hl3 := up3 hrl1 (upd_same _ _ _)
  have hL3 := up3 (fun q => by rw [← q, hL2] at hr1; cases hr1) hL2
  simp [-xB_cons, -xB_nil, hl3]
  refine WComp.step nd_init3 ?_
  have hlL : layersA G.K ≠ rl := fun q => by rw [q, hrl] at hL1; cases hL1
  have hL4 : (upd H3 rl (.list [.ref r1])) (layersA G.K) = some (.tup [.int 2, .int 3]) := (upd_ne _ _ hlL).trans hL3
  have hx4 := (upd_ne H3 (.list [.ref r1]) hxrl).trans hx3
  simp only [Src.next, hL4]
  simp [-xB_cons, -xB_nil, hx4, fget, WNew]
  intro r2 hr2
  have hxr2 : x ≠ r2 := ne_of hr2 hx4
  have hl4 : (upd H3 rl (.list [.ref r1])) rl = some (.list [.ref r1]) := upd_same _ _ _
  have hrl2 : rl ≠ r2 := ne_of hr2 hl4
  refine c_rowinit C (sz := 3) (by exact easy' (by assumption) rfl) (upd_same _ _ _) hz (by decide) fun H5 L2 B2 pr2 hL2' hB2' fr5 => ?_
  refine ⟨rfl, ?_⟩
  have up5 : ∀ {y : Addr} {o : MO}, y ≠ r2 → (upd H3 rl (.list [.ref r1])) y = some o → H5 y = some o := fun h1 h2 => fr5.get (by simpa using h1) ((upd_ne _ _ h1).trans h2)
  have hx5 := up5 hxr2 hx4
  have hl5 := up5 hrl2 hl4
  have hL5 := up5 (fun q => by rw [← q, hL4] at hr2; cases hr2) hL4
  simp [-xB_cons, -xB_nil, hl5]
  refine ⟨by decide, ?_⟩
  refine WComp.step nd_init3 ?_
  have hL6 : (upd H5 rl (.list [.ref r1, .ref r2])) (layersA G.K) = some (.tup [.int 2, .int 3]) := (upd_ne _ _ hlL).trans hL5
  have hx6 := (upd_ne H5 (.list [.ref r1, .ref r2]) hxrl).trans hx5
  simp only [Src.next, hL6]
  simp [-xB_cons, -xB_nil]
  refine setA_to hx6 (by decide) (by decide) (by simp) (by simp) rfl fun H7 h7 o7 => ?_
  refine wB_step ?_
  simp [-xB_cons, -xB_nil, h7, fget, fput, WNew]
  intro ta hta
  have hxta : x ≠ ta := ne_of hta h7
  refine c_init2 C (l := 4) (by exact Nat.le_of_lt (by assumption)) (upd_same _ _ _) hz (by decide) hw hch fun H8 tr TL TB rd sm gr f2 n1 n2 n3 n4 fr8 => ?_
  refine ⟨rfl, ?_⟩
  have hx8 := fr8.get (by simpa using hxta) ((upd_ne _ _ hxta).trans h7)
  refine setA_to hx8 (by decide) (by decide) (by simp [fput]) (by simp) rfl fun H9 h9 o9 => ?_
  rw [wB_nil]
  have c5 : ∀ {y : Addr} {o : MO}, y ≠ x → y ≠ rl → H5 y = some o → H9 y = some o := fun {y o} y1 y2 h => by
    have e7 : H7 y = some o := (o7 y y1).trans ((upd_ne _ _ y2).trans h)
    have yt : y ≠ ta := ne_of hta e7
    exact (o9 y y1).trans (fr8.get (by simpa using yt) ((upd_ne _ _ yt).trans e7))
  have c3 : ∀ {y : Addr} {o : MO}, y ≠ x → y ≠ rl → H3 y = some o → H9 y = some o := fun {y o} y1 y2 h => by
    have e4 := (upd_ne H3 (.list [.ref r1]) y2).trans h
    exact c5 y1 y2 (up5 (ne_of hr2 e4) e4)
  obtain ⟨m1, d1, hd1, _⟩ := pr1.d
  obtain ⟨b1, hb1, _⟩ := pr1.b
  obtain ⟨m2, d2, hd2, _⟩ := pr2.d
  obtain ⟨b2, hb2, _⟩ := pr2.b
  have eqs : ∀ {Hc : MH} {y : Addr} {o : MO}, Hc y = some o → H9 y = some o → H9 y = Hc y := fun h1 h2 => h2.trans h1.symm
  have nrl1 : ∀ {y : Addr} {o : MO}, (∀ xs, o ≠ .list xs) → H3 y = some o → y ≠ rl := fun ho h q => by rw [q, hl3] at h; exact ho _ (Option.some.inj h).symm
  have hB1rl : B1 ≠ rl := fun q => by
    have : B1 ≠ r1 := pr1.ne.2.2.symm
    rw [upd_ne _ _ this, q, upd_same] at hB1'; cases hB1'
  have hB2rl : B2 ≠ rl := fun q => by
    have : B2 ≠ r2 := pr2.ne.2.2.symm
    rw [upd_ne _ _ this, q, upd_same] at hB2'; cases hB2'
  have hB1x : B1 ≠ x := fun q => by rw [q, hx3] at hb1; cases hb1
  have hB2x : B2 ≠ x := fun q => by rw [q, hx5] at hb2; cases hb2
  have hL1x : L1 ≠ x := fun q => by rw [q, hx3] at hd1; cases hd1
  have hL2x : L2 ≠ x := fun q => by rw [q, hx5] at hd2; cases hd2
  have hL1rl : L1 ≠ rl := fun q => by rw [q, hl3] at hd1; cases hd1
  have hL2rl : L2 ≠ rl := fun q => by rw [q, hl5] at hd2; cases hd2
  have p1 : PR H9 r1 T 2 0 L1 B1 := pr1.keep (eqs pr1.h (c3 hxr1.symm hrl1.symm pr1.h)) (eqs hd1 (c3 hL1x hL1rl hd1)) (eqs hb1 (c3 hB1x hB1rl hb1))
  have p2 : PR H9 r2 T 3 0 L2 B2 := pr2.keep (eqs pr2.h (c5 hxr2.symm hrl2.symm pr2.h)) (eqs hd2 (c5 hL2x hL2rl hd2)) (eqs hb2 (c5 hB2x hB2rl hb2))
  have hx7t : (upd H7 ta (.inst 2 [])) x = some _ := (upd_ne _ _ hxta).trans h7
  have nx : ∀ b ∈ [ta, tr, rd, sm, gr], b ≠ x := mcons hxta.symm (mcons (ne_of n1 hx7t).symm (mcons (ne_of n2 hx7t).symm (mcons (ne_of n3 hx7t).symm (mcons (ne_of n4 hx7t).symm mnil))))
  have f9 : F2 H9 ta T w ch 4 0 tr TL TB rd sm gr := f2.keep fun b hb => o9 b (nx b hb)
  have l9 : H9 rl = some (.list [.ref r1, .ref r2]) := by
    have e7 : H7 rl = some (.list [.ref r1, .ref r2]) := (o7 rl hxrl.symm).trans (upd_same _ _ _)
    have yt : rl ≠ ta := ne_of hta e7
    exact (o9 rl hxrl.symm).trans (fr8.get (by simpa using yt) ((upd_ne _ _ yt).trans e7))
  have g1 : ∀ {y : Addr} {o : MO}, y ≠ x → H y = some o → H1 y = some o := fun y1 h => (o1 _ y1).trans h
  have g2 : ∀ {y : Addr} {o : MO}, y ≠ x → H y = some o → (upd H1 rl (.list [])) y = some o := fun y1 h => upd_old hrl (g1 y1 h)
  have g3 : ∀ {y : Addr} {o : MO}, y ≠ x → H y = some o → H3 y = some o := fun y1 h => up3 (ne_of hr1 (g2 y1 h)) (g2 y1 h)
  have g4 : ∀ {y : Addr} {o : MO}, y ≠ x → H y = some o → (upd H3 rl (.list [.ref r1])) y = some o := fun y1 h => (upd_ne _ _ (ne_of hrl (g1 y1 h))).trans (g3 y1 h)
  have g5 : ∀ {y : Addr} {o : MO}, y ≠ x → H y = some o → H5 y = some o := fun y1 h => up5 (ne_of hr2 (g4 y1 h)) (g4 y1 h)
  have g6 : ∀ {y : Addr} {o : MO}, y ≠ x → H y = some o → H7 y = some o := fun y1 h => (o7 _ y1).trans ((upd_ne _ _ (ne_of hrl (g1 y1 h))).trans (g5 y1 h))
  have g7 : ∀ {y : Addr} {o : MO}, y ≠ x → H y = some o → (upd H7 ta (.inst 2 [])) y = some o := fun y1 h => upd_old hta (g6 y1 h)
  have g9 : ∀ {y : Addr} {o : MO}, y ≠ x → H y = some o → H9 y = some o := fun y1 h => c5 y1 (ne_of hrl (g1 y1 h)) (g5 y1 h)
  have fresh : ∀ {y : Addr} {Hc : MH}, Hc y = none → (∀ o, H y = some o → Hc y = some o) → H y = none := fun {y} {Hc} h1 h2 => by
    cases e : H y with
    | none => rfl
    | some o => rw [h2 o e] at h1; cases h1
  refine hq H9 rl r1 L1 B1 r2 L2 B2 ta tr TL TB rd sm gr ⟨h9, l9, p1, p2, f9, ?_⟩ (fun y hy => ?_) (fun y hy hne => ?_)
  · have s4 : ∀ y ∈ [x, rl, r1, L1, B1], ∃ o, (upd H3 rl (.list [.ref r1])) y = some o := 
      mcons ⟨_, hx4⟩ (mcons ⟨_, hl4⟩ (mcons ⟨_, (upd_ne _ _ hrl1.symm).trans pr1.h⟩ (mcons ⟨_, (upd_ne _ _ hL1rl).trans hd1⟩ (mcons ⟨_, (upd_ne _ _ hB1rl).trans hb1⟩ mnil))))
    have s5 : ∀ y ∈ [x, rl, r1, L1, B1], ∀ z, (upd (upd H3 rl (.list [.ref r1])) r2 (.inst 0 [])) z = none → y ≠ z := fun y hy z hz =>
      (s4 y hy).elim fun o ho => ne_of hz (upd_old hr2 ho)
    have s7 : ∀ y ∈ [x, rl, r1, L1, B1, r2, L2, B2], ∃ o, H7 y = some o := fun y hy => by
      have up7 : ∀ {y : Addr} {o : MO}, y ≠ x → y ≠ rl → H5 y = some o → H7 y = some o := fun y1 y2 h => (o7 _ y1).trans ((upd_ne _ _ y2).trans h)
      have up3' : ∀ {y : Addr} {o : MO}, y ≠ rl → H3 y = some o → H5 y = some o := fun y2 h => by
        have e4 := (upd_ne H3 (.list [.ref r1]) y2).trans h
        exact up5 (ne_of hr2 e4) e4
      exact mcons (P := fun y => ∃ o, H7 y = some o) ⟨_, h7⟩ (mcons ⟨_, (o7 _ hxrl.symm).trans (upd_same _ _ _)⟩ (mcons ⟨_, up7 hxr1.symm hrl1.symm (up3' hrl1.symm pr1.h)⟩ (mcons ⟨_, up7 hL1x hL1rl (up3' hL1rl hd1)⟩ (mcons ⟨_, up7 hB1x hB1rl (up3' hB1rl hb1)⟩
        (mcons ⟨_, up7 hxr2.symm hrl2.symm pr2.h⟩ (mcons ⟨_, up7 hL2x hL2rl hd2⟩ (mcons ⟨_, up7 hB2x hB2rl hb2⟩ mnil))))))) y hy
    show (([x, rl, r1, L1, B1] ++ [r2, L2, B2]) ++ [ta, tr, rd, sm, gr]).Nodup
    refine List.nodup_append.mpr ⟨List.nodup_append.mpr ⟨?_, ?_, fun y hy z hz => ?_⟩, f2.ne, fun y hy z hz q => ?_⟩
    · obtain ⟨q1, q2, q3⟩ := pr1.ne
      simp [hxrl, hxr1, hL1x.symm, hB1x.symm, hrl1, hL1rl.symm, hB1rl.symm, q1, q2, q3]
    · obtain ⟨q1, q2, q3⟩ := pr2.ne
      simp [q1, q2, q3]
    · exact mcons (P := fun z => y ≠ z) ((s4 y hy).elim fun o ho => ne_of hr2 ho) (mcons (s5 y hy _ hL2') (mcons (s5 y hy _ hB2') mnil)) z hz
    · refine (s7 y hy).elim fun o ho => ?_
      have yt : y ≠ ta := ne_of hta ho
      have hy7 := (upd_ne H7 (.inst 2 []) yt).trans ho
      exact mcons (P := fun z => y ≠ z) yt (mcons (ne_of n1 hy7) (mcons (ne_of n2 hy7) (mcons (ne_of n3 hy7) (mcons (ne_of n4 hy7) mnil)))) z hz q
  · exact mcons (P := fun y => H y = none) (fresh hrl fun o => g1 hxrl.symm) (mcons (fresh hr1 fun o => g2 hxr1.symm) (mcons (fresh hL1' fun o h => upd_old hr1 (g2 hL1x h)) (mcons (fresh hB1' fun o h => upd_old hr1 (g2 hB1x h))
      (mcons (fresh hr2 fun o => g4 hxr2.symm) (mcons (fresh hL2' fun o h => upd_old hr2 (g4 hL2x h)) (mcons (fresh hB2' fun o h => upd_old hr2 (g4 hB2x h)) (mcons (fresh hta fun o => g6 hxta.symm)
      (mcons (fresh n1 fun o => g7 (ne_of n1 hx7t).symm) (mcons (fresh n2 fun o => g7 (ne_of n2 hx7t).symm) (mcons (fresh n3 fun o => g7 (ne_of n3 hx7t).symm) (mcons (fresh n4 fun o => g7 (ne_of n4 hx7t).symm) mnil))))))))))) y hy
  · have y1 : y ≠ x := by simpa using hy
    cases e : H y with
    | none => exact absurd e hne
    | some o => exact g9 y1 e
end
end Mine
end
-- part K25
section
open PySem PySem.Calls PyProof.Rows PySem.W
set_option maxHeartbeats 4000000
set_option maxRecDepth 100000
namespace Mine
section
variable {G : Gd} (C : Cx G) {n : Nat} {Q : V → MH → Prop} {H : MH} {x : Addr} {T : List Int} {w : Int}
include C
theorem c_finder_for {v N : Nat} (hv : v = 1 ∨ v = 2 ∨ v = 3) (hN : 6 ≤ N) (hn : 5 ≤ n) (hL : H (layersA G.K) = some (.tup [.int 2, .int 3])) (hz : T.length ≤ 4000) (hT : ∀ x ∈ T, 0 ≤ x ∧ x < 256) (hw : 1 ≤ w)
    (hq : ∀ a c F fp H', FinOK G N c F a T w (T.length + 1) 2 fp → F H' 0 → (∀ b ∈ fp, H b = none) → Fr H H' [] → Q (.ref a) H') :
    WCall G n (.top "finder_for") [.str v, .bytes T, .int 2, .int w, .int (T.length + 1)] Q H := by
  obtain ⟨k, rfl, hk⟩ := pred_of hn
  refine WCall.intro (C.at 37 rfl) ?_
  have e : fr0 p_finder_for_ln [.str v, .bytes T, .int 2, .int w, .int (T.length + 1)] = [.str v, .bytes T, .int 2, .int w, .int (T.length + 1)] := rfl
  rw [e]
  have frx : ∀ {x : Addr} {o : MO} {H' : MH}, H x = none → Fr (upd H x o) H' [x] → Fr H H' [] := fun {x o H'} hx f y _ hne => by
    have yx : y ≠ x := fun q => hne (by rw [q]; exact hx)
    have := f y (by simpa using yx) (by rw [upd_ne _ _ yx]; exact hne)
    rw [this, upd_ne _ _ yx]
  have un : ∀ {x y : Addr} {o : MO}, H x = none → (upd H x o) y = none → H y = none := fun {x y o} hx hy => by
    by_cases q : y = x
    · rw [q]; exact hx
    · rw [upd_ne _ _ q] at hy; exact hy
  simp [p_finder_for, WNew]
  have hch : (T.length : Int) < T.length + 1 := by lia
  refine ⟨by lia, fun _ x hx => ?_, fun _ => ⟨by lia, fun _ x hx => ?_, fun _ => ⟨by lia, fun _ x hx => ?_, by lia⟩⟩⟩
  · refine c_init1 C (l := 2) (by exact easy' (by assumption) rfl) (upd_same _ _ _) hz (by decide) hw (by exact Int.ofNat_le.mpr (by lia)) fun H' r L B f h1 h2 h3 fr => ⟨rfl, ?_⟩
    refine hq x 1 _ _ H' (fin1 C (by exact easy' (by assumption) rfl) hz (by decide) hch) f (fun b hb => ?_) (frx hx fr)
    simp only [List.mem_cons, List.not_mem_nil, or_false] at hb
    rcases hb with rfl | rfl | rfl | rfl
    · exact hx
    · exact un hx h1
    · exact un hx h2
    · exact un hx h3
  · refine c_init2 C (l := 2) (by exact easy' (by assumption) rfl) (upd_same _ _ _) hz (by decide) hw (by exact Int.ofNat_le.mpr (by lia)) fun H' r L B rd sm gr f h1 h2 h3 h4 fr => ⟨rfl, ?_⟩
    refine hq x 2 _ _ H' (fin2 C (by exact easy' (by assumption) rfl) hz (by decide) hch) f (fun b hb => ?_) (frx hx fr)
    simp only [List.mem_cons, List.not_mem_nil, or_false] at hb
    rcases hb with rfl | rfl | rfl | rfl | rfl
    · exact hx
    · exact un hx h1
    · exact un hx h2
    · exact un hx h3
    · exact un hx h4
  · refine c_init3 C (by omega) (upd_same _ _ _) (upd_old hx hL) hz hw (by exact Int.ofNat_le.mpr (by lia)) fun H' rl r1 L1 B1 r2 L2 B2 ta tr TL TB rd sm gr f h1 fr => ⟨rfl, ?_⟩
    refine hq x 3 _ _ H' (fin3 C (by omega) hz hT hch) f (fun b hb => ?_) (frx hx fr)
    rcases List.mem_cons.mp hb with rfl | hb
    · exact hx
    · exact un hx (h1 b hb)
end
end Mine
end
-- part K26
section
open PySem PySem.Calls PyProof.Rows PySem.W
set_option maxHeartbeats 4000000
set_option maxRecDepth 100000
namespace Mine
structure Dx (G : Gd) : Prop where
  c : Cx G
  d1 : defOk G.K (.top "least") .none = true
  d2 : defOk G.K (.meth 6 24) (.int 0) = true

theorem sub_k {H : MH} {a : Addr} {xs : List V} {v : V} {Q : V → MH → Prop} {k : Int} (j : Nat) (hk : k = (j : Int)) (h : H a = some (.list xs)) (hj : xs[j]? = some v) (hz : xs.length ≤ big) (hq : Q v H) : wSub (.ref a) (.int k) Q H := by
  subst hk; exact sub_at h hj hz hq
theorem sub_last {H : MH} {a : Addr} {xs : List V} {v : V} {Q : V → MH → Prop} (h : H a = some (.list (xs ++ [v]))) (hz : xs.length < big) (hq : Q v H) : wSub (.ref a) (.int (-1)) Q H := by
  rw [s_list h]
  refine ⟨by simp; assumption, xs.length, v, ?_, by simp, hq⟩
  unfold place
  rw [if_neg (by decide), if_pos (by simp; lia)]
  congr 1; simp; lia
theorem set_k {H : MH} {a : Addr} {xs : List V} {v : V} {T : MH → Prop} {k : Int} (j : Nat) (hk : k = (j : Int)) (h : H a = some (.list xs)) (hj : j < xs.length) (hz : xs.length ≤ big) (hq : T (upd H a (.list (xs.set j v)))) : wSet (.ref a) (.int k) v T H := by
  subst hk; exact set_at h hj hz hq
theorem sl_list {H : MH} {a : Addr} {xs : List V} {lo hi : V} {l h : Option Int} {Q : V → MH → Prop} (e1 : optInt lo = some l) (e2 : optInt hi = some h) (ha : H a = some (.list xs)) (hz : xs.length ≤ big) (hq : ∀ b, H b = none → Q (.ref b) (upd H b (.list (cut xs l h)))) : wSlice (.ref a) lo hi Q H := by
  unfold wSlice
  rw [e1, e2]
  dsimp only
  rw [ha]
  exact ⟨hz, hq⟩
theorem sl_ro {H : MH} {a : Addr} {xs : List V} {lo hi : V} {l h : Option Int} {Q : V → MH → Prop} (e1 : optInt lo = some l) (e2 : optInt hi = some h) (ha : H a = some (.ro xs)) (hz : xs.length ≤ big) (hq : ∀ b, H b = none → Q (.ref b) (upd H b (.list (cut xs l h)))) : wSlice (.ref a) lo hi Q H := by
  unfold wSlice
  rw [e1, e2]
  dsimp only
  rw [ha]
  exact ⟨hz, hq⟩
theorem sl_by {H : MH} {xs : List Int} {lo hi : V} {l h : Option Int} {Q : V → MH → Prop} (e1 : optInt lo = some l) (e2 : optInt hi = some h) (hz : xs.length ≤ big) (hq : Q (.bytes (cut xs l h)) H) : wSlice (.bytes xs) lo hi Q H := by
  unfold wSlice
  rw [e1, e2]
  exact ⟨hz, hq⟩
theorem cut_map {α β : Type} (f : α → β) (xs : List α) (lo hi : Option Int) : cut (xs.map f) lo hi = (cut xs lo hi).map f := by
  unfold cut; rw [List.length_map, List.map_take, List.map_drop]
theorem cut_to {α : Type} (xs : List α) (k : Nat) : cut xs none (some (k : Int)) = xs.take k := by
  unfold cut
  show (xs.drop 0).take (clipAt xs.length (k : Int) - 0) = _
  rw [clip_nat, List.drop_zero, Nat.sub_zero, ← List.take_eq_take_min]
theorem cut_from {α : Type} (xs : List α) (k : Nat) : cut xs (some (k : Int)) none = xs.drop k := by
  unfold cut
  show (xs.drop (clipAt xs.length (k : Int))).take (xs.length - clipAt xs.length (k : Int)) = _
  rw [clip_nat]
  rcases Nat.lt_or_ge k xs.length with h | h
  · rw [Nat.min_eq_left (by exact Nat.le_of_lt (by assumption)), List.take_of_length_le (by simp)]
  · rw [Nat.min_eq_right h, List.drop_of_length_le (by lia), List.drop_of_length_le h]; simp
theorem cut_fromto {α : Type} (xs : List α) (i j : Nat) : cut xs (some (i : Int)) (some (j : Int)) = (xs.drop i).take (j - i) := by
  unfold cut
  show (xs.drop (clipAt xs.length (i : Int))).take (clipAt xs.length (j : Int) - clipAt xs.length (i : Int)) = _
  rw [clip_nat, clip_nat]
  rcases Nat.lt_or_ge i xs.length with h | h
  · rw [Nat.min_eq_left (Nat.le_of_lt h)]
    rcases Nat.lt_or_ge j xs.length with h2 | h2
    · rw [Nat.min_eq_left (Nat.le_of_lt h2)]
    · rw [Nat.min_eq_right h2, List.take_of_length_le (by simp), List.take_of_length_le (by simp; exact Nat.le_trans (by assumption) (by lia))]
  · rw [Nat.min_eq_right h, List.drop_of_length_le (Nat.le_refl _), List.drop_of_length_le h]; simp
theorem cut_len {α : Type} (xs : List α) (lo hi : Option Int) : (cut xs lo hi).length ≤ xs.length := by
  unfold cut
  rw [List.length_take, List.length_drop]; exact Nat.le_trans (Nat.min_le_right _ _) (Nat.sub_le _ _)

structure BagOf (H : MH) (b g : Addr) (xs : List Int) (c : Nat) (o t z : Int) : Prop where
  h : H b = some (.list [.ref g, .int c, .int o, .int t, .int z])
  g : H g = some (.list (xs.map .int))
  l : xs.length ≤ 24
  o : 0 ≤ o ∧ o < 1021
  t : 0 ≤ t ∧ t < 1019
  z : z = 12 ∨ z = 6
noncomputable def Bag (H : MH) (b : Addr) (c : Nat) : Prop := ∃ g xs o t z, BagOf H b g xs c o t z
theorem BagOf.ne {H : MH} {b g : Addr} {xs : List Int} {c : Nat} {o t z : Int} (x : BagOf H b g xs c o t z) : b ≠ g := fun q => by
  have h1 := x.h
  rw [q, x.g] at h1
  cases xs with
  | nil => cases h1
  | cons _ _ => cases h1
theorem Bag.keep {H H' : MH} {b : Addr} {c : Nat} (x : Bag H b c) (s : ∀ y o, H y = some o → H' y = some o) : Bag H' b c := by
  obtain ⟨g, xs, o, t, z, x⟩ := x
  exact ⟨g, xs, o, t, z, s _ _ x.h, s _ _ x.g, x.l, x.o, x.t, x.z⟩
noncomputable def Off (H : MH) (b y : Addr) : Prop := y ≠ b ∧ ∀ g r, H b = some (.list (.ref g :: r)) → g ≠ y
theorem Bag.off {H : MH} {b y : Addr} {c : Nat} (x : Bag H b c) (h : H y = none) : Off H b y := by
  obtain ⟨g, xs, o, t, z, x⟩ := x
  refine ⟨fun q => (by rw [q, x.h] at h; cases h), fun g' r e => ?_⟩
  rw [x.h] at e
  cases e
  exact ne_of h x.g
theorem Off.keep {H H' : MH} {b y : Addr} (x : Off H b y) (e : H' b = H b) : Off H' b y := ⟨x.1, fun g r h => x.2 g r (by rw [← e]; exact h)⟩
theorem Bag.turn {H : MH} {b y : Addr} {c : Nat} (x : Bag H b c) (h : Off H b y) (o : MO) : Bag (upd H y o) b c ∧ Off (upd H y o) b y := by
  have e : (upd H y o) b = H b := upd_ne _ _ h.1.symm
  refine ⟨?_, h.keep e⟩
  obtain ⟨g, xs, o', t, z, x⟩ := x
  exact ⟨g, xs, o', t, z, by rw [e]; exact x.h, by rw [upd_ne _ _ (h.2 g _ x.h)]; exact x.g, x.l, x.o, x.t, x.z⟩
theorem Bag.sub {H H' : MH} {b : Addr} {c : Nat} (x : Bag H b c) (s : Sub H H') : Bag H' b c := x.keep s
theorem Fr.sub0 {H H' : MH} (f : Fr H H' []) : Sub H H' := fun a o e => f.get (by simp) e
theorem Fr.two {H H1 H2 : MH} {fp : List Addr} (a : Fr H H1 fp) (b : Fr H1 H2 []) : Fr H H2 fp := a.trans (b.le (fun _ h => nomatch h))
theorem Fr.new {H H1 : MH} {fp : List Addr} (a : Fr H H1 fp) {y : Addr} {o : MO} (h : H1 y = none) : Fr H (upd H1 y o) fp := a.trans (Fr.sub (Sub.fresh h o))
theorem Fr.turn {H H1 : MH} {fp : List Addr} (a : Fr H H1 fp) {y : Addr} {o : MO} (h : y ∈ fp ∨ H y = none) : Fr H (upd H1 y o) fp := fun b h1 h2 => by
  have hb : b ≠ y := fun q => h.elim (fun h => h1 (q ▸ h)) fun h => h2 (q ▸ h)
  rw [upd_ne _ _ hb, a b h1 h2]
section
variable {G : Gd} (C : Cx G) {n : Nat} {Q : V → MH → Prop} {H : MH}
include C
theorem c_take {b : Addr} {c : Nat} {m : Int} (hn : 1 ≤ n) (x : Bag H b c) (hc : c ≤ 100000) (hm : 0 < m) (hm' : m ≤ 1000000)
    (hq : ∀ d H', 0 ≤ d → d < m → Bag H' b (c + 1) → Fr H H' [b] → (∀ y, H y ≠ none → Off H b y → Off H' b y) → Q (.int d) H') : WCall G n (.top "_law_take") [.ref b, .int m] Q H := by
  obtain ⟨k, rfl, hk⟩ := pred_of hn
  have hbg : big = 16777216 := rfl
  obtain ⟨g, xs, o, t, z, x⟩ := x
  refine WCall.intro (C.at 39 rfl) ?_
  have e : fr0 p_law_take_ln [.ref b, .int m] = [.ref b, .int m, .odd, .odd] := rfl
  rw [e]
  unfold p_law_take
  refine wB_step ?_
  simp [-xB_cons, -xB_nil]
  refine sub_k 1 rfl x.h rfl (by simp [hbg]) ?_
  simp [-xB_cons, -xB_nil]
  refine set_k 1 rfl x.h (by simp) (by simp [hbg]) ?_
  obtain ⟨H1, hH1⟩ : ∃ H1, H1 = upd H b (.list ([V.ref g, .int c, .int o, .int t, .int z].set 1 (.int (c + 1)))) := ⟨_, rfl⟩
  rw [← hH1]
  have x1 : BagOf H1 b g xs (c + 1) o t z := by
    refine ⟨?_, ?_, x.l, x.o, x.t, x.z⟩
    · rw [hH1, upd_same]; rfl
    · rw [hH1, upd_ne _ _ x.ne.symm]; exact x.g
  have f1 : Fr H H1 [b] := by rw [hH1]; exact (Fr.refl _ _).turn (.inl (by simp))
  refine wB_step ?_
  simp [-xB_cons, -xB_nil]
  refine sub_k 0 rfl x1.h rfl (by simp [hbg]) ?_
  simp [-xB_cons, -xB_nil, x1.g]
  refine ⟨fun hne => ?_, fun he => ?_⟩
  · obtain ⟨y, ys, rfl⟩ : ∃ y ys, xs = y :: ys := by cases xs with | nil => exact absurd rfl hne | cons y ys => exact ⟨y, ys, rfl⟩
    have hl := x1.l
    refine wB_step ?_
    simp [-xB_cons, -xB_nil]
    refine sub_k 0 rfl x1.h rfl (by simp [hbg]) ?_
    refine sub_k 0 rfl x1.g rfl (by simp at hl ⊢; exact Nat.lt_of_le_of_lt (by assumption) (by lia)) ?_
    simp [-xB_cons, -xB_nil, hm]
    refine sub_k 0 rfl x1.h rfl (by simp [hbg]) ?_
    refine sub_k 0 rfl x1.g rfl (by simp at hl ⊢; exact Nat.lt_of_le_of_lt (by assumption) (by lia)) ?_
    simp [-xB_cons, -xB_nil, hm, hm']
    refine ⟨by decide, wB_step ?_⟩
    simp [-xB_cons, -xB_nil]
    refine ⟨by simp [hbg], fun a1 h1 => ⟨fun _ => ?_, fun _ => ?_⟩⟩
    all_goals
      rw [b_rep (upd_same _ _ _)]
      refine ⟨by unfold short; decide, by simp [hbg], fun a2 h2 => ?_⟩
      have hr : ∀ κ : Int, κ = 0 ∨ κ = 1 → ∃ rs : List Int, rs.length ≤ 1 ∧ repL [V.int (y / m)] κ.toNat = rs.map .int := fun κ h => by
        rcases h with rfl | rfl
        · exact ⟨[], by simp, rfl⟩
        · exact ⟨[y / m], by simp, rfl⟩
      first | obtain ⟨rs, r1, r2⟩ := hr 0 (.inl rfl); rw [r2] | obtain ⟨rs, r1, r2⟩ := hr 1 (.inr rfl); rw [r2]
      have s2 : Sub H1 (upd (upd H1 a1 (.list [.int (y / m)])) a2 (.list (rs.map .int))) := (Sub.fresh h1 _).trans (Sub.fresh h2 _)
      obtain ⟨H2, e2⟩ : ∃ H2, H2 = upd (upd H1 a1 (.list [.int (y / m)])) a2 (.list (rs.map .int)) := ⟨_, rfl⟩
      have g2 : H2 a2 = some (.list (rs.map .int)) := by rw [e2, upd_same]
      rw [← e2] at s2 ⊢
      refine sub_k 0 rfl (s2 _ _ x1.h) rfl (by simp [hbg]) ?_
      simp [-xB_cons, -xB_nil]
      refine sl_list rfl rfl (s2 _ _ x1.g) (by simp at hl ⊢; exact Nat.lt_of_le_of_lt (by assumption) (by lia)) fun a3 h3 => ?_
      rw [cut_map]
      have s3 := Sub.fresh h3 (.list ((cut (y :: ys) (some 1) none).map .int))
      simp [-xB_cons, -xB_nil]
      rw [b_lists (s3 _ _ g2) (upd_same _ _ _)]
      have hcl := cut_len (y :: ys) (some 1) none
      have hct : (cut (y :: ys) (some 1) none).length + 1 ≤ 24 := by
        rw [show (some (1 : Int)) = some ((1 : Nat) : Int) from rfl, cut_from]
        simp at hl ⊢; omega
      refine ⟨by simp only [List.length_map]; lia, fun a4 h4 => ?_⟩
      have s4 := Sub.fresh h4 (.list (rs.map V.int ++ (cut (y :: ys) (some 1) none).map V.int))
      have sA := (s2.trans s3).trans s4
      refine set_k 0 rfl (sA _ _ x1.h) (by simp) (by simp [hbg]) ?_
      simp [-xB_cons, -xB_nil]
      refine hq _ _ (Int.emod_nonneg _ (by lia)) (Int.emod_lt_of_pos _ hm) ⟨a4, rs ++ cut (y :: ys) (some 1) none, o, t, z, ?_, ?_, ?_, x1.o, x1.t, x1.z⟩ ?_ ?_
      · rw [upd_same]; rfl
      · rw [upd_ne _ _ (ne_of h4 ((s2.trans s3) _ _ x1.h)).symm, upd_same, List.map_append]
      · rw [List.length_append]; lia
      · exact (f1.trans (Fr.sub (fp := [b]) sA)).turn (.inl (List.mem_singleton.mpr rfl))
      · intro y' hy' off
        refine ⟨off.1, fun g' r e' => ?_⟩
        have e'' := (upd_same _ _ _).symm.trans e'
        cases e''
        intro q
        subst q
        have : H1 a4 = H a4 := f1 a4 (by simpa using off.1) hy'
        cases q2 : H a4 with
        | none => exact hy' q2
        | some o => rw [q2] at this; rw [(s2.trans s3) _ _ this] at h4; cases h4
  · rw [wB_nil]
    refine wB_step ?_
    simp [-xB_cons, -xB_nil]
    refine sub_k 2 rfl x1.h rfl (by simp [hbg]) ?_
    refine sub_k 1 rfl x1.h rfl (by simp [hbg]) ?_
    simp [-xB_cons, -xB_nil]
    refine ⟨.inl (by unfold short; decide), .inl (by unfold short; have := x1.o; lia), ?_⟩
    refine sub_k 3 rfl x1.h rfl (by simp [hbg]) ?_
    refine sub_k 1 rfl x1.h rfl (by simp [hbg]) ?_
    simp [-xB_cons, -xB_nil]
    refine ⟨.inl (by unfold short; have := x1.t; lia), ?_⟩
    refine sub_k 1 rfl x1.h rfl (by simp [hbg]) ?_
    simp [-xB_cons, -xB_nil]
    refine ⟨.inr (by unfold short; lia), ?_⟩
    refine sub_k 1 rfl x1.h rfl (by simp [hbg]) ?_
    simp [-xB_cons, -xB_nil, hm]
    refine hq _ _ (Int.emod_nonneg _ (by lia)) (Int.emod_lt_of_pos _ hm) ⟨_, _, _, _, _, x1⟩ f1 (fun y' hy' off => ⟨off.1, fun g' r e' => ?_⟩)
    rw [x1.h] at e'
    cases e'
    exact off.2 g _ x.h
end
end Mine
end
-- part K27
section
open PySem PySem.Calls PyProof.Rows PySem.W
set_option maxHeartbeats 4000000
set_option maxRecDepth 100000
namespace Mine
@[local simp] theorem lkd_27 {α : Type} {x : α} : @lk α ⟨x⟩ = x := rfl
theorem sub_in {H : MH} {a : Addr} {xs : List Int} {d : Int} {Q : V → MH → Prop} (h : H a = some (.list (xs.map .int))) (h0 : 0 ≤ d) (h1 : d < xs.length) (hz : xs.length ≤ big) (hq : ∀ v ∈ xs, Q (.int v) H) : wSub (.ref a) (.int d) Q H := by
  obtain ⟨j, rfl⟩ : ∃ j : Nat, d = j := ⟨d.toNat, by lia⟩
  have hj : j < xs.length := by exact Int.ofNat_lt.mp (by assumption)
  refine sub_at h (v := .int xs[j]) (by rw [List.getElem?_map, List.getElem?_eq_getElem hj]; rfl) (by simpa using hz) (hq _ (List.getElem_mem hj))
theorem Bag.nl {H : MH} {b y : Addr} {c : Nat} {xs : List Int} (x : Bag H b c) (h : H y = some (.list (xs.map .int))) : y ∉ [b] := by
  obtain ⟨g, xs', o, t, z, x⟩ := x
  intro q
  have q : y = b := by simpa using q
  rw [q, x.h] at h
  cases xs with
  | nil => cases h
  | cons _ _ => cases h
noncomputable abbrev let3 : List Int := [97, 0, 255]
noncomputable def Octs (xs : List Int) : Prop := ∀ x ∈ xs, x ∈ let3
theorem Octs.app {xs ys : List Int} (a : Octs xs) (b : Octs ys) : Octs (xs ++ ys) := fun x h => (List.mem_append.mp h).elim (a x) (b x)
theorem Octs.cut {xs : List Int} (a : Octs xs) (l h : Option Int) : Octs (cut xs l h) := fun x hx => a x (List.mem_of_mem_drop (List.mem_of_mem_take hx))
theorem Octs.r {xs : List Int} (a : Octs xs) : ∀ x ∈ xs, 0 ≤ x ∧ x < 256 := fun x h => by
  have := a x h
  simp at this
  rcases this with rfl | rfl | rfl <;> lia
theorem Octs.one {v : Int} (h : v ∈ let3) : Octs [v] := fun x hx => by simp at hx; subst hx; exact h
theorem octs3 : Octs let3 := fun _ h => h
theorem nd_text : p_law_text_ln.Nodup := by decide +kernel
section
variable {G : Gd} (C : Cx G) {n : Nat} {Q : V → MH → Prop} {H : MH}
include C
theorem l_draw {R : MH → Prop} {b lt acc : Addr} {m : Int} {v2 v3 v4 v6 : V} {H₀ : MH} (hn : 1 ≤ n) (hm : 0 < m) (hm' : m ≤ 3) (hac : H₀ acc = none) :
    ∀ (k : Nat) (x0 : Int) (ys : List Int) (o7 : V) (c : Nat) (H : MH), Bag H b c → Off H b acc → c + k ≤ 100000 → H acc = some (.list (ys.map .int)) → H lt = some (.list (let3.map .int)) → lt ≠ acc → Octs ys → ys.length + k ≤ 1000 → Fr H₀ H [b] →
      (∀ ys' H', Bag H' b (c + k) → H' acc = some (.list (ys'.map .int)) → Octs ys' → ys'.length = ys.length + k → Fr H₀ H' [b] → R H') →
      WComp G p_law_text_ln n p_law_text_ce0 7 p_law_text_cc1 (.rng x0 k 1) acc [.ref b, .ref lt, v2, v3, v4, .int m, v6, o7] R H := by
  have hbg : big = 16777216 := rfl
  intro k
  induction k with
  | zero =>
    intro x0 ys o7 c H x off hc ha hl ne ho hy fr hR
    refine WComp.step nd_text ?_
    simp only [Src.next]
    exact hR ys H x ha ho rfl fr
  | succ k ih =>
    intro x0 ys o7 c H x off hc ha hl ne ho hy fr hR
    refine WComp.step nd_text ?_
    simp only [Src.next]
    simp [p_law_text_cc1, p_law_text_ce0]
    refine c_take C hn x (by lia) hm (by lia) fun d H1 d0 d1 x1 f1 k1 => ?_
    have ha1 := f1.get (x.nl ha) ha
    have hl1 := f1.get (x.nl hl) hl
    have off1 := k1 acc (by rw [ha]; simp) off
    refine sub_in hl1 d0 (by simp; exact Int.lt_of_lt_of_le (by assumption) (by assumption)) (by simp [hbg]) fun v hv => ?_
    simp only [ha1]
    refine ⟨by simp; lia, by simp, ?_⟩
    obtain ⟨x2, off2⟩ := x1.turn off1 (.list (ys.map V.int ++ [.int v]))
    show WComp G p_law_text_ln n p_law_text_ce0 7 p_law_text_cc1 _ _ _ _ _
    refine ih (x0 + 1) (ys ++ [v]) _ (c + 1) _ x2 off2 (by lia) (by rw [upd_same, List.map_append]; rfl) ((upd_ne _ _ ne).trans hl1) ne (ho.app (.one hv)) (by simp; lia) ((fr.trans f1).turn (.inr hac)) fun ys' H' a1 a2 a3 a4 a5 => hR ys' H' (by rw [show c + (k + 1) = c + 1 + k by lia]; exact a1) a2 a3 (by rw [a4]; simp; exact Nat.add_right_comm _ _ _) a5

omit C in
theorem text_end {b fd : Addr} {c : Nat} {fs : List Int} {v1 v2 v3 v5 v6 v7 : V} {R : V → MH → Prop} (x : Bag H b c) (h : H fd = some (.list (fs.map .int))) (ho : Octs fs) (h1 : 1 ≤ fs.length) (h2 : fs.length ≤ 1000)
    (hq : ∀ T H', Octs T → 1 ≤ T.length → T.length ≤ 12 → Bag H' b c → Fr H H' [b] → R (.bytes T) H') :
    wE G p_law_text_ln n (.bi 6 (.cons (.slice (.loc 4) .none (.sub (.loc 0) (.int 4))) .nil)) [.ref b, v1, v2, v3, .ref fd, v5, v6, v7] R H := by
  have hbg : big = 16777216 := rfl
  have x0 := x
  obtain ⟨g, xs, o, t, z, x⟩ := x
  simp
  refine sub_k 4 rfl x.h rfl (by simp [hbg]) ?_
  refine sl_list rfl rfl h (by simp; exact easy (by assumption) rfl) fun a ha => ?_
  rw [cut_map]
  have hlen : 1 ≤ (cut fs none (some z)).length ∧ (cut fs none (some z)).length ≤ 12 := by
    rcases x.z with rfl | rfl
    · rw [show (some (12 : Int)) = some ((12 : Nat) : Int) from rfl, cut_to, List.length_take]; lia
    · rw [show (some (6 : Int)) = some ((6 : Nat) : Int) from rfl, cut_to, List.length_take]; lia
  rw [bi_bytes_l (upd_same _ _ _) (allInts_map _)]
  exact ⟨by lia, (ho.cut _ _).r, hq _ _ (ho.cut _ _) hlen.1 hlen.2 (x0.sub (Sub.fresh ha _)) ((Fr.refl _ _).turn (.inr ha))⟩

theorem l_text {K : Fl → List V → MH → Prop} {b lt : Addr} {m : Int} {H₀ : MH} (hn : 1 ≤ n) (hm : 0 < m) (hm' : m ≤ 3) :
    ∀ (k : Nat) (x0 : Int) (fs : List Int) (fd : Addr) (o2 o6 o7 : V) (c : Nat) (H : MH), Bag H b c → c + 6 * k ≤ 90000 → H fd = some (.list (fs.map .int)) → H lt = some (.list (let3.map .int)) → Octs fs → fs.length + 6 * k ≤ 900 → 1 ≤ fs.length + k → Fr H₀ H [b] →
      (∀ fs' fd' o2' o6' o7' c' H', c' ≤ c + 6 * k → Bag H' b c' → H' fd' = some (.list (fs'.map .int)) → Octs fs' → 1 ≤ fs'.length → fs'.length ≤ 1000 → Fr H₀ H' [b] → K .next [.ref b, .ref lt, o2', .odd, .ref fd', .int m, o6', o7'] H') →
      WFor G p_law_text_ln n (.v 2) p_law_text_fb2 (.rng x0 k 1) [.ref b, .ref lt, o2, .odd, .ref fd, .int m, o6, o7] K H := by
  have hbg : big = 16777216 := rfl
  intro k
  induction k with
  | zero =>
    intro x0 fs fd o2 o6 o7 c H x hc hf hl ho hlen h1 fr hK
    refine WFor.step nd_text ?_
    simp only [Src.next]
    exact hK fs fd o2 o6 o7 c H (by exact Nat.le_add_right _ _) x hf ho (by omega) (by exact easy (by assumption) rfl) fr
  | succ k ih =>
    intro x0 fs fd o2 o6 o7 c H x hc hf hl ho hlen h1 fr hK
    refine WFor.turn nd_text (v := .int x0) (src' := .rng (x0 + 1) k 1) rfl fun Q' hN _ _ _ => ?_
    rw [wT_v]
    -- the two ways of a turn
    have els : ∀ {Q' : Fl → List V → MH → Prop} {H1 : MH} {c1 : Nat} {o6 : V}, (∀ fr'' H, WFor G p_law_text_ln n (.v 2) p_law_text_fb2 (.rng (x0 + 1) k 1) fr'' K H → Q' .next fr'' H) → Bag H1 b c1 → c1 ≤ c + 1 → H1 fd = some (.list (fs.map .int)) → H1 lt = some (.list (let3.map .int)) → Fr H₀ H1 [b] →
        wB G p_law_text_ln n (.cons (.asg (.v 4) (.bin .Add (.loc 4) (.comp p_law_text_ce0 7 (.bi 7 (.cons (.bin .Add (.int 1) (.call "_law_take" (.cons (.loc 0) (.cons (.int 4) .nil)))) .nil)) p_law_text_cc1))) .nil) [.ref b, .ref lt, .int x0, .odd, .ref fd, .int m, o6, o7] Q' H1 := by
      intro Q' H1 c1 o6 hN x1 hc1 hf1 hl1 fr1
      refine wB_go fun Q2 h2 _ _ _ => ?_
      simp
      refine c_take C hn x1 (by exact Nat.le_trans (by assumption) (by lia)) (by exact Int.natCast_nonneg _) (by exact Int.natCast_nonneg _) fun d H2 d0 d1 x2 f2 _ => ?_
      simp
      refine ⟨by unfold rsm; lia, fun acc hac => ?_⟩
      have hf2 := f2.get (x1.nl hf1) hf1
      have hl2 := f2.get (x1.nl hl1) hl1
      have fr2 := fr1.trans f2
      have s3 := Sub.fresh hac (.list [])
      have x3 := x2.sub s3
      have off3 := (x2.off hac).keep (H' := upd H2 acc (.list [])) (upd_ne _ _ (x2.off hac).1.symm)
      refine l_draw C (H₀ := H2) hn hm hm' hac _ 0 [] _ _ _ x3 off3 (by lia) (upd_same _ _ _) (s3 _ _ hl2) (ne_of hac hl2) (fun _ h => nomatch h) (by simp; lia) ((Fr.refl _ _).turn (.inr hac)) fun ys' H4 x4 ha4 o4 l4 f4 => ?_
      have hf4 := f4.get (x2.nl hf2) hf2
      have hl4 := f4.get (x2.nl hl2) hl2
      rw [b_lists hf4 ha4]
      simp at l4
      refine ⟨by simp; lia, fun a5 h5 => ?_⟩
      rw [wT_v]
      refine h2 _ _ ?_
      rw [wB_nil]
      refine hN _ _ ?_
      have s5 := Sub.fresh h5 (.list (fs.map V.int ++ ys'.map V.int))
      refine ih (x0 + 1) (fs ++ ys') a5 _ _ _ _ _ (x4.sub s5) (by lia) (by rw [upd_same, List.map_append]) (s5 _ _ hl4) (ho.app o4) (by simp; lia) (by simp; exact Nat.le_trans (by assumption) (by lia)) ((fr2.trans f4).trans (Fr.sub s5)) fun fs' fd' o2' o6' o7' c' H' a1 a2 a3 a4 a5 a6 a7 => hK fs' fd' o2' o6' o7' c' H' (by exact Nat.le_trans (by assumption) (by lia)) a2 a3 a4 a5 a6 a7
    unfold p_law_text_fb2
    refine wB_go fun Q2 h2 _ _ _ => ?_
    simp [-xB_cons, -xB_nil, hf]
    have h2' : ∀ fr' H', Q' .next fr' H' → Q2 .next fr' H' := fun fr' H' h => h2 fr' H' (by rw [wB_nil]; exact h)
    refine ⟨fun hne => ?_, fun he => els (fun fr'' H h => h2' _ _ (hN _ _ h)) x (by exact Nat.le_succ _) hf hl fr⟩
    refine c_take C hn x (by lia) (by exact Int.natCast_nonneg _) (by exact Int.natCast_nonneg _) fun d H1 d0 d1 x1 f1 _ => ?_
    have hf1 := f1.get (x.nl hf) hf
    have hl1 := f1.get (x.nl hl) hl
    rw [c_gt]
    refine ⟨fun _ => ?_, fun _ => els (fun fr'' H h => h2' _ _ (hN _ _ h)) x1 (by exact Nat.lt_succ_self _) hf1 hl1 (fr.trans f1)⟩
    have hpos : 1 ≤ fs.length := by cases fs with | nil => exact absurd rfl hne | cons _ _ => simp
    refine wB_go fun Q3 h3 _ _ _ => ?_
    simp [-xB_cons, -xB_nil, hf1]
    refine ⟨by lia, ?_⟩
    refine c_take C hn x1 (by lia) (by exact Int.ofNat_le.mpr (by assumption)) (by exact Int.ofNat_le.mpr (by lia)) fun d2 H2 d20 d21 x2 f2 _ => ?_
    have hf2 := f2.get (x1.nl hf1) hf1
    have hl2 := f2.get (x1.nl hl1) hl1
    refine h3 _ _ (wB_go fun Q4 h4 _ _ _ => ?_)
    simp [-xB_cons, -xB_nil]
    refine c_take C hn x2 (by lia) (by exact Int.natCast_nonneg _) (by exact Int.natCast_nonneg _) fun d3 H3 d30 d31 x3 f3 _ => ?_
    have hf3 := f3.get (x2.nl hf2) hf2
    have hl3 := f3.get (x2.nl hl2) hl2
    simp
    refine sl_list rfl rfl hf3 (by simp; lia) fun a4 h4' => ?_
    rw [cut_map]
    have hcl : (cut fs (some d2) (some (d2 + 2 + d3))).length ≤ 6 := by
      obtain ⟨i, rfl⟩ : ∃ i : Nat, d2 = i := ⟨d2.toNat, by lia⟩
      obtain ⟨j, hj⟩ : ∃ j : Nat, (i : Int) + 2 + d3 = j := ⟨((i : Int) + 2 + d3).toNat, by lia⟩
      rw [hj, cut_fromto, List.length_take]; exact Nat.le_trans (Nat.min_le_left _ _) (by lia)
    have s4 := Sub.fresh h4' (.list ((cut fs (some d2) (some (d2 + 2 + d3))).map V.int))
    rw [b_lists (s4 _ _ hf3) (upd_same _ _ _)]
    refine ⟨by simp; lia, fun a5 h5 => h4 _ _ ?_⟩
    rw [wB_nil]
    refine h2' _ _ (hN _ _ ?_)
    have s5 := Sub.fresh h5 (.list (fs.map V.int ++ (cut fs (some d2) (some (d2 + 2 + d3))).map V.int))
    have s45 := s4.trans s5
    refine ih (x0 + 1) (fs ++ cut fs (some d2) (some (d2 + 2 + d3))) a5 _ _ _ _ _ (x3.sub s45) (by lia) (by rw [upd_same, List.map_append]) (s45 _ _ hl3) (ho.app (ho.cut _ _)) (by simp; lia) (by simp; exact Nat.le_trans (by assumption) (by lia)) ((((fr.trans f1).trans f2).trans f3).trans (Fr.sub s45)) fun fs' fd' o2' o6' o7' c' H' a1 a2 a3 a4 a5 a6 a7 => hK fs' fd' o2' o6' o7' c' H' (by exact Nat.le_trans (by assumption) (by lia)) a2 a3 a4 a5 a6 a7

theorem c_text {b : Addr} {c : Nat} (hn : 2 ≤ n) (x : Bag H b c) (hc : c ≤ 50000)
    (hq : ∀ T c' H', Octs T → 1 ≤ T.length → T.length ≤ 12 → c' ≤ c + 60 → Bag H' b c' → Fr H H' [b] → Q (.bytes T) H') : WCall G n (.top "_law_text") [.ref b] Q H := by
  obtain ⟨k, rfl, hk⟩ := pred_of hn
  have hbg : big = 16777216 := rfl
  refine WCall.go (C.at 40 rfl) fun Q0 hR hN => ?_
  have e : fr0 p_law_text_ln [.ref b] = [.ref b, .odd, .odd, .odd, .odd, .odd, .odd, .odd] := rfl
  rw [e]
  unfold p_law_text
  refine wB_step ?_
  simp [-xB_cons, -xB_nil]
  refine ⟨by simp [hbg], fun lt hlt => ?_⟩
  have f1 : Fr H (upd H lt (.list (let3.map .int))) [b] := (Fr.refl _ _).turn (.inr hlt)
  have x1 : Bag (upd H lt (.list (let3.map .int))) b c := x.sub (Sub.fresh hlt _)
  have hl1 : (upd H lt (.list (let3.map .int))) lt = some (.list (let3.map .int)) := upd_same _ _ _
  obtain ⟨H1, eH1⟩ : ∃ H1, H1 = upd H lt (.list (let3.map .int)) := ⟨_, rfl⟩
  rw [← eH1] at f1 x1 hl1
  show wB _ _ _ _ _ _ (upd H lt (.list (let3.map .int)))
  rw [← eH1]
  refine wB_step ?_
  simp [-xB_cons, -xB_nil]
  refine c_take C (by omega) x1 (by exact easy (by assumption) rfl) (by exact Int.natCast_nonneg _) (by exact Int.natCast_nonneg _) fun d H2 d0 d1 x2 f2 _ => ?_
  have hl2 := f2.get (x1.nl hl1) hl1
  have f2' := f1.trans f2
  simp [-xB_cons, -xB_nil]
  refine ⟨fun _ => ?_, fun _ => ?_⟩
  · refine wB_step ?_
    simp [-xB_cons, -xB_nil]
    refine c_take C (by omega) x2 (by exact Nat.lt_of_le_of_lt (by assumption) (by lia)) (by exact Int.natCast_nonneg _) (by exact Int.natCast_nonneg _) fun d H3 d0 d1 x3 f3 _ => ?_
    have hl3 := f3.get (x2.nl hl2) hl2
    refine sub_in hl3 d0 d1 (by simp [hbg]) fun v hv => ⟨by simp [hbg], fun a1 h1 => ?_⟩
    have s1 := Sub.fresh h1 (.list [V.int v])
    rw [b_lists (s1 _ _ hl3) (upd_same _ _ _)]
    refine ⟨by simp [hbg], fun a2 h2 => ?_⟩
    have s2 := Sub.fresh h2 (.list ((let3.map V.int) ++ [V.int v]))
    have s12 := s1.trans s2
    have x4 := x3.sub s12
    have hl4 := s12 _ _ hl3
    have hw4 : (upd (upd H3 a1 (.list [V.int v])) a2 (.list ((let3.map V.int) ++ [V.int v]))) a2 = some (.list ((let3 ++ [v]).map .int)) := upd_same _ _ _
    have f4 := (f2'.trans f3).trans (Fr.sub (fp := [b]) s12)
    obtain ⟨H4, eH4⟩ : ∃ H4, H4 = upd (upd H3 a1 (.list [V.int v])) a2 (.list ((let3.map V.int) ++ [V.int v])) := ⟨_, rfl⟩
    rw [← eH4] at x4 hl4 hw4 f4 ⊢
    have o4 : Octs (let3 ++ [v]) := octs3.app (.one hv)
    rw [wT_v, wB_cons]
    simp [-xB_cons, -xB_nil]
    refine c_take C (by omega) x4 (by lia) (by exact Int.natCast_nonneg _) (by exact Int.natCast_nonneg _) fun d' H5 d0' d1' x5 f5 _ => ?_
    have hl5 := f5.get (x4.nl hl4) hl4
    have hw5 := f5.get (x4.nl hw4) hw4
    simp [-xB_cons, -xB_nil]
    refine sl_list rfl rfl hw5 (by simp [hbg]) fun wd hwd => ?_
    rw [cut_map]
    have s6 := Sub.fresh hwd (.list ((cut (let3 ++ [v]) none (some (3 + d'))).map V.int))
    have x6 := x5.sub s6
    have hl6 := s6 _ _ hl5
    have f6 := (f4.trans f5).trans (Fr.sub (fp := [b]) s6)
    have hw6 : (upd H5 wd (.list ((cut (let3 ++ [v]) none (some (3 + d'))).map V.int))) wd = some (.list ((cut (let3 ++ [v]) none (some (3 + d'))).map V.int)) := upd_same _ _ _
    have o6 := o4.cut none (some (3 + d'))
    have lw6 : 1 ≤ (cut (let3 ++ [v]) none (some (3 + d'))).length ∧ (cut (let3 ++ [v]) none (some (3 + d'))).length ≤ 4 := by
      obtain ⟨m, hm⟩ : ∃ m : Nat, 3 + d' = m := ⟨(3 + d').toNat, by lia⟩
      rw [hm, cut_to, List.length_take]; simp; omega
    obtain ⟨ws, ews⟩ : ∃ ws, ws = cut (let3 ++ [v]) none (some (3 + d')) := ⟨_, rfl⟩
    rw [← ews] at x6 hl6 f6 hw6 o6 lw6 ⊢
    obtain ⟨H6, eH6⟩ : ∃ H6, H6 = upd H5 wd (.list (ws.map V.int)) := ⟨_, rfl⟩
    rw [← eH6] at x6 hl6 f6 hw6 ⊢
    rw [wT_v, wB_cons]
    simp [-xB_cons, -xB_nil]
    refine c_take C (by omega) x6 (by lia) (by exact Int.natCast_nonneg _) (by exact Int.natCast_nonneg _) fun d2 H7 d20 d21 x7 f7 _ => ?_
    have hl7 := f7.get (x6.nl hl6) hl6
    have hw7 := f7.get (x6.nl hw6) hw6
    simp [-xB_cons, -xB_nil]
    refine sl_list rfl rfl hw7 (by simp; lia) fun a7 h7 => ?_
    rw [cut_map]
    have l7 := cut_len ws none (some (2 + d2))
    have s7 := Sub.fresh h7 (.list ((cut ws none (some (2 + d2))).map V.int))
    rw [b_lists (s7 _ _ hw7) (upd_same _ _ _)]
    refine ⟨by simp; lia, fun a8 h8 => ?_⟩
    have s8 := Sub.fresh h8 (.list (ws.map V.int ++ (cut ws none (some (2 + d2))).map V.int))
    rw [b_lists (upd_same _ _ _) ((s7.trans s8) _ _ hw7)]
    refine ⟨by simp; lia, fun a9 h9 => ?_⟩
    have s9 := Sub.fresh h9 (.list (ws.map V.int ++ (cut ws none (some (2 + d2))).map V.int ++ ws.map V.int))
    have sA := (s7.trans s8).trans s9
    have xA := x7.sub sA
    have hlA := sA _ _ hl7
    have fA := (f6.trans f7).trans (Fr.sub (fp := [b]) sA)
    obtain ⟨H8, eH8⟩ : ∃ H8, H8 = upd (upd (upd H7 a7 (.list ((cut ws none (some (2 + d2))).map V.int))) a8 (.list (ws.map V.int ++ (cut ws none (some (2 + d2))).map V.int))) a9 (.list (ws.map V.int ++ (cut ws none (some (2 + d2))).map V.int ++ ws.map V.int)) := ⟨_, rfl⟩
    have h9A : H8 a9 = some (.list ((ws ++ cut ws none (some (2 + d2)) ++ ws).map V.int)) := by rw [eH8, upd_same, List.map_append, List.map_append]
    rw [← eH8] at xA hlA fA ⊢
    refine c_take C (by omega) xA (by lia) (by exact Int.natCast_nonneg _) (by exact Int.natCast_nonneg _) fun d3 H9 d30 d31 x9 f9 _ => ?_
    have hl9 := f9.get (xA.nl hlA) hlA
    have h99 := f9.get (xA.nl h9A) h9A
    refine sub_in hl9 d30 d31 (by simp [hbg]) fun v3 hv3 => ⟨by simp [hbg], fun aB hB => ?_⟩
    have sB := Sub.fresh hB (.list [V.int v3])
    rw [b_lists (sB _ _ h99) (upd_same _ _ _)]
    refine ⟨by simp; lia, fun fd hfd => ?_⟩
    have sC := Sub.fresh hfd (.list ((ws ++ cut ws none (some (2 + d2)) ++ ws).map V.int ++ [V.int v3]))
    rw [wT_v, wB_cons]
    have oo := ((o6.app (o6.cut none (some (2 + d2)))).app o6).app (Octs.one hv3)
    refine text_end (fs := ws ++ cut ws none (some (2 + d2)) ++ ws ++ [v3]) (x9.sub (sB.trans sC)) (by rw [upd_same]; simp) oo (by simp; exact Nat.le_add_left _ _) (by simp; lia) fun T H' t1 t2 t3 t4 t5 => ?_
    exact hR _ _ _ <| hq T _ H' t1 t2 t3 (by lia) t4 (((fA.trans f9).trans (Fr.sub (sB.trans sC))).trans t5)
  · rw [wB_nil]
    dsimp only
    refine wB_go fun Q1 n1 _ _ _ => ?_
    simp
    refine c_take C (by omega) x2 (by exact Nat.lt_of_le_of_lt (by assumption) (by lia)) (by exact Int.natCast_nonneg _) (by exact Int.natCast_nonneg _) fun d H3 d0 d1 x3 f3 _ => ?_
    have hl3 := f3.get (x2.nl hl2) hl2
    try simp
    refine fun fd hfd => ⟨by simp [hbg], n1 _ _ (wB_go fun Q2 n2 _ _ _ => ?_)⟩
    have s4 := Sub.fresh hfd (.list [])
    have x4 := x3.sub s4
    have hl4 := s4 _ _ hl3
    have f4 := (f2'.trans f3).trans (Fr.sub (fp := [b]) s4)
    simp
    refine c_take C (by omega) x4 (by lia) (by exact Int.natCast_nonneg _) (by exact Int.natCast_nonneg _) fun d4 H5 d40 d41 x5 f5 _ => ?_
    have hl5 := f5.get (x4.nl hl4) hl4
    have hf5 := f5.get (x4.nl (xs := []) (upd_same _ _ _)) (upd_same _ _ _)
    simp
    refine ⟨by unfold rsm; lia, ?_⟩
    refine l_text C (H₀ := H) (by omega) (by lia) (by lia) _ 0 [] fd _ _ _ _ _ x5 (by lia) hf5 hl5 (fun _ h => nomatch h) (by simp; lia) (by simp; lia) (f4.trans f5) fun fs' fd' o2' o6' o7' c' H' a1 a2 a3 a4 a5 a6 a7 => n2 _ _ (wB_go fun Q3 _ _ _ r3 => ?_)
    refine text_end a2 a3 a4 a5 a6 fun T H'' t1 t2 t3 t4 t5 => r3 _ _ _ (hR _ _ _ ?_)
    exact hq T _ H'' t1 t2 t3 (by exact Nat.le_trans (by assumption) (by lia)) t4 (a7.trans t5)
end
end Mine
end
-- part K28
section
open PySem PySem.Calls PyProof.Rows PySem.W
set_option maxHeartbeats 4000000
set_option maxRecDepth 100000
namespace Mine
theorem nd_bag : p_law_bag_ln.Nodup := by decide +kernel
theorem next_lst {H : MH} {a : Addr} {xs : List V} {i : Nat} (h : H a = some (.list xs)) : (Src.lst a i).next H = some (xs[i]?.map fun v => (v, .lst a (i + 1))) := by
  simp only [Src.next, h]
section
variable {G : Gd} (C : Cx G) {n : Nat} {Q : V → MH → Prop} {H : MH}
omit C in
theorem l_great {R : MH → Prop} {a acc : Addr} {v0 v2 v3 v4 : V} {xs : List Int} {H₀ : MH} (hx : xs.length ≤ 24) (hac : H₀ acc = none) (hne : a ≠ acc) :
    ∀ (j i : Nat) (ys : List Int) (o1 : V) (H : MH), i + j = xs.length → H a = some (.list (xs.map .int)) → H acc = some (.list (ys.map .int)) → ys.length ≤ i → Fr H₀ H [] →
      (∀ (ys' : List Int) (H' : MH), H' acc = some (.list (ys'.map .int)) → ys'.length ≤ 24 → Fr H₀ H' [] → R H') →
      WComp G p_law_bag_ln n p_law_bag_ce1 1 p_law_bag_cc2 (.lst a i) acc [v0, o1, v2, v3, v4] R H := by
  have hbg : big = 16777216 := rfl
  intro j
  induction j with
  | zero =>
    intro i ys o1 H hi ha hacc hl fr hR
    refine WComp.done nd_bag ?_ (hR ys H hacc (by exact Nat.le_trans (by assumption) (by lia)) fr)
    rw [next_lst ha, List.getElem?_eq_none (by simp; lia)]; rfl
  | succ j ih =>
    intro i ys o1 H hi ha hacc hl fr hR
    have hlt : i < xs.length := by lia
    refine WComp.turn nd_bag (v := .int xs[i]) (src' := .lst a (i + 1)) ?_ fun Q' hN => ?_
    · rw [next_lst ha, List.getElem?_map, List.getElem?_eq_getElem hlt]; rfl
    simp [p_law_bag_cc2, p_law_bag_ce1, hacc]
    refine ⟨fun _ => ⟨by exact Nat.lt_of_le_of_lt (by assumption) (by lia), hN _ ?_⟩, fun _ => hN _ ?_⟩
    · refine ih (i + 1) (ys ++ [_]) _ _ (by lia) ((upd_ne _ _ hne).trans ha) (by rw [upd_same, List.map_append]; rfl) (by simp; omega) (fr.turn (.inr hac)) hR
    · exact ih (i + 1) ys _ _ (by lia) ha hacc (by exact Nat.le_succ_of_le (by assumption)) fr hR
omit C in
theorem l_mix {K : Fl → List V → MH → Prop} {a : Addr} {v0 v2 : V} {xs : List Int} {H : MH} (ha : H a = some (.list (xs.map .int))) :
    ∀ (j i : Nat) (o t : Int) (o1 : V), i + j = xs.length → 0 ≤ o ∧ o < 1021 → 0 ≤ t ∧ t < 1019 →
      (∀ o' t' o1', 0 ≤ o' ∧ o' < 1021 → 0 ≤ t' ∧ t' < 1019 → K .next [v0, o1', v2, .int o', .int t'] H) →
      WFor G p_law_bag_ln n (.v 1) p_law_bag_fb0 (.lst a i) [v0, o1, v2, .int o, .int t] K H := by
  have hbg : big = 16777216 := rfl
  intro j
  induction j with
  | zero =>
    intro i o t o1 hi ho ht hK
    refine WFor.done nd_bag ?_ (hK o t o1 ho ht)
    rw [next_lst ha, List.getElem?_eq_none (by simp; lia)]; rfl
  | succ j ih =>
    intro i o t o1 hi ho ht hK
    have hlt : i < xs.length := by lia
    refine WFor.turn nd_bag (v := .int xs[i]) (src' := .lst a (i + 1)) ?_ fun Q' hN _ _ _ => ?_
    · rw [next_lst ha, List.getElem?_map, List.getElem?_eq_getElem hlt]; rfl
    simp [p_law_bag_fb0]
    refine ⟨.inl (by unfold short; decide), .inl (by unfold short; decide), .inl (by unfold short; decide), .inl (by unfold short; decide), by simp [hbg], hN _ _ ?_⟩
    exact ih (i + 1) _ _ _ (by lia) ⟨Int.emod_nonneg _ (by decide), Int.emod_lt_of_pos _ (by exact Int.natCast_nonneg _)⟩ ⟨Int.emod_nonneg _ (by decide), Int.emod_lt_of_pos _ (by exact Int.natCast_nonneg _)⟩ hK
include C
theorem c_bag {s : Addr} {xs : List Int} (hn : 1 ≤ n) (hs : H s = some (.ro (xs.map .int))) (hl : xs.length ≤ 63)
    (hq : ∀ b H', Bag H' b 0 → Fr H H' [] → Q (.ref b) H') : WCall G n (.top "_law_bag") [.ref s] Q H := by
  obtain ⟨k, rfl, hk⟩ := pred_of hn
  have hbg : big = 16777216 := rfl
  refine WCall.go (C.at 38 rfl) fun Q0 hR hN => ?_
  have e : fr0 p_law_bag_ln [.ref s] = [.ref s, .odd, .odd, .odd, .odd] := rfl
  rw [e]
  unfold p_law_bag
  refine wB_go fun Q1 n1 _ _ _ => ?_
  simp
  refine sl_ro rfl rfl hs (by simp; exact easy (by assumption) rfl) fun a ha => ?_
  rw [cut_map]
  have hc : (cut xs none (some 24)).length ≤ 24 := by
    rw [show (some (24 : Int)) = some ((24 : Nat) : Int) from rfl, cut_to, List.length_take]; exact Nat.min_le_left _ _
  obtain ⟨cs, ecs⟩ : ∃ cs, cs = cut xs none (some 24) := ⟨_, rfl⟩
  rw [← ecs] at hc ⊢
  simp [-xB_cons, -xB_nil]
  simp only [srcOf, upd_same]
  intro acc hac
  have s1 := Sub.fresh ha (.list (cs.map V.int))
  have s2 := Sub.fresh hac (.list [])
  have hane : a ≠ acc := ne_of hac (upd_same _ _ _)
  refine l_great (H₀ := H) hc ((s1.none hac)) hane cs.length 0 [] _ _ (by exact Nat.add_comm _ _) ((upd_ne _ _ hane).trans (upd_same _ _ _)) (upd_same _ _ _) (Nat.zero_le _) (Fr.sub (s1.trans s2)) fun ys H2 hg lg fr => ?_
  try simp
  refine ⟨by simp [hbg], n1 _ _ (wB_go fun Q2 n2 _ _ _ => ?_)⟩
  have hs2 : H2 s = some (.ro (xs.map .int)) := fr.get (by simp) hs
  simp
  refine sl_ro rfl rfl hs2 (by simp; exact easy (by assumption) rfl) fun a2 ha2 => ?_
  rw [cut_map, ← ecs]
  simp [-xB_cons, -xB_nil]
  simp only [srcOf, upd_same]
  refine l_mix (upd_same _ _ _) cs.length 0 611 438 _ (by exact Nat.add_comm _ _) (by decide) (by decide) fun o t o1 ho ht => n2 _ _ (wB_go fun Q3 _ _ _ r3 => ?_)
  have s3 := Sub.fresh ha2 (.list (cs.map V.int))
  have hg3 := s3 _ _ hg
  have hs3 := s3 _ _ hs2
  have fin : ∀ z : Int, z = 12 ∨ z = 6 → ∀ b, (upd H2 a2 (.list (cs.map V.int))) b = none → Q3 (.ret (.ref b)) [.ref s, o1, .ref acc, .int o, .int t] (upd (upd H2 a2 (.list (cs.map V.int))) b (.list [.ref acc, .int 0, .int o, .int t, .int z])) := fun z hz b hb => by
    refine r3 _ _ _ (hR _ _ _ (hq b _ ⟨acc, ys, o, t, z, ?_, ?_, lg, ho, ht, hz⟩ ((fr.trans (Fr.sub s3)).trans (Fr.sub (Sub.fresh hb _)))))
    · rw [upd_same]; rfl
    · exact upd_old hb hg3
  simp [hg3, hs3]
  refine ⟨fun _ => ⟨by simp [hbg], fin 12 (.inl rfl)⟩, fun _ => ⟨by exact easy (by assumption) rfl, fun _ => ⟨by simp [hbg], fin 12 (.inl rfl)⟩, fun _ => ⟨by simp [hbg], fin 6 (.inr rfl)⟩⟩⟩
end
end Mine
end
-- part L1
section
set_option maxHeartbeats 4000000
namespace Mine
structure Reach (T : List Int) (w : Int) (m p r : Nat) : Prop where
  one : 1 ≤ r
  fit : r ≤ T.length - p
  have_ : r = 1 ∨ ∃ q, q < p ∧ (p : Int) - q ≤ w ∧ 2 ≤ r ∧ r ≤ m ∧ agree T p q r
  max : ∀ q c : Nat, q < p → (p : Int) - q ≤ w → c ≤ m → c ≤ T.length - p → agree T p q c → c ≤ r
theorem best_reach {T : List Int} {w : Int} {m p : Nat} {x : Int × Int} (hp : p < T.length) (b : Best T w p (min m (T.length - p)) 2 x) : Reach T w m p (sizeOf' (stepOf T p x)) := by
  rcases b with ⟨rfl, h⟩ | ⟨h1, h2, h3, h4, h5, h6, h7⟩
  · have e : sizeOf' (stepOf T p (0, 0)) = 1 := by simp [sizeOf', stepOf]
    rw [e]
    refine ⟨Nat.le_refl _, by exact Nat.le_sub_of_add_le (by lia), .inl rfl, fun q c q1 q2 q3 q4 q5 => ?_⟩
    rcases Nat.lt_or_ge 1 c with h' | h'
    · exact absurd q5 (h q c q1 q2 (by exact Nat.le_min.mpr ⟨by lia, by lia⟩) (by assumption))
    · exact h'
  · have h0 : x ≠ (0, 0) := fun q => by rw [q] at h1; simp at h1
    have e : sizeOf' (stepOf T p x) = x.1.toNat := by unfold sizeOf' stepOf; rw [if_neg h0, if_neg (by lia)]
    rw [e]
    obtain ⟨r, hr⟩ : ∃ r : Nat, x.1 = r := ⟨x.1.toNat, (Int.toNat_of_nonneg (Int.le_trans (by decide) h1)).symm⟩
    obtain ⟨d, hd⟩ : ∃ d : Nat, x.2 = d := ⟨x.2.toNat, (Int.toNat_of_nonneg (Int.le_trans (by decide) h3)).symm⟩
    rw [hr] at h1 h2 h6 h7
    rw [hd] at h3 h4 h5 h6
    rw [hr]
    simp only [Int.toNat_natCast] at h6 ⊢
    have r1 : 2 ≤ r := Int.ofNat_le.mp h1
    have r2 : r ≤ min m (T.length - p) := Int.ofNat_le.mp h2
    have d1 : 1 ≤ d := Int.ofNat_le.mp h3
    have d2 : d ≤ p := Int.ofNat_le.mp h4
    refine ⟨Nat.le_of_lt r1, Nat.le_trans r2 (Nat.min_le_right _ _), .inr ⟨p - d, Nat.sub_lt (Nat.lt_of_lt_of_le d1 d2) d1, by rw [Int.ofNat_sub d2]; lia, r1, Nat.le_trans r2 (Nat.min_le_left _ _), h6⟩, fun q c q1 q2 q3 q4 q5 => ?_⟩
    rcases Nat.lt_or_ge 1 c with h' | h'
    · exact Int.ofNat_le.mp (h7 q c q1 q2 (Nat.le_min.mpr ⟨q3, q4⟩) h' q5)
    · exact Nat.le_trans h' (Nat.le_of_lt r1)
theorem reach_mono {T : List Int} {w : Int} {m p r r' : Nat} (a : Reach T w m p r) (b : Reach T w m (p + 1) r') : p + r ≤ p + 1 + r' := by
  rcases a.have_ with h | ⟨q, h1, h2, h3, h4, h5⟩
  · lia
  · have := b.max (q + 1) (r - 1) (by exact Nat.succ_le_succ (by assumption)) (by lia) (by exact Nat.le_trans (Nat.sub_le _ _) (by lia)) (Nat.sub_add_eq _ _ _ ▸ Nat.sub_le_sub_right a.fit 1) (fun i hi => by
      have := h5 (i + 1) (by exact Nat.lt_of_le_of_lt (by assumption) (by lia))
      rw [show p + 1 + i = p + (i + 1) by exact Nat.add_right_comm _ _ _, show q + 1 + i = q + (i + 1) by exact Nat.add_right_comm _ _ _]; exact this)
    lia
end Mine
end
-- part L2
section
set_option maxHeartbeats 4000000
namespace Mine
inductive Pos (T : List Int) (w : Int) (m s0 : Nat) : Nat → Nat → Prop
  | zero : Pos T w m s0 0 s0
  | succ {k p r} : Pos T w m s0 k p → p < T.length → Reach T w m p r → Pos T w m s0 (k + 1) (p + r)
theorem Reach.uniq {T : List Int} {w : Int} {m p r r' : Nat} (a : Reach T w m p r) (b : Reach T w m p r') : r = r' := by
  have key : ∀ {r r'}, Reach T w m p r → Reach T w m p r' → r ≤ r' := fun {r r'} a b => by
    rcases a.have_ with h | ⟨q, h1, h2, h3, h4, h5⟩
    · have := b.one; lia
    · exact b.max q r h1 h2 h4 a.fit h5
  exact Nat.le_antisymm (key a b) (key b a)
theorem Pos.uniq {T : List Int} {w : Int} {m s0 k p p' : Nat} (a : Pos T w m s0 k p) (b : Pos T w m s0 k p') : p = p' := by
  induction a generalizing p' with
  | zero => cases b; rfl
  | succ a ha hr ih =>
    cases b with
    | succ b hb hr' =>
      have := ih b
      subst this
      rw [hr.uniq hr']
theorem GP.pos {T : List Int} {w : Int} {m s0 p : Nat} {ms : List (Int × Int)} (g : GP T w m s0 ms p) : Pos T w m s0 ms.length p := by
  induction g with
  | nil => exact .zero
  | snoc g hp b ih => rw [List.length_append]; exact .succ ih hp (best_reach hp b)
theorem reach_le {T : List Int} {w : Int} {m p p' r r' : Nat} (hex : ∀ p, p < T.length → ∃ r, Reach T w m p r) (hp' : p' < T.length) (hpp : p ≤ p') (a : Reach T w m p r) (b : Reach T w m p' r') : p + r ≤ p' + r' := by
  obtain ⟨d, rfl⟩ : ∃ d, p' = p + d := ⟨p' - p, by lia⟩
  induction d generalizing r' with
  | zero => have := a.uniq b; lia
  | succ d ih =>
    obtain ⟨r2, h2⟩ := hex (p + d) (by exact Nat.le_of_lt (by assumption))
    have h1 := ih (by exact Nat.le_of_lt (by assumption)) (by exact Nat.le_add_right _ _) h2
    have h3 := reach_mono h2 (show Reach T w m (p + d + 1) r' from b)
    lia
end Mine
end
-- part K29
section
open PySem PySem.Calls PyProof.Rows PySem.W
set_option maxHeartbeats 4000000
set_option maxRecDepth 100000
namespace Mine
@[local simp] theorem lkd_29 {α : Type} {x : α} : @lk α ⟨x⟩ = x := rfl
theorem comp_rng {G : Gd} {n : Nat} {ln : List Str} {elt : E} {t : Nat} {fr : List V} {g : Nat → Int} {acc : Addr} {H₀ : MH} {R : MH → Prop} (nd : ln.Nodup) (hac : H₀ acc = none) :
    ∀ (k lo : Nat) (ys : List Int) (o : V) (H : MH), H acc = some (.list (ys.map .int)) → ys.length + k ≤ 10000 → Fr H₀ H [] →
      (∀ (i : Nat) (H' : MH) (R' : V → MH → Prop), lo ≤ i → i < lo + k → Fr H₀ H' [] → R' (.int (g i)) H' → wE G ln n elt (fr.set t (.int i)) R' H') →
      (∀ H', H' acc = some (.list ((ys ++ (List.range' lo k).map g).map .int)) → Fr H₀ H' [] → R H') → WComp G ln n elt t .nil (.rng lo k 1) acc (fr.set t o) R H := by
  have hbg : big = 16777216 := rfl
  intro k
  induction k with
  | zero =>
    intro lo ys o H ha hl hf he hR
    exact WComp.done nd rfl (hR H (by simpa using ha) hf)
  | succ k ih =>
    intro lo ys o H ha hl hf he hR
    refine WComp.turn nd (v := .int lo) (src' := .rng ((lo : Int) + 1) k 1) rfl fun Q' hN => ?_
    simp only [xCs_nil_true, List.set_set]
    refine he lo H _ (Nat.le_refl _) (by lia) hf ?_
    simp only [ha]
    refine ⟨by simp; lia, by simp, hN _ ?_⟩
    rw [List.set_set]
    refine ih (lo + 1) (ys ++ [g lo]) _ _ (by rw [upd_same, List.map_append]; rfl) (by simp; lia) (hf.turn (.inr hac)) (fun i H' R' h1 h2 => he i H' R' (by exact Nat.le_of_lt (by assumption)) (by exact Nat.lt_of_lt_of_le (by assumption) (by lia))) fun H' h1 h2 => hR H' ?_ h2
    rw [h1, List.append_assoc]; rfl

noncomputable def IsAl (T : List Int) (p q v : Nat) : Prop := v ≤ T.length - p ∧ agree T p q v ∧ (v < T.length - p → oct T (p + v) ≠ oct T (q + v))
theorem IsAl.top {T : List Int} {p q v c : Nat} (x : IsAl T p q v) (hc : c ≤ T.length - p) (ha : agree T p q c) : c ≤ v := by
  rcases Nat.lt_or_ge v c with h | h
  · exact absurd (ha v h) (x.2.2 (by exact Nat.lt_of_lt_of_le (by assumption) (by assumption)))
  · exact h
theorem IsAl.step {T : List Int} {p q v : Nat} (hp : p < T.length) (x : IsAl T (p + 1) (q + 1) v) (e : oct T p = oct T q) : IsAl T p q (v + 1) := by
  refine ⟨by have := x.1; lia, fun i hi => ?_, fun h => ?_⟩
  · cases i with
    | zero => simpa using e
    | succ i => have := x.2.1 i (by exact Nat.le_of_lt_succ (by assumption)); rw [show p + (i + 1) = p + 1 + i by lia, show q + (i + 1) = q + 1 + i by lia]; exact this
  · have := x.2.2 (by exact Nat.le_sub_of_add_le (by lia)); rw [show p + (v + 1) = p + 1 + v by lia, show q + (v + 1) = q + 1 + v by lia]; exact this
theorem IsAl.no {T : List Int} {p q : Nat} (e : oct T p ≠ oct T q) : IsAl T p q 0 := ⟨Nat.zero_le _, fun i hi => by exact absurd (by assumption) (by lia), fun _ => by simpa using e⟩
noncomputable def Als (T : List Int) (p hi : Nat) (al : List Int) : Prop := ∀ back, 1 ≤ back → back < hi → ∃ v : Nat, al[back]? = some (v : Int) ∧ IsAl T p (p - back) v
structure Rs (T : List Int) (w : Int) (m p : Nat) (rs : List Int) : Prop where
  len : rs.length = T.length - p
  at_ : ∀ (i : Nat) (x : Int), rs[i]? = some x → ∃ r : Nat, x = r ∧ Reach T w m (p + i) r
theorem reach_of {T : List Int} {w M : Int} {m p W : Nat} {al : List Int} (hw1 : W ≤ p) (hw2 : (W : Int) ≤ w) (hw3 : ∀ b : Nat, b ≤ p → (b : Int) ≤ w → b ≤ W) (hp : p < T.length) (ha : Als T p (p + 1) al)
    (h1 : M ∈ (1 : Int) :: (List.range' 1 W).map fun back => min (m : Int) (al.getD back 0)) (h2 : ∀ a ∈ (1 : Int) :: (List.range' 1 W).map fun back => min (m : Int) (al.getD back 0), a ≤ M) :
    ∃ r : Nat, M = r ∧ Reach T w m p r := by
  have hM : 1 ≤ M := h2 1 (by simp)
  obtain ⟨r, rfl⟩ : ∃ r : Nat, M = r := ⟨M.toNat, (Int.toNat_of_nonneg (Int.le_trans (by decide) hM)).symm⟩
  have hr1 : 1 ≤ r := Int.ofNat_le.mp hM
  have hv : ∀ back, 1 ≤ back → back ≤ p → ∃ v : Nat, al.getD back 0 = v ∧ IsAl T p (p - back) v := fun back b1 b2 => by
    obtain ⟨v, v1, v2⟩ := ha back b1 (Nat.succ_le_succ b2)
    exact ⟨v, by rw [List.getD_eq_getElem?_getD, v1]; rfl, v2⟩
  have hc : r = 1 ∨ ∃ back v : Nat, 1 ≤ back ∧ back ≤ W ∧ r ≤ m ∧ r ≤ v ∧ IsAl T p (p - back) v := by
    rcases List.mem_cons.mp h1 with h | h
    · exact .inl (Int.ofNat.inj h)
    · obtain ⟨back, hb, e⟩ := List.mem_map.mp h
      rw [List.mem_range'_1] at hb
      have hbW : back ≤ W := by have := hb.2; lia
      obtain ⟨v, v1, v2⟩ := hv back hb.1 (Nat.le_trans hbW hw1)
      rw [v1] at e
      exact .inr ⟨back, v, hb.1, hbW, Int.ofNat_le.mp (e ▸ Int.min_le_left _ _), Int.ofNat_le.mp (e ▸ Int.min_le_right _ _), v2⟩
  refine ⟨r, rfl, hr1, ?_, ?_, fun q c q1 q2 q3 q4 q5 => ?_⟩
  · rcases hc with h | ⟨back, v, b1, b2, b3, b4, b5⟩
    · rw [h]; exact Nat.sub_pos_of_lt hp
    · exact Nat.le_trans b4 b5.1
  · rcases hc with h | ⟨back, v, b1, b2, b3, b4, b5⟩
    · exact .inl h
    · rcases Nat.eq_or_lt_of_le hr1 with h | h
      · exact .inl h.symm
      · have hbp := Nat.le_trans b2 hw1
        refine .inr ⟨p - back, Nat.sub_lt (Nat.lt_of_lt_of_le b1 hbp) b1, ?_, h, b3, b5.2.1.le b4⟩
        rw [Int.ofNat_sub hbp]; lia
  · have e : p - (p - q) = q := Nat.sub_sub_self (Nat.le_of_lt q1)
    have hb : p - q ≤ W := hw3 (p - q) (Nat.sub_le _ _) (by rw [Int.ofNat_sub (Nat.le_of_lt q1)]; exact q2)
    have hb1 : 1 ≤ p - q := Nat.sub_pos_of_lt q1
    obtain ⟨v, v1, v2⟩ := hv (p - q) hb1 (Nat.sub_le _ _)
    have h3 := h2 (min (m : Int) (al.getD (p - q) 0)) (List.mem_cons_of_mem _ (List.mem_map.mpr ⟨p - q, by rw [List.mem_range'_1]; exact ⟨hb1, by lia⟩, rfl⟩))
    rw [v1] at h3
    rw [e] at v2
    have h4 : c ≤ v := v2.top q4 q5
    exact Int.ofNat_le.mp (Int.le_trans (Int.le_min.mpr ⟨Int.ofNat_le.mpr q3, Int.ofNat_le.mpr h4⟩) h3)

theorem nd_reaches : p_law_reaches_ln.Nodup := by decide +kernel
theorem getD_als {T : List Int} {p back hi : Nat} {al : List Int} (x : Als T p hi al) (h1 : 1 ≤ back) (h2 : back < hi) : back < al.length := by
  obtain ⟨v, v1, _⟩ := x back h1 h2
  exact (List.getElem?_eq_some_iff.mp v1).1
theorem sub_d {H : MH} {a : Addr} {xs : List Int} {Q : V → MH → Prop} {j : Nat} (h : H a = some (.list (xs.map .int))) (hj : j < xs.length) (hz : xs.length ≤ big) (hq : Q (.int (xs.getD j 0)) H) : wSub (.ref a) (.int (j : Int)) Q H := by
  refine sub_at h (v := .int (xs.getD j 0)) ?_ (by simpa using hz) hq
  rw [List.getElem?_map, List.getD_eq_getElem?_getD, List.getElem?_eq_getElem hj]; rfl
section
variable {G : Gd} (C : Cx G) {n : Nat} {Q : V → MH → Prop} {H : MH} {T : List Int} {w : Int} {m : Nat}
omit C in
theorem l_reaches {K : Fl → List V → MH → Prop} {fd : Addr} {H₀ : MH} (hz : T.length ≤ 4000) (hw : 1 ≤ w) (hw' : w ≤ 100000) (hfd : H₀ fd = none) :
    ∀ (p : Nat) (x0 : Int) (al : Addr) (as rs : List Int) (o3 o6 : V) (H : MH), x0 = (p : Int) - 1 → p ≤ T.length → H al = some (.list (as.map .int)) → as.length ≤ T.length + 5 → Als T p p as → H fd = some (.list (rs.reverse.map .int)) → fd ≠ al → Rs T w m p rs → Fr H₀ H [] →
      (∀ v3 v4 v6 rs' H', H' fd = some (.list (rs'.reverse.map .int)) → Rs T w m 0 rs' → Fr H₀ H' [] → K .next [.bytes T, .int w, .int m, v3, v4, .ref fd, v6] H') →
      WFor G p_law_reaches_ln n (.v 3) p_law_reaches_fb4 (.rng x0 p (-1)) [.bytes T, .int w, .int m, o3, .ref al, .ref fd, o6] K H := by
  have hbg : big = 16777216 := rfl
  intro p
  induction p with
  | zero =>
    intro x0 al as rs o3 o6 H hx hp ha hl hA hf hne hrs fr hK
    exact WFor.done nd_reaches rfl (hK _ _ _ rs H hf hrs fr)
  | succ p ih =>
    intro x0 al as rs o3 o6 H hx hp ha hl hA hf hne hrs fr hK
    have hx0 : x0 = (p : Int) := by lia
    subst hx0
    refine WFor.turn nd_reaches (v := .int p) (src' := .rng ((p : Int) + -1) p (-1)) rfl fun Q' hN _ _ _ => ?_
    rw [wT_v]
    unfold p_law_reaches_fb4
    refine wB_go fun Q1 n1 _ _ _ => ?_
    simp
    refine ⟨by simp [hbg], fun a1 h1 => ?_⟩
    refine ⟨by unfold rsm; decide, by unfold rsm; lia, fun acc hac => ?_⟩
    have s1 := Sub.fresh h1 (.list [V.int 0])
    have s2 := Sub.fresh hac (.list [])
    have fr1 : Fr H (upd H a1 (.list [V.int 0])) [] := Fr.sub s1
    have fr2 : Fr (upd H a1 (.list [V.int 0])) (upd (upd H a1 (.list [V.int 0])) acc (.list [])) [] := Fr.sub s2
    have ha1 := s1 _ _ ha
    have hf1 := s1 _ _ hf
    refine comp_rng (fr := [.bytes T, .int w, .int m, .int p, .ref al, .ref fd, .odd]) (g := fun i => (as.getD i 0 + 1) * (if oct T p = oct T (p - i) then 1 else 0)) nd_reaches hac p 1 [] .odd _ (upd_same _ _ _) (by simp; lia) fr2 (fun i H' R' i1 i2 f' hR' => ?_) (fun H2 e2 f2 => ?_)
    · have hal' := f'.get (by simp) ha1
      have hi : i < as.length := getD_als hA i1 (by exact Nat.lt_of_lt_of_le (by assumption) (by lia))
      simp [p_law_reaches_ce2]
      refine sub_d hal' hi (by exact Nat.le_trans (by assumption) (by lia)) ?_
      rw [b_add]
      have e1 : ((p : Int) - i).toNat = p - i := by exact Int.toNat_sub _ _
      rw [s_bytes (by exact Int.natCast_nonneg _) (by assumption) (by exact easy (by assumption) rfl), s_bytes (by lia) (by lia) (by exact easy (by assumption) rfl), e1]
      simp
      refine ⟨fun h => ⟨.inr (by unfold short; decide), ?_⟩, fun h => ⟨.inr (by unfold short; decide), ?_⟩⟩
      · have h' : oct T p = oct T (p - i) := by simpa [oct] using h
        simp only [if_pos h', Int.mul_one] at hR'
        exact hR'
      · have h' : ¬ oct T p = oct T (p - i) := by simpa [oct] using h
        simp only [if_neg h', Int.mul_zero] at hR'
        exact hR'
    have ha2 := f2.get (by simp) (upd_same H a1 (.list [V.int 0]))
    rw [b_lists ha2 e2]
    refine ⟨by simp; lia, fun a3 h3 => ?_⟩
    rw [wT_v]
    refine n1 _ _ (wB_go fun Q2 n2 _ _ _ => ?_)
    obtain ⟨as', eas⟩ : ∃ as', as' = 0 :: (List.range' 1 p).map (fun i => (as.getD i 0 + 1) * (if oct T p = oct T (p - i) then 1 else 0)) := ⟨_, rfl⟩
    have hA' : Als T p (p + 1) as' := fun back b1 b2 => by
      obtain ⟨v, v1, v2⟩ := hA back b1 (by omega)
      obtain ⟨j, rfl⟩ : ∃ j, back = j + 1 := ⟨back - 1, by lia⟩
      rw [eas, List.getElem?_cons_succ, List.getElem?_map, List.getElem?_range' (by exact Nat.le_of_lt_succ (by assumption))]
      have ej : 1 + 1 * j = j + 1 := by lia
      simp only [Option.map_some, ej]
      rw [List.getD_eq_getElem?_getD, v1]
      rw [show p + 1 - (j + 1) = p - (j + 1) + 1 by lia] at v2
      by_cases e : oct T p = oct T (p - (j + 1))
      · exact ⟨v + 1, by rw [if_pos e]; simp, v2.step (by assumption) e⟩
      · exact ⟨0, by rw [if_neg e]; simp, .no e⟩
    have hl' : as'.length = p + 1 := by rw [eas]; simp
    have hf3 : (upd H2 a3 (.list ([V.int 0] ++ (List.map V.int ([] ++ (List.range' 1 p).map (fun i => (as.getD i 0 + 1) * (if oct T p = oct T (p - i) then 1 else 0))))))) fd = some (.list (rs.reverse.map .int)) := upd_old h3 (f2.get (by simp) hf1)
    have ha3 : (upd H2 a3 (.list ([V.int 0] ++ (List.map V.int ([] ++ (List.range' 1 p).map (fun i => (as.getD i 0 + 1) * (if oct T p = oct T (p - i) then 1 else 0))))))) a3 = some (.list (as'.map .int)) := by rw [upd_same, eas]; rfl
    have fr3 : Fr H (upd H2 a3 (.list ([V.int 0] ++ (List.map V.int ([] ++ (List.range' 1 p).map (fun i => (as.getD i 0 + 1) * (if oct T p = oct T (p - i) then 1 else 0))))))) [] := (fr1.trans f2).trans (Fr.sub (Sub.fresh h3 _))
    obtain ⟨H3, eH3⟩ : ∃ H3, H3 = (upd H2 a3 (.list ([V.int 0] ++ (List.map V.int ([] ++ (List.range' 1 p).map (fun i => (as.getD i 0 + 1) * (if oct T p = oct T (p - i) then 1 else 0))))))) := ⟨_, rfl⟩
    have hfa : fd ≠ a3 := ne_of h3 (f2.get (by simp) hf1)
    rw [← eH3] at hf3 ha3 fr3 ⊢
    clear eH3
    simp
    refine m_app hf3 ⟨by simp [hbg], fun a4 h4 => ⟨by unfold rsm; decide, by unfold rsm; split <;> lia, fun acc2 hac2 => ?_⟩⟩
    obtain ⟨W, w1, w2, w3, eW⟩ : ∃ W : Nat, W ≤ p ∧ (W : Int) ≤ w ∧ (∀ b : Nat, b ≤ p → (b : Int) ≤ w → b ≤ W) ∧ (if w < (p : Int) then w else (p : Int)).toNat = W := by
      rcases Int.lt_or_le w p with h | h
      · exact ⟨w.toNat, by lia, by lia, fun b _ _ => by lia, by rw [if_pos h]⟩
      · exact ⟨p, Nat.le_refl _, h, fun b h _ => h, by rw [if_neg (Int.not_lt.mpr h)]; rfl⟩
    rw [eW]
    have s4 := Sub.fresh h4 (.list [V.int 1])
    have s5 := Sub.fresh hac2 (.list [])
    refine comp_rng (fr := [.bytes T, .int w, .int m, .int p, .ref a3, .ref fd, .odd]) (g := fun back => min (m : Int) (as'.getD back 0)) nd_reaches hac2 W 1 [] .odd _ (upd_same _ _ _) (by simp; lia) (Fr.sub s5) (fun i H' R' i1 i2 f' hR' => ?_) (fun H4 e4 f4 => ?_)
    · have ha' := f'.get (by simp) (s4 _ _ ha3)
      simp [p_law_reaches_ce0]
      refine sub_d ha' (by exact Nat.lt_of_lt_of_le (by assumption) (by lia)) (by lia) ?_
      rw [bi_min]
      have : (if as'.getD i 0 < (m : Int) then as'.getD i 0 else (m : Int)) = min (m : Int) (as'.getD i 0) := by split <;> lia
      rw [this]; exact hR'
    have hf4 := f4.get (by simp) (s4 _ _ hf3)
    have ha4 := f4.get (by simp) (s4 _ _ ha3)
    rw [b_lists (f4.get (by simp) (upd_same H3 a4 (.list [V.int 1]))) e4]
    obtain ⟨L, hL⟩ : ∃ L : List Int, L = 1 :: (List.range' 1 W).map fun back => min (m : Int) (as'.getD back 0) := ⟨_, rfl⟩
    have eL : [V.int 1] ++ List.map V.int ([] ++ List.map (fun back => min (m : Int) (as'.getD back 0)) (List.range' 1 W)) = L.map V.int := by rw [hL]; rfl
    rw [eL]
    refine ⟨by simp; lia, fun a5 h5 => ?_⟩
    rw [bi_maxl (upd_same _ _ _) (allInts_map L)]
    refine ⟨by rw [hL]; simp, fun M M1 M2 => ?_⟩
    rw [hL] at M1 M2
    obtain ⟨r, rfl, hr⟩ := reach_of w1 w2 w3 (by assumption) hA' M1 M2
    have hf5 := upd_old (o' := .list (L.map V.int)) h5 hf4
    have ha5 := upd_old (o' := .list (L.map V.int)) h5 ha4
    have hrl := hrs.len
    refine app_to hf5 (by simp; omega) (by simp) (n2 _ _ ?_)
    rw [wB_nil]
    refine hN _ _ ?_
    have frA : Fr H₀ (upd H4 a5 (.list (L.map V.int))) [] := ((((fr.trans fr3).trans (Fr.sub s4)).trans f4).trans (Fr.sub (Sub.fresh h5 _)))
    refine ih _ a3 as' (↑r :: rs) _ _ _ (by exact rfl) (by exact Nat.le_of_lt (by assumption)) ((upd_ne _ _ hfa.symm).trans ha5) (by lia) (fun back b1 b2 => hA' back b1 (by exact Nat.le_succ_of_le (by assumption))) (by rw [upd_same]; simp) hfa ⟨by simp; lia, fun i x hx => ?_⟩ (frA.turn (.inr hfd)) hK
    cases i with
    | zero => simp at hx; exact ⟨r, hx.symm, by simpa using hr⟩
    | succ i =>
      obtain ⟨r', h1', h2'⟩ := hrs.at_ i x (by simpa using hx)
      exact ⟨r', h1', by rw [show p + (i + 1) = p + 1 + i by lia]; exact h2'⟩
include C
theorem c_reaches (hn : 1 ≤ n) (hz : T.length ≤ 4000) (hw : 1 ≤ w) (hw' : w ≤ 100000)
    (hq : ∀ rs b H', H' b = some (.list (rs.map .int)) → Rs T w m 0 rs → Fr H H' [] → Q (.ref b) H') : WCall G n (.top "_law_reaches") [.bytes T, .int w, .int m] Q H := by
  obtain ⟨k, rfl, hk⟩ := pred_of hn
  have hbg : big = 16777216 := rfl
  refine WCall.go (C.at 41 rfl) fun Q0 hR hN => ?_
  have e : fr0 p_law_reaches_ln [.bytes T, .int w, .int m] = [.bytes T, .int w, .int m, .odd, .odd, .odd, .odd] := rfl
  rw [e]
  unfold p_law_reaches
  refine wB_go fun Q1 n1 _ _ _ => ?_
  simp
  refine ⟨by simp [hbg], fun a1 h1 => ⟨by exact easy (by assumption) rfl, ?_⟩⟩
  rw [b_rep (upd_same _ _ _)]
  refine ⟨by unfold short; lia, by simp; exact easy (by assumption) rfl, fun al hal fd hfd => ?_⟩
  try simp
  refine ⟨by simp [hbg], n1 _ _ (wB_go fun Q2 n2 _ _ _ => ?_)⟩
  have e0 : repL [V.int 0] T.length = List.replicate T.length (V.int 0) := by rw [repL_one]
  simp only [Int.toNat_natCast, e0] at hfd ⊢
  have s1 := Sub.fresh h1 (.list [V.int 0])
  have s2 := Sub.fresh hal (.list (List.replicate T.length (V.int 0)))
  have s3 := Sub.fresh hfd (.list [])
  have hne : al ≠ fd := ne_of hfd (upd_same _ _ _)
  have hfd0 : H fd = none := (s1.trans s2).none hfd
  simp
  refine ⟨by exact easy (by assumption) rfl, by unfold rsm; lia, by unfold rsm; decide, ?_⟩
  refine l_reaches (H₀ := H) hz hw hw' hfd0 T.length _ al (List.replicate T.length 0) [] .odd .odd _ rfl (Nat.le_refl _) ((upd_ne _ _ hne).trans ((upd_same _ _ _).trans (by simp))) (by simp) (fun back b1 b2 => ⟨0, by rw [List.getElem?_replicate, if_pos b2]; rfl, Nat.zero_le _, fun i hi => by exact absurd (by assumption) (by lia), fun h => by exact absurd (by assumption) (by lia)⟩) (upd_same _ _ _) hne.symm ⟨by simp, fun i x hx => by simp at hx⟩ (Fr.sub ((s1.trans s2).trans s3)) fun v3 v4 v6 rs' H' hf hrs fr => n2 _ _ (wB_go fun Q3 _ _ _ r3 => ?_)
  have hl := hrs.len
  simp [wRev, hf]
  refine ⟨by lia, fun a ha => r3 _ _ _ (hR _ _ _ (hq rs' a _ (by rw [upd_same]) hrs ?_))⟩
  have fr' : Fr H H' [] := fr
  exact fr'.trans (Fr.sub (Sub.fresh ha _))
end
end Mine
end
-- part L3
section
set_option maxHeartbeats 4000000
namespace Mine
inductive PosL (T : List Int) (w : Int) (m s0 : Nat) : List Nat → Nat → Prop
  | one : PosL T w m s0 [s0] s0
  | snoc {L p r} : PosL T w m s0 L p → p < T.length → Reach T w m p r → PosL T w m s0 (L ++ [p + r]) (p + r)
variable {T : List Int} {w : Int} {m s0 : Nat}
theorem PosL.last {L : List Nat} {p : Nat} (x : PosL T w m s0 L p) : ∃ L0, L = L0 ++ [p] := by
  cases x with
  | one => exact ⟨[], rfl⟩
  | snoc x _ _ => exact ⟨_, rfl⟩
theorem PosL.pos {L : List Nat} {p : Nat} (x : PosL T w m s0 L p) : ∃ k, L.length = k + 1 ∧ Pos T w m s0 k p := by
  induction x with
  | one => exact ⟨0, rfl, .zero⟩
  | snoc x hp hr ih =>
    obtain ⟨k, h1, h2⟩ := ih
    exact ⟨k + 1, by simp [h1], .succ h2 hp hr⟩
theorem Pos.le {k p : Nat} (hs : s0 ≤ T.length) (x : Pos T w m s0 k p) : s0 + k ≤ p ∧ p ≤ T.length := by
  induction x with
  | zero => exact ⟨by lia, hs⟩
  | succ x hp hr ih => have := hr.one; have := hr.fit; lia
theorem PosL.len {L : List Nat} {p : Nat} (hs : s0 ≤ T.length) (x : PosL T w m s0 L p) : L.length ≤ p - s0 + 1 ∧ s0 ≤ p ∧ p ≤ T.length := by
  obtain ⟨k, h1, h2⟩ := x.pos
  have := h2.le hs
  lia
theorem Pos.end_ {k k' p : Nat} (a : Pos T w m s0 k T.length) (b : Pos T w m s0 k' p) : k' ≤ k := by
  rcases Nat.lt_or_ge k k' with h | h
  · exfalso
    obtain ⟨d, rfl⟩ : ∃ d, k' = k + 1 + d := ⟨k' - (k + 1), by omega⟩
    clear h
    induction d generalizing p with
    | zero =>
      cases b with
      | succ b hb hr => rw [b.uniq a] at hb; lia
    | succ d ih => cases b with | succ b hb hr => exact ih b
  · exact h
theorem PosL.uniq_len {L L' : List Nat} {p p' : Nat} (a : PosL T w m s0 L p) (b : PosL T w m s0 L' p') (h : L.length = L'.length) : L = L' ∧ p = p' := by
  induction a generalizing L' p' with
  | one =>
    cases b with
    | one => exact ⟨rfl, rfl⟩
    | snoc b hb hr =>
      obtain ⟨k, h1, _⟩ := b.pos
      rw [List.length_append] at h
      simp only [List.length_cons, List.length_nil] at h
      exact absurd (by assumption) (by lia)
  | snoc a ha hr ih =>
    cases b with
    | one =>
      obtain ⟨k, h1, _⟩ := a.pos
      rw [List.length_append] at h
      simp only [List.length_cons, List.length_nil] at h
      exact absurd (by assumption) (by lia)
    | snoc b hb hr' =>
      obtain ⟨e1, e2⟩ := ih b (by simpa using h)
      subst e1; subst e2
      rw [hr.uniq hr']
      exact ⟨rfl, rfl⟩
theorem PosL.uniq {L L' : List Nat} (a : PosL T w m s0 L T.length) (b : PosL T w m s0 L' T.length) : L = L' := by
  obtain ⟨k, h1, h2⟩ := a.pos
  obtain ⟨k', h1', h2'⟩ := b.pos
  have := h2.end_ h2'
  have := h2'.end_ h2
  exact (a.uniq_len b (by lia)).1
end Mine
end
-- part K30
section
open PySem PySem.Calls PyProof.Rows PySem.W
set_option maxHeartbeats 4000000
set_option maxRecDepth 100000
namespace Mine
@[local simp] theorem lkd_30 {α : Type} {x : α} : @lk α ⟨x⟩ = x := rfl
theorem nd_far : p_law_farthest_ln.Nodup := by decide +kernel
noncomputable abbrev nats (xs : List Nat) : List V := xs.map fun x : Nat => V.int (x : Int)
theorem nats_ints (xs : List Nat) : nats xs = (xs.map fun x : Nat => (x : Int)).map V.int := by simp
theorem allInts_nats (xs : List Nat) : allInts (nats xs) = some (xs.map fun x : Nat => (x : Int)) := by rw [nats_ints, allInts_map]
section
variable {G : Gd} (C : Cx G) {n : Nat} {Q : V → MH → Prop} {H : MH} {T : List Int} {w : Int} {m : Nat}
omit C in
theorem l_far1 {R : MH → Prop} {ra a acc : Addr} {s0 v3 : V} {g : Nat} {ps : List Nat} {rs : List Int} {H₀ : MH} (hac : H₀ acc = none) (hra : H₀ ra = some (.list (rs.map .int))) (ha : H₀ a = some (.list (nats ps))) (hz : rs.length ≤ 4000) (hp : ps.length ≤ 5000) (hg : g ≤ rs.length) :
    ∀ (j i : Nat) (ys : List V) (o : V) (H : MH), i + j = ps.length → H acc = some (.list ys) → ys.length ≤ i → Fr H₀ H [] →
      (∀ zs H', H' acc = some (.list zs) → (zs ≠ [] ↔ ys ≠ [] ∨ ∃ x ∈ ps.drop i, x < g ∧ (g : Int) ≤ x + rs.getD x 0) → Fr H₀ H' [] → R H') →
      WComp G p_law_farthest_ln n p_law_farthest_ce2 5 p_law_farthest_cc3 (.lst a i) acc [.ref ra, s0, .ref a, v3, .int g, o] R H := by
  have hbg : big = 16777216 := rfl
  intro j
  induction j with
  | zero =>
    intro i ys o H hi hacc hl fr hR
    have ha' := fr.get (by simp) ha
    refine WComp.done nd_far ?_ (hR ys H hacc ?_ fr)
    · rw [next_lst ha', List.getElem?_eq_none (by simp; lia)]; rfl
    · rw [List.drop_of_length_le (by lia)]; simp
  | succ j ih =>
    intro i ys o H hi hacc hl fr hR
    have ha' := fr.get (by simp) ha
    have hra' := fr.get (by simp) hra
    have hlt : i < ps.length := by lia
    refine WComp.turn nd_far (v := .int ps[i]) (src' := .lst a (i + 1)) ?_ fun Q' hN => ?_
    · rw [next_lst ha', List.getElem?_map, List.getElem?_eq_getElem hlt]; rfl
    rw [List.drop_eq_getElem_cons hlt] at hR
    have no : ¬ (ps[i] < g ∧ (g : Int) ≤ ps[i] + rs.getD ps[i] 0) → Q' H := fun hno => hN _ (ih (i + 1) ys _ H (by lia) hacc (by exact Nat.le_succ_of_le (by assumption)) fr fun zs H' z1 z2 z3 => hR zs H' z1 (z2.trans (by
      constructor
      · rintro (h | ⟨x, x1, x2⟩)
        · exact .inl h
        · exact .inr ⟨x, List.mem_cons_of_mem _ x1, x2⟩
      · rintro (h | ⟨x, x1, x2⟩)
        · exact .inl h
        · rcases List.mem_cons.mp x1 with rfl | x1
          · exact absurd x2 hno
          · exact .inr ⟨x, x1, x2⟩)) z3)
    simp [p_law_farthest_cc3, p_law_farthest_ce2]
    refine ⟨fun h1 => ?_, fun h1 => no fun h => by lia⟩
    refine sub_d hra' (by exact Nat.lt_of_lt_of_le (by assumption) (by assumption)) (by exact easy (by assumption) rfl) ?_
    rw [b_add, c_le]
    simp only [hacc]
    refine ⟨fun h2 => ⟨by exact Nat.lt_of_le_of_lt (by assumption) (by lia), hN _ ?_⟩, fun h2 => no fun h => h2 h.2⟩
    refine ih (i + 1) (ys ++ [.int 1]) _ _ (by lia) (upd_same _ _ _) (by simp; omega) (fr.turn (.inr hac)) fun zs H' z1 z2 z3 => hR zs H' z1 (z2.trans ?_) z3
    constructor
    · intro _; exact .inr ⟨ps[i], List.mem_cons_self, h1, h2⟩
    · intro _; exact .inl (by simp)
omit C in
theorem l_far2 {R : MH → Prop} {ra a acc : Addr} {v3 : V} {s0 : Nat} {ps : List Nat} {rs : List Int} {H₀ : MH} (hac : H₀ acc = none) (hra : H₀ ra = some (.list (rs.map .int))) (ha : H₀ a = some (.list (nats ps))) (hz : rs.length ≤ 4000) (hp : ps.length ≤ 5000) :
    ∀ (k lo : Nat) (ys : List Nat) (o o5 : V) (H : MH), lo + k = rs.length + 1 → H acc = some (.list (nats ys)) → ys.length ≤ lo → Fr H₀ H [] →
      (∀ g ∈ ys, g ≤ rs.length ∧ ∃ x ∈ ps, x < g ∧ (g : Int) ≤ x + rs.getD x 0) →
      (∀ (zs : List Nat) H', H' acc = some (.list (nats zs)) → zs.length ≤ 4001 → (∀ g ∈ zs, g ≤ rs.length ∧ ∃ x ∈ ps, x < g ∧ (g : Int) ≤ x + rs.getD x 0) → (∀ g ∈ ys, g ∈ zs) → (∀ g, lo ≤ g → g ≤ rs.length → (∃ x ∈ ps, x < g ∧ (g : Int) ≤ x + rs.getD x 0) → g ∈ zs) → Fr H₀ H' [] → R H') →
      WComp G p_law_farthest_ln n p_law_farthest_ce1 4 p_law_farthest_cc4 (.rng lo k 1) acc [.ref ra, .int s0, .ref a, v3, o, o5] R H := by
  have hbg : big = 16777216 := rfl
  intro k
  induction k with
  | zero =>
    intro lo ys o o5 H hk hacc hl fr hy hR
    exact WComp.done nd_far rfl (hR ys H hacc (by exact Nat.le_trans (by assumption) (by lia)) hy (fun _ h => h) (fun g h1 h2 => by omega) fr)
  | succ k ih =>
    intro lo ys o o5 H hk hacc hl fr hy hR
    refine WComp.turn nd_far (v := .int lo) (src' := .rng ((lo : Int) + 1) k 1) rfl fun Q' hN => ?_
    have ha' := fr.get (by simp) ha
    have hra' := fr.get (by simp) hra
    simp [p_law_farthest_cc4, p_law_farthest_ce1, srcOf, ha']
    intro a2 h2
    have hne : acc ≠ a2 := ne_of h2 hacc
    refine l_far1 (s0 := .int s0) h2 hra' ha' hz hp (by lia) ps.length 0 [] _ _ (by exact Nat.add_comm _ _) (upd_same _ _ _) (by simp) (Fr.sub (Sub.fresh h2 _)) fun zs H1 z1 z2 f1 => ?_
    have hacc1 := f1.get (by simp) hacc
    have fr1 := fr.trans f1
    simp only [z1, hacc1]
    simp only [List.drop_zero, ne_eq, not_true_eq_false, false_or] at z2
    refine ⟨fun h => ?_, fun h => ?_⟩
    · have hx := z2.mp h
      refine ⟨by simp; exact Nat.lt_of_le_of_lt (by assumption) (by lia), hN _ ?_⟩
      refine ih (lo + 1) (ys ++ [lo]) _ _ _ (by lia) (by rw [upd_same]; simp) (by simp; omega) (fr1.turn (.inr hac)) (fun g hg => ?_) fun zs' H' b1 b2 b3 b4 b5 b6 => hR zs' H' b1 b2 b3 (fun g hg => b4 g (List.mem_append.mpr (.inl hg))) (fun g g1 g2 g3 => ?_) b6
      · rcases List.mem_append.mp hg with hg | hg
        · exact hy g hg
        · have : g = lo := by simpa using hg
          subst this; exact ⟨by lia, hx⟩
      · rcases Nat.lt_or_ge lo g with h' | h'
        · exact b5 g (by assumption) g2 g3
        · have : g = lo := by exact Nat.le_antisymm (by assumption) (by assumption)
          subst this; exact b4 _ (by simp)
    · have hx : ¬ _ := fun q => (z2.mpr q) h
      refine hN _ (ih (lo + 1) ys _ _ _ (by lia) hacc1 (by exact Nat.le_succ_of_le (by assumption)) fr1 hy fun zs' H' b1 b2 b3 b4 b5 b6 => hR zs' H' b1 b2 b3 b4 (fun g g1 g2 g3 => ?_) b6)
      rcases Nat.lt_or_ge lo g with h' | h'
      · exact b5 g (by assumption) g2 g3
      · have : g = lo := by exact Nat.le_antisymm (by assumption) (by assumption)
        subst this; exact absurd g3 hx

omit C in
theorem Rs.get {T : List Int} {w : Int} {m : Nat} {rs : List Int} (x : Rs T w m 0 rs) {i : Nat} (h : i < T.length) : ∃ r : Nat, rs.getD i 0 = r ∧ Reach T w m i r := by
  have hl := x.len
  obtain ⟨r, h1, h2⟩ := x.at_ i rs[i] (List.getElem?_eq_getElem (by exact Nat.lt_of_lt_of_le (by assumption) (by lia)))
  exact ⟨r, by rw [List.getD_eq_getElem?_getD, List.getElem?_eq_getElem (by exact Nat.lt_of_lt_of_le (by assumption) (by lia))]; exact h1, by simpa using h2⟩
omit C in
theorem l_far3 {K : Fl → List V → MH → Prop} {ra fd : Addr} {s0 : Nat} {rs : List Int} {H₀ : MH} (hrs : Rs T w m 0 rs) (hz : T.length ≤ 4000) (hs : s0 ≤ T.length) (hra : H₀ ra = some (.list (rs.map .int))) (hfd : H₀ fd = none) :
    ∀ (j p : Nat) (a : Addr) (ps L : List Nat) (o4 o5 : V) (H : MH), T.length ≤ p + j → H a = some (.list (nats ps)) → ps.length ≤ 4001 → H fd = some (.list (nats L)) → fd ≠ a → PosL T w m s0 L p → p ∈ ps → (∀ x ∈ ps, x ≤ p) → Fr H₀ H [] →
      (∀ v2 v4 v5 L' H', H' fd = some (.list (nats L')) → PosL T w m s0 L' T.length → Fr H₀ H' [] → K .next [.ref ra, .int s0, v2, .ref fd, v4, v5] H') →
      WWhile G p_law_farthest_ln n p_law_farthest_wt0 p_law_farthest_wb5 [.ref ra, .int s0, .ref a, .ref fd, o4, o5] K H := by
  have hbg : big = 16777216 := rfl
  have hrl := hrs.len
  intro j
  induction j with
  | zero =>
    intro p a ps L o4 o5 H hj ha hp hf hne hL hm1 hm2 fr hK
    have hll := hL.len hs
    obtain ⟨L0, rfl⟩ := hL.last
    refine WWhile.turn nd_far fun Q' _ _ _ _ => ?_
    simp [p_law_farthest_wt0]
    refine sub_last (xs := nats L0) (v := .int p) (by rw [hf]; simp) (by simp at hll ⊢; lia) ?_
    have hra' := fr.get (by simp) hra
    simp [hra']
    have hpe : p = T.length := by lia
    subst hpe
    refine ⟨by lia, fun h => by exact mh_false (by lia), fun h => ?_⟩
    exact hK _ _ _ _ H hf hL fr
  | succ j ih =>
    intro p a ps L o4 o5 H hj ha hp hf hne hL hm1 hm2 fr hK
    rcases Nat.lt_or_ge p T.length with hlt | hge
    · have hll := hL.len hs
      obtain ⟨L0, eL⟩ := hL.last
      have hra' := fr.get (by simp) hra
      refine WWhile.turn nd_far fun Q' hN _ _ _ => ?_
      simp [p_law_farthest_wt0]
      refine sub_last (xs := nats L0) (v := .int p) (by rw [hf, eL]; simp) (by rw [eL] at hll; simp at hll ⊢; lia) ?_
      simp [hra']
      refine ⟨by lia, fun _ => ?_, fun h => by exact mh_false (by lia)⟩
      unfold p_law_farthest_wb5
      refine wB_go fun Q1 n1 _ _ _ => ?_
      simp [hra']
      refine ⟨by lia, by unfold rsm; lia, by unfold rsm; lia, fun acc hac => ?_⟩
      have s1 := Sub.fresh hac (.list [])
      obtain ⟨k, hk⟩ : ∃ k : Nat, rs.length + 1 - s0 = k := ⟨_, rfl⟩
      rw [hk]
      refine l_far2 (H₀ := H) hac hra' ha (by lia) (by exact easy (by assumption) rfl) k s0 [] _ _ _ (by lia) (upd_same _ _ _) (by simp) (Fr.sub s1) (fun _ h => nomatch h) fun zs H1 z1 z2 z3 _ z4 f1 => ?_
      refine n1 _ _ (wB_go fun Q2 n2 _ _ _ => ?_)
      have hf1 := f1.get (by simp) hf
      have hfacc : fd ≠ acc := ne_of hac hf
      obtain ⟨r, hr1, hr2⟩ := hrs.get hlt
      have hin : p + r ∈ zs := by
        have := hr2.one
        have := hr2.fit
        exact z4 (p + r) (by lia) (by lia) ⟨p, hm1, by lia, by rw [hr1]; exact Int.ofNat_le.mpr (by lia)⟩
      have htop : ∀ g ∈ zs, g ≤ p + r := fun g hg => by
        obtain ⟨g1, x, x1, x2, x3⟩ := z3 g hg
        obtain ⟨r', hr1', hr2'⟩ := hrs.get (show x < T.length by exact Nat.lt_of_lt_of_le (by assumption) (by lia))
        have := reach_le (fun q hq => let ⟨r, _, h⟩ := hrs.get hq; ⟨r, h⟩) hlt (hm2 x x1) hr2' hr2
        rw [hr1'] at x3; lia
      simp
      refine m_app hf1 ?_
      rw [bi_maxl z1 (allInts_nats zs)]
      refine ⟨fun h => (by simp at h; rw [h] at hin; exact nomatch hin), fun M M1 M2 => ?_⟩
      have hM : M = ((p + r : Nat) : Int) := by
        obtain ⟨g, g1, rfl⟩ := List.mem_map.mp M1
        have h1 := htop g g1
        have h2 := M2 _ (List.mem_map.mpr ⟨_, hin, rfl⟩)
        lia
      subst hM
      refine app_to hf1 (by simp; lia) (by simp) (n2 _ _ ?_)
      rw [wB_nil]
      refine hN _ _ ?_
      have := hr2.one
      refine ih (p + r) acc zs (L ++ [p + r]) _ _ _ (by exact Nat.le_trans (by assumption) (by lia)) ((upd_ne _ _ hfacc.symm).trans z1) z2 (by rw [upd_same]; simp) hfacc (.snoc hL hlt hr2) hin htop ((fr.trans f1).turn (.inr hfd)) hK
    · exact ih p a ps L o4 o5 H (by exact Nat.le_trans (by assumption) (by lia)) ha hp hf hne hL hm1 hm2 fr hK
include C
theorem c_farthest {ra : Addr} {s0 : Nat} {rs : List Int} (hn : 1 ≤ n) (hrs : Rs T w m 0 rs) (hz : T.length ≤ 4000) (hs : s0 ≤ T.length) (hra : H ra = some (.list (rs.map .int)))
    (hq : ∀ L b H', H' b = some (.list (nats L)) → PosL T w m s0 L T.length → Fr H H' [] → Q (.ref b) H') : WCall G n (.top "_law_farthest") [.ref ra, .int s0] Q H := by
  obtain ⟨k, rfl, hk⟩ := pred_of hn
  have hbg : big = 16777216 := rfl
  refine WCall.go (C.at 42 rfl) fun Q0 hR hN => ?_
  have e : fr0 p_law_farthest_ln [.ref ra, .int s0] = [.ref ra, .int s0, .odd, .odd, .odd, .odd] := rfl
  rw [e]
  unfold p_law_farthest
  refine wB_go fun Q1 n1 _ _ _ => ?_
  try simp
  refine ⟨by simp [hbg], fun a ha => ⟨by simp [hbg], fun fd hfd => ⟨by simp [hbg], n1 _ _ (wB_go fun Q2 n2 _ _ _ => ?_)⟩⟩⟩
  have s1 := Sub.fresh ha (.list [V.int s0])
  have s2 := Sub.fresh hfd (.list [V.int s0])
  refine l_far3 (H₀ := H) hrs hz hs hra (s1.none hfd) T.length s0 a [s0] [s0] _ _ _ (by exact Nat.le_add_left _ _) (upd_old hfd (upd_same _ _ _)) (by simp) (upd_same _ _ _) (ne_of hfd (upd_same _ _ _)).symm .one (by simp) (by simp) (Fr.sub (s1.trans s2)) fun v2 v4 v5 L' H' h1 h2 h3 => n2 _ _ (wB_go fun Q3 _ _ _ r3 => ?_)
  simp
  exact r3 _ _ _ (hR _ _ _ (hq L' fd H' h1 h2 h3))
end
end Mine
end
-- part L4
section
set_option maxHeartbeats 4000000
namespace Mine
noncomputable def Step (T : List Int) (w : Int) (m p : Nat) (x : Int × Int) : Prop :=
  (x.1 = 0 ∧ x.2 = oct T p ∧ p < T.length) ∨ (2 ≤ x.1 ∧ x.1 ≤ m ∧ 1 ≤ x.2 ∧ x.2 ≤ p ∧ x.2 ≤ w ∧ p + x.1 ≤ T.length ∧ agree T p (p - x.2.toNat) x.1.toNat)
inductive PL (T : List Int) (w : Int) (m s0 : Nat) : List (Int × Int) → Nat → Prop
  | nil : PL T w m s0 [] s0
  | snoc {ms p x} : PL T w m s0 ms p → Step T w m p x → PL T w m s0 (ms ++ [x]) (p + sizeOf' x)
variable {T : List Int} {w : Int} {m s0 : Nat}
theorem Step.size {p : Nat} {x : Int × Int} (h : Step T w m p x) : 1 ≤ sizeOf' x ∧ p + sizeOf' x ≤ T.length ∧ (sizeOf' x : Int) = max 1 x.1 := by
  unfold sizeOf'
  rcases h with ⟨h1, h2, h3⟩ | ⟨h1, h2, h3, h4, h5, h6, h7⟩
  · rw [if_pos h1]; lia
  · rw [if_neg (by lia)]; lia
theorem Best.step {p : Nat} {x : Int × Int} (hp : p < T.length) (b : Best T w p (min m (T.length - p)) 2 x) : Step T w m p (stepOf T p x) := by
  rcases b with ⟨rfl, _⟩ | ⟨h1, h2, h3, h4, h5, h6, h7⟩
  · left; exact ⟨by simp [stepOf], by simp [stepOf], hp⟩
  · have h0 : x ≠ (0, 0) := fun q => by rw [q] at h1; simp at h1
    right
    unfold stepOf
    rw [if_neg h0]
    exact ⟨h1, by omega, h3, h4, h5, by lia, h6⟩
theorem GP.pl {ms : List (Int × Int)} {p : Nat} (g : GP T w m s0 ms p) : PL T w m s0 ms p := by
  induction g with
  | nil => exact .nil
  | snoc g hp b ih => exact .snoc ih (b.step hp)
theorem PL.take {ms : List (Int × Int)} {p : Nat} (g : PL T w m s0 ms p) : ∀ i, i < ms.length → ∃ q x, PL T w m s0 (ms.take i) q ∧ Step T w m q x ∧ ms[i]? = some x := by
  induction g with
  | nil => intro i hi; simp at hi
  | @snoc ms p x g hx ih =>
    intro i hi
    rcases Nat.lt_or_ge i ms.length with h | h
    · obtain ⟨q, y, h1, h2, h3⟩ := ih i h
      exact ⟨q, y, by rw [List.take_append_of_le_length (by exact Nat.le_of_lt (by assumption))]; exact h1, h2, by rw [List.getElem?_append_left h]; exact h3⟩
    · have : i = ms.length := by simp at hi; lia
      subst this
      exact ⟨p, x, by rw [List.take_left']; exact g; rfl, hx, by simp⟩
theorem PL.size {ms : List (Int × Int)} {p : Nat} (g : PL T w m s0 ms p) : p = s0 + (ms.map sizeOf').sum := by
  induction g with
  | nil => simp
  | snoc g hx ih => simp [ih]; exact Nat.add_assoc _ _ _
theorem PL.uniq {ms : List (Int × Int)} {p q : Nat} (g : PL T w m s0 ms p) (h : PL T w m s0 ms q) : p = q := g.size.trans h.size.symm
theorem PL.le {ms : List (Int × Int)} {p : Nat} (g : PL T w m s0 ms p) (hs : s0 ≤ T.length) : s0 + ms.length ≤ p ∧ p ≤ T.length := by
  induction g with
  | nil => simp [hs]
  | snoc g hx ih => have := hx.size; simp; lia
theorem GP.take {ms : List (Int × Int)} {p : Nat} (g : GP T w m s0 ms p) : ∀ i, i < ms.length → ∃ q x, GP T w m s0 (ms.take i) q ∧ q < T.length ∧ Best T w q (min m (T.length - q)) 2 x ∧ ms[i]? = some (stepOf T q x) := by
  induction g with
  | nil => intro i hi; simp at hi
  | @snoc ms p x g hp hx ih =>
    intro i hi
    rcases Nat.lt_or_ge i ms.length with h | h
    · obtain ⟨q, y, h1, h2, h3, h4⟩ := ih i h
      exact ⟨q, y, by rw [List.take_append_of_le_length (by exact Nat.le_of_lt (by assumption))]; exact h1, h2, h3, by rw [List.getElem?_append_left h]; exact h4⟩
    · have : i = ms.length := by simp at hi; lia
      subst this
      exact ⟨p, x, by rw [List.take_left']; exact g; rfl, hp, hx, by simp⟩
theorem take_one {α : Type} {ms : List α} {i : Nat} {x : α} (h : ms[i]? = some x) : ms.take (i + 1) = ms.take i ++ [x] := by
  rw [List.take_succ, h]; rfl
end Mine
end
-- part K31
section
open PySem PySem.Calls PyProof.Rows PySem.W
set_option maxHeartbeats 4000000
set_option maxRecDepth 100000
namespace Mine
@[local simp] theorem lkd_31 {α : Type} {x : α} : @lk α ⟨x⟩ = x := rfl
theorem srcOf_list {H : MH} {a : Addr} {xs : List V} {Q : Src → MH → Prop} (h : H a = some (.list xs)) (hq : Q (.lst a 0) H) : srcOf (.ref a) Q H := by
  delta srcOf
  dsimp only
  rw [h]
  exact hq
theorem c_eqL {H : MH} {l r : Addr} {ns ms : List Int} {T F : Prop} (h1 : H l = some (.list (ns.map .int))) (h2 : H r = some (.list (ms.map .int))) : wCmp .Eq (.ref l) (.ref r) T F H = (ns.length ≤ big ∧ ms.length ≤ big ∧ (ns = ms → T) ∧ (¬ ns = ms → F)) := by
  show hList (H l) (fun xs => hList (H r) fun ys => oSome (allInts xs) fun ns => oSome (allInts ys) fun ms => _) = _
  rw [h1, h2]
  show oSome (allInts (ns.map .int)) (fun ns => oSome (allInts (ms.map .int)) fun ms => _) = _
  rw [allInts_map, allInts_map]; rfl
theorem c_neL {H : MH} {l r : Addr} {ns ms : List Int} {T F : Prop} (h1 : H l = some (.list (ns.map .int))) (h2 : H r = some (.list (ms.map .int))) : wCmp .NotEq (.ref l) (.ref r) T F H = (ns.length ≤ big ∧ ms.length ≤ big ∧ (¬ ns = ms → T) ∧ (ns = ms → F)) := by
  show hList (H l) (fun xs => hList (H r) fun ys => oSome (allInts xs) fun ns => oSome (allInts ys) fun ms => _) = _
  rw [h1, h2]
  show oSome (allInts (ns.map .int)) (fun ns => oSome (allInts (ms.map .int)) fun ms => _) = _
  rw [allInts_map, allInts_map]; rfl
theorem nd_stands : p_law_stands_ln.Nodup := by decide +kernel
theorem nd_plays : p_law_plays_ln.Nodup := by decide +kernel
section
variable {G : Gd} (C : Cx G) {n : Nat} {Q : V → MH → Prop} {H : MH} {T : List Int} {w : Int} {m : Nat}
omit C in
theorem l_stands {K : Fl → List V → MH → Prop} {a fd : Addr} {s0 : Nat} {ms : List (Int × Int)} {vs : List V} {p : Nat} {H₀ : MH} (hg : GP T w m s0 ms p) (hz : T.length ≤ 4000) (hs : s0 ≤ T.length) (ha : H₀ a = some (.list vs)) (hv : Tups H₀ vs ms) (hfd : H₀ fd = none) :
    ∀ (j i q : Nat) (L : List Nat) (o3 o4 : V) (H : MH), i + j = ms.length → GP T w m s0 (ms.take i) q → PosL T w m s0 L q → H fd = some (.list (nats L)) → Fr H₀ H [] →
      (∀ v3 v4 L' H', H' fd = some (.list (nats L')) → PosL T w m s0 L' p → Fr H₀ H' [] → K .next [.ref a, .int s0, .ref fd, v3, v4] H') →
      WFor G p_law_stands_ln n (.tup [3, 4]) p_law_stands_fb0 (.lst a i) [.ref a, .int s0, .ref fd, o3, o4] K H := by
  have hbg : big = 16777216 := rfl
  have hvl := hv.length
  intro j
  induction j with
  | zero =>
    intro i q L o3 o4 H hi hgi hL hf fr hK
    have ha' := fr.get (by simp) ha
    refine WFor.done nd_stands ?_ ?_
    · rw [next_lst ha', List.getElem?_eq_none (by lia)]; rfl
    · have : i = ms.length := by omega
      subst this
      rw [List.take_length] at hgi
      have : q = p := hgi.pl.uniq hg.pl
      subst this
      exact hK _ _ L H hf hL fr
  | succ j ih =>
    intro i q L o3 o4 H hi hgi hL hf fr hK
    have ha' := fr.get (by simp) ha
    obtain ⟨q', x, g1, g2, g3, g4⟩ := hg.take i (by lia)
    have : q' = q := g1.pl.uniq hgi.pl
    subst this
    obtain ⟨t, t1, t2⟩ := hv.at g4
    have t2' := fr.get (by simp) t2
    have hll := hL.len hs
    obtain ⟨L0, eL⟩ := hL.last
    refine WFor.turn nd_stands (v := .ref t) (src' := .lst a (i + 1)) ?_ fun Q' hN _ _ _ => ?_
    · rw [next_lst ha', t1]; rfl
    refine wT_tup t2' rfl ?_
    simp [p_law_stands_fb0]
    refine m_app hf ?_
    refine sub_last (xs := nats L0) (v := .int q') (by rw [hf, eL]; simp) (by rw [eL] at hll; simp at hll ⊢; lia) ?_
    have hst := (g3.step g2).size
    have e1 : (q' : Int) + (if 1 < (stepOf T q' x).1 then (stepOf T q' x).1 else 1) = ((q' + sizeOf' (stepOf T q' x) : Nat) : Int) := by split <;> lia
    rw [b_add, e1]
    refine app_to hf (by simp; lia) (by simp) (hN _ _ ?_)
    refine ih (i + 1) _ (L ++ [q' + sizeOf' (stepOf T q' x)]) _ _ _ (by lia) (by rw [take_one g4]; exact .snoc g1 g2 g3) (.snoc hL g2 (best_reach g2 g3)) (by rw [upd_same]; simp) (fr.turn (.inr hfd)) hK
include C
theorem c_stands {a : Addr} {s0 : Nat} {ms : List (Int × Int)} {vs : List V} {p : Nat} (hn : 1 ≤ n) (hg : GP T w m s0 ms p) (hz : T.length ≤ 4000) (hs : s0 ≤ T.length) (ha : H a = some (.list vs)) (hv : Tups H vs ms)
    (hq : ∀ b L H', H' b = some (.list (nats L)) → PosL T w m s0 L p → Fr H H' [] → Q (.ref b) H') : WCall G n (.top "_law_stands") [.ref a, .int s0] Q H := by
  obtain ⟨k, rfl, hk⟩ := pred_of hn
  have hbg : big = 16777216 := rfl
  refine WCall.go (C.at 44 rfl) fun Q0 hR hN => ?_
  have e : fr0 p_law_stands_ln [.ref a, .int s0] = [.ref a, .int s0, .odd, .odd, .odd] := rfl
  rw [e]
  unfold p_law_stands
  refine wB_go fun Q1 n1 _ _ _ => ?_
  simp
  refine ⟨by simp [hbg], fun fd hfd => n1 _ _ (wB_go fun Q2 n2 _ _ _ => ?_)⟩
  have s1 := Sub.fresh hfd (.list [V.int s0])
  have ha1 := s1 _ _ ha
  simp [srcOf, ha1]
  refine l_stands (H₀ := H) hg hz hs ha hv hfd ms.length 0 s0 [s0] _ _ _ (by exact Nat.add_comm _ _) .nil .one (upd_same _ _ _) (Fr.sub s1) fun v3 v4 L' H' h1 h2 h3 => n2 _ _ (wB_go fun Q3 _ _ _ r3 => ?_)
  simp
  exact r3 _ _ _ (hR _ _ _ (hq fd L' H' h1 h2 h3))

omit C in
theorem oct_take {q i : Nat} (h : i < q) (hq : q ≤ T.length) : (T.take q).getD i 0 = oct T i := by
  unfold oct
  rw [List.getD_eq_getElem?_getD, List.getD_eq_getElem?_getD, List.getElem?_take, if_pos h]
omit C in
theorem take_oct {q : Nat} (h : q < T.length) : T.take q ++ [oct T q] = T.take (q + 1) := by
  rw [List.take_succ]
  unfold oct
  rw [List.getD_eq_getElem?_getD, List.getElem?_eq_getElem h]; rfl
omit C in
theorem l_copy {K : Fl → List V → MH → Prop} {md : Addr} {v0 v1 v2 v3 v4 : V} {q l d : Nat} {H₀ : MH} (hz : T.length ≤ 4000) (hmd : H₀ md = none) (hd : 1 ≤ d) (hdq : d ≤ q) (hl : q + l ≤ T.length) (hag : agree T q (q - d) l) :
    ∀ (k j : Nat) (x0 : Int) (o8 : V) (H : MH), j + k = l → H md = some (.list ((T.take (q + j)).map .int)) → Fr H₀ H [] →
      (∀ v8 H', H' md = some (.list ((T.take (q + l)).map .int)) → Fr H₀ H' [] → K .next [v0, v1, v2, v3, v4, .ref md, .int l, .int d, v8] H') →
      WFor G p_law_plays_ln n (.v 8) p_law_plays_fb0 (.rng x0 k 1) [v0, v1, v2, v3, v4, .ref md, .int l, .int d, o8] K H := by
  have hbg : big = 16777216 := rfl
  intro k
  induction k with
  | zero =>
    intro j x0 o8 H hj hm fr hK
    have : j = l := by omega
    subst this
    exact WFor.done nd_plays rfl (hK _ _ hm fr)
  | succ k ih =>
    intro j x0 o8 H hj hm fr hK
    refine WFor.turn nd_plays (v := .int x0) (src' := .rng (x0 + 1) k 1) rfl fun Q' hN _ _ _ => ?_
    rw [wT_v]
    have hlen : (T.take (q + j)).length = q + j := by rw [List.length_take]; lia
    simp [p_law_plays_fb0]
    refine m_app hm ?_
    rw [hm]
    simp only [hSeq_list, List.length_map, hlen]
    refine ⟨by lia, ?_⟩
    rw [show (((q + j : Nat) : Int) - (d : Int)) = ((q + j - d : Nat) : Int) by lia]
    refine sub_d hm (by omega) (by lia) ?_
    have hv : (T.take (q + j)).getD (q + j - d) 0 = oct T (q + j) := by
      rw [oct_take (by exact Nat.sub_lt_right_of_lt_add (by lia) (by lia)) (by lia), hag j (by lia)]
      congr 1; lia
    rw [hv]
    refine app_to hm (by simp; exact Nat.lt_of_le_of_lt (Nat.min_le_right _ _) (by lia)) (by simp) (hN _ _ ?_)
    refine ih (j + 1) _ _ _ (by lia) ?_ (fr.turn (.inr hmd)) hK
    rw [upd_same, show q + (j + 1) = q + j + 1 by exact Int.toNat_natCast _, ← take_oct (by lia), List.map_append]; rfl
omit C in
theorem l_plays {K : Fl → List V → MH → Prop} {a md : Addr} {s0 : Nat} {ms : List (Int × Int)} {vs : List V} {p : Nat} {H₀ : MH} (hg : PL T w m s0 ms p) (hz : T.length ≤ 4000) (hs : s0 ≤ T.length) (ha : H₀ a = some (.list vs)) (hv : Tups H₀ vs ms) (hmd : H₀ md = none) :
    ∀ (j i q : Nat) (o6 o7 o8 : V) (H : MH), i + j = ms.length → PL T w m s0 (ms.take i) q → H md = some (.list ((T.take q).map .int)) → Fr H₀ H [] →
      (∀ v6 v7 v8 H', H' md = some (.list ((T.take p).map .int)) → Fr H₀ H' [] → K .next [.ref a, .bytes T, .int s0, .int w, .int m, .ref md, v6, v7, v8] H') →
      WFor G p_law_plays_ln n (.tup [6, 7]) p_law_plays_fb1 (.lst a i) [.ref a, .bytes T, .int s0, .int w, .int m, .ref md, o6, o7, o8] K H := by
  have hbg : big = 16777216 := rfl
  have hvl := hv.length
  intro j
  induction j with
  | zero =>
    intro i q o6 o7 o8 H hi hgi hm fr hK
    have ha' := fr.get (by simp) ha
    refine WFor.done nd_plays ?_ ?_
    · rw [next_lst ha', List.getElem?_eq_none (by lia)]; rfl
    · have : i = ms.length := by omega
      subst this
      rw [List.take_length] at hgi
      have : q = p := hgi.uniq hg
      subst this
      exact hK _ _ _ H hm fr
  | succ j ih =>
    intro i q o6 o7 o8 H hi hgi hm fr hK
    have ha' := fr.get (by simp) ha
    obtain ⟨q', x, g1, g2, g4⟩ := hg.take i (by lia)
    have : q' = q := g1.uniq hgi
    subst this
    obtain ⟨t, t1, t2⟩ := hv.at g4
    have t2' := fr.get (by simp) t2
    refine WFor.turn nd_plays (v := .ref t) (src' := .lst a (i + 1)) ?_ fun Q' hN hC _ _ => ?_
    · rw [next_lst ha', t1]; rfl
    refine wT_tup t2' rfl ?_
    have hst := g2.size
    have hgi' : PL T w m s0 (ms.take (i + 1)) (q' + sizeOf' x) := by rw [take_one g4]; exact .snoc g1 g2
    obtain ⟨M, hM⟩ : ∃ M, M = T.take q' := ⟨_, rfl⟩
    have hlen : M.length = q' := by rw [hM, List.length_take]; lia
    rw [← hM] at hm
    unfold p_law_plays_fb1
    refine wB_go fun Q1 n1 c1 _ r1 => ?_
    simp [-xB_cons, -xB_nil]
    refine ⟨fun h0 => ?_, fun h0 => ?_⟩
    · rcases g2 with ⟨h1, h2, h3⟩ | ⟨h1, _⟩
      · refine wB_go fun Q2 n2 c2 _ _ => ?_
        simp
        refine m_app hm ?_
        refine app_to hm (by simp; lia) (by simp) (n2 _ _ (wB_go fun Q3 n3 c3 _ _ => ?_))
        simp
        refine c3 _ _ (c1 _ _ (hC _ _ ?_))
        have es : sizeOf' x = 1 := by unfold sizeOf'; rw [if_pos h1]
        rw [es] at hgi'
        refine ih (i + 1) (q' + 1) _ _ _ _ (by lia) hgi' ?_ (fr.turn (.inr hmd)) hK
        rw [upd_same, ← take_oct h3, ← hM, h2, List.map_append]; rfl
      · lia
    · rcases g2 with ⟨h1, h2, h3⟩ | ⟨h1, h2, h3, h4, h5, h6, h7⟩
      · exact absurd h1 h0
      · rw [wB_nil]
        refine n1 _ _ (wB_go fun Q2 n2 c2 _ r2 => ?_)
        have es : sizeOf' x = x.1.toNat := by unfold sizeOf'; rw [if_neg h0]
        simp [-xB_cons, -xB_nil, hm, hlen]
        refine ⟨fun _ => ⟨fun _ => ⟨fun _ => ⟨by lia, fun _ => ?_, fun h => by split at h <;> (exact mh_false (by lia))⟩, fun h => by exact mh_false (by lia)⟩, fun h => by exact mh_false (by lia)⟩, fun h => by exact mh_false (by lia)⟩
        rw [wB_nil]
        refine n2 _ _ (wB_go fun Q3 n3 _ _ _ => ?_)
        obtain ⟨l, hl⟩ : ∃ l : Nat, x.1 = l := ⟨x.1.toNat, by lia⟩
        obtain ⟨d, hd⟩ : ∃ d : Nat, x.2 = d := ⟨x.2.toNat, by lia⟩
        rw [hl, hd] at h7
        simp at h7
        rw [hl, hd]
        simp
        refine ⟨by unfold rsm; exact ⟨by lia, by lia⟩, ?_⟩
        have hm' : H md = some (.list ((T.take (q' + 0)).map .int)) := by rw [hm, hM]; rfl
        refine l_copy hz hmd (by lia) (by lia) (by lia) h7 l 0 0 _ H (by exact Nat.add_comm _ _) hm' fr fun v8 H' h1' h2' => n3 _ _ ?_
        rw [wB_nil]
        refine hN _ _ ?_
        have e2 : sizeOf' x = l := by rw [es, hl]; simp
        rw [e2] at hgi'
        exact ih (i + 1) (q' + l) _ _ _ _ (by lia) hgi' h1' h2' hK
include C
theorem c_plays {a : Addr} {s0 : Nat} {ms : List (Int × Int)} {vs : List V} (hn : 1 ≤ n) (hg : PL T w m s0 ms T.length) (hz : T.length ≤ 4000) (hs : s0 ≤ T.length) (ha : H a = some (.list vs)) (hv : Tups H vs ms)
    (hq : ∀ H', Fr H H' [] → Q (.bool true) H') : WCall G n (.top "_law_plays") [.ref a, .bytes T, .int s0, .int w, .int m] Q H := by
  obtain ⟨k, rfl, hk⟩ := pred_of hn
  have hbg : big = 16777216 := rfl
  refine WCall.go (C.at 43 rfl) fun Q0 hR hN => ?_
  have e : fr0 p_law_plays_ln [.ref a, .bytes T, .int s0, .int w, .int m] = [.ref a, .bytes T, .int s0, .int w, .int m, .odd, .odd, .odd, .odd] := rfl
  rw [e]
  unfold p_law_plays
  refine wB_go fun Q1 n1 _ _ _ => ?_
  simp
  refine sl_by rfl rfl (by exact easy (by assumption) rfl) ?_
  rw [cut_to, bi_list]
  refine ⟨by rw [List.length_take]; exact Nat.le_trans (Nat.min_le_right _ _) (by lia), fun md hmd => ?_⟩
  rw [wT_v]
  refine n1 _ _ (wB_go fun Q2 n2 _ _ _ => ?_)
  have s1 := Sub.fresh hmd (.list ((T.take s0).map V.int))
  have ha1 := s1 _ _ ha
  dsimp only [wS, wSrc]
  refine srcOf_list ha1 ?_
  refine l_plays (H₀ := H) hg hz hs ha hv hmd ms.length 0 s0 _ _ _ _ (by exact Nat.add_comm _ _) .nil (upd_same _ _ _) (Fr.sub s1) fun v6 v7 v8 H' h1 h2 => n2 _ _ (wB_go fun Q3 _ _ _ r3 => ?_)
  rw [List.take_length] at h1
  simp
  refine ⟨by lia, fun b hb => ?_⟩
  have s3 := Sub.fresh hb (.list (T.map V.int))
  have e1 := s3 _ _ h1
  rw [c_eqL e1 (upd_same _ _ _)]
  exact ⟨by lia, by lia, fun _ => r3 _ _ _ (hR _ _ _ (hq _ (h2.trans (Fr.sub s3)))), fun h => absurd rfl h⟩
end
end Mine
end
-- part K32
section
open PySem PySem.Calls PyProof.Rows PySem.W
set_option maxHeartbeats 4000000
set_option maxRecDepth 100000
namespace Mine
noncomputable def FP (H : MH) (pr : Addr) (e : Int) : Prop := H pr = some (.inst 6 [(19, .int e), (20, .int e), (21, .int 0)])
theorem nd_price : p_price_of_ln.Nodup := by decide +kernel
section
variable {G : Gd} {n : Nat} {Q : V → MH → Prop} {H : MH} {e : Int}
theorem c_flat (D : Dx G) {x : Addr} (hn : 1 ≤ n) (hx : H x = some (.inst 6 [])) (he : 0 ≤ e) (hq : ∀ H', FP H' x e → (∀ y, y ≠ x → H' y = H y) → Q .none H') : WCall G n (.meth 6 24) [.ref x, .int e, .int e] Q H := by
  obtain ⟨k, rfl, hk⟩ := pred_of hn
  refine WCall.goD D.d2 (D.c.at 12 rfl) fun Q0 hR hN => ?_
  have e0 : fr0 p_FlatPrice_init_ln ([.ref x, .int e, .int e] ++ [.int 0]) = [.ref x, .int e, .int e, .int 0] := rfl
  rw [e0]
  unfold p_FlatPrice_init
  refine wB_go fun Q1 n1 _ _ _ => ?_
  simp [-xB_cons, -xB_nil]
  refine ⟨fun h => by exact mh_false (by lia), fun _ => ⟨fun h => by exact mh_false (by lia), fun _ => n1 _ _ (wB_go fun Q2 n2 _ _ _ => ?_)⟩⟩
  simp
  refine setA_to hx (by decide) (by decide) (by simp) (by simp) rfl fun H1 h1 o1 => n2 _ _ (wB_go fun Q3 n3 _ _ _ => ?_)
  simp
  refine setA_to h1 (by decide) (by decide) (by simp [fput]) (by simp) rfl fun H2 h2 o2 => n3 _ _ (wB_go fun Q4 n4 _ _ _ => ?_)
  simp
  refine setA_to h2 (by decide) (by decide) (by simp [fput]) (by simp) rfl fun H3 h3 o3 => n4 _ _ ?_
  rw [wB_nil]
  refine hN _ _ (hq H3 h3 fun y hy => by rw [o3 y hy, o2 y hy, o1 y hy])
variable (C : Cx G)
include C
theorem c_literal {pr : Addr} {o : Int} (hn : 1 ≤ n) (hx : FP H pr e) (hq : Q (.int e) H) : WCall G n (.meth 6 40) [.ref pr, .int o] Q H := by
  obtain ⟨k, rfl, hk⟩ := pred_of hn
  refine WCall.go (C.at 13 rfl) fun Q0 hR hN => ?_
  have e0 : fr0 p_FlatPrice_literal_ln [.ref pr, .int o] = [.ref pr, .int o] := rfl
  rw [e0]
  unfold FP at hx
  simp [p_FlatPrice_literal, hx, fget]
  exact hR _ _ _ hq
theorem c_match {pr : Addr} {l d : Int} (hn : 1 ≤ n) (hx : FP H pr e) (hq : Q (.int e) H) : WCall G n (.meth 6 41) [.ref pr, .int l, .int d] Q H := by
  obtain ⟨k, rfl, hk⟩ := pred_of hn
  refine WCall.go (C.at 14 rfl) fun Q0 hR hN => ?_
  have e0 : fr0 p_FlatPrice_match_ln [.ref pr, .int l, .int d] = [.ref pr, .int l, .int d] := rfl
  rw [e0]
  unfold FP at hx
  unfold p_FlatPrice_match
  refine wB_go fun Q1 n1 _ _ r1 => ?_
  simp [hx, fget]
  exact r1 _ _ _ (hR _ _ _ hq)
theorem l_price {K : Fl → List V → MH → Prop} {a pr : Addr} {ms : List (Int × Int)} {vs : List V} (hn : 1 ≤ n) (hx : FP H pr e) (ha : H a = some (.list vs)) (hv : Tups H vs ms) :
    ∀ (j i : Nat) (o3 o4 : V), i + j = ms.length → (∀ v3 v4, K .next [.ref a, .ref pr, .int (e * ms.length), v3, v4] H) →
      WFor G p_price_of_ln n (.tup [3, 4]) p_price_of_fb0 (.lst a i) [.ref a, .ref pr, .int (e * i), o3, o4] K H := by
  have hvl := hv.length
  intro j
  induction j with
  | zero =>
    intro i o3 o4 hi hK
    refine WFor.done nd_price ?_ ?_
    · rw [next_lst ha, List.getElem?_eq_none (by lia)]; rfl
    · have : i = ms.length := by omega
      subst this
      exact hK _ _
  | succ j ih =>
    intro i o3 o4 hi hK
    have hlt : i < ms.length := by lia
    obtain ⟨t, t1, t2⟩ := hv.at (List.getElem?_eq_getElem hlt)
    refine WFor.turn nd_price (v := .ref t) (src' := .lst a (i + 1)) ?_ fun Q' hN _ _ _ => ?_
    · rw [next_lst ha, t1]; rfl
    refine wT_tup t2 rfl ?_
    have nx : ∀ v3 v4, Q' .next [.ref a, .ref pr, .int (e * i + e), v3, v4] H := fun v3 v4 => by
      refine hN _ _ ?_
      have := ih (i + 1) v3 v4 (by lia) hK
      rw [show e * ((i + 1 : Nat) : Int) = e * i + e by rw [Int.natCast_add, Int.mul_add]; simp] at this
      exact this
    have hx' := hx
    unfold FP at hx'
    simp [p_price_of_fb0]
    refine ⟨fun h => ?_, fun h => ?_⟩
    · refine m_inst hx' (by decide) (by decide) rfl rfl ?_
      refine c_literal C hn hx ?_
      exact nx _ _
    · refine m_inst hx' (by decide) (by decide) rfl rfl ?_
      refine c_match C hn hx ?_
      exact nx _ _
theorem c_price {a pr : Addr} {ms : List (Int × Int)} {vs : List V} (hn : 2 ≤ n) (hx : FP H pr e) (ha : H a = some (.list vs)) (hv : Tups H vs ms) (hq : Q (.int (e * ms.length)) H) : WCall G n (.top "price_of") [.ref a, .ref pr] Q H := by
  obtain ⟨k, rfl, hk⟩ := pred_of hn
  refine WCall.go (C.at 11 rfl) fun Q0 hR hN => ?_
  have e0 : fr0 p_price_of_ln [.ref a, .ref pr] = [.ref a, .ref pr, .odd, .odd, .odd] := rfl
  rw [e0]
  unfold p_price_of
  refine wB_go fun Q1 n1 _ _ _ => ?_
  simp
  refine n1 _ _ (wB_go fun Q2 n2 _ _ _ => ?_)
  dsimp only [wS, wSrc]
  refine srcOf_list ha ?_
  have := l_price (K := Q2) C hk hx ha hv ms.length 0 .odd .odd (by exact Nat.add_comm _ _) fun v3 v4 => n2 _ _ (wB_go fun Q3 _ _ _ r3 => by simp; exact r3 _ _ _ (hR _ _ _ hq))
  simp only [Int.natCast_zero, Int.mul_zero] at this
  exact this
end
end Mine
end
-- part K33
section
open PySem PySem.Calls PyProof.Rows PySem.W
set_option maxHeartbeats 4000000
set_option maxRecDepth 100000
namespace Mine
@[local simp] theorem lkd_33 {α : Type} {x : α} : @lk α ⟨x⟩ = x := rfl
theorem WCall.up {G : Gd} {n : Nat} {f : FId} {args : List V} {Q : V → MH → Prop} {H : MH} (h : WCall G n f args Q H) : WCall G (n + 1) f args Q H :=
  fun P A s vs hA => h P A s vs ⟨hA.hh, by have := hA.hd; lia, by have := hA.hu; lia⟩
theorem nd_tev : p_Trail_every_ln.Nodup := by decide +kernel
section
variable {G : Gd} (C : Cx G) {n : Nat} {Q : V → MH → Prop} {H : MH} {tr a : Addr} {T : List Int} {w ch : Int} {c : Nat} {F : MH → Nat → Prop} {fp : List Addr}
omit C in
theorem l_tev {R : MH → Prop} {s acc : Addr} {v1 v2 : V} {kn : V} {ms : List (Int × Int)} {vs : List V} {H₀ : MH} (hz : vs.length ≤ 5000) (hs : H₀ s = some (.list vs)) (hv : Tups H₀ vs ms) (h2 : ∀ x ∈ ms, 2 ≤ x.1) (htr : H₀ tr = some (.inst 4 [(14, .ref a), (15, .int 2), (16, kn)])) (hac : H₀ acc = none) :
    ∀ (j i : Nat) (o : V) (H : MH), i + j = vs.length → H acc = some (.list (vs.take i)) → Fr H₀ H [] → (∀ H', H' acc = some (.list vs) → Fr H₀ H' [] → R H') →
      WComp G p_Trail_every_ln n p_Trail_every_ce0 3 p_Trail_every_cc1 (.lst s i) acc [.ref tr, v1, v2, o] R H := by
  have hbg : big = 16777216 := rfl
  have hvl := hv.length
  intro j
  induction j with
  | zero =>
    intro i o H hi hacc fr hR
    have hs' := fr.get (by simp) hs
    refine WComp.done nd_tev ?_ (hR H ?_ fr)
    · rw [next_lst hs', List.getElem?_eq_none (by lia)]; rfl
    · rw [List.take_of_length_le (by lia)] at hacc; exact hacc
  | succ j ih =>
    intro i o H hi hacc fr hR
    have hs' := fr.get (by simp) hs
    have hlt : i < ms.length := by lia
    obtain ⟨t, t1, t2⟩ := hv.at (List.getElem?_eq_getElem hlt)
    have t2' := fr.get (by simp) t2
    have htr' := fr.get (by simp) htr
    refine WComp.turn nd_tev (v := .ref t) (src' := .lst s (i + 1)) ?_ fun Q' hN => ?_
    · rw [next_lst hs', t1]; rfl
    have hge := h2 _ (List.getElem_mem hlt)
    simp [p_Trail_every_cc1, p_Trail_every_ce0]
    rw [s_tup0 t2']
    simp [htr', fget]
    refine ⟨fun _ => ?_, fun h => by exact mh_false (by lia)⟩
    have hacc' : H acc = some (.list (vs.take i)) := hacc
    simp only [hacc']
    refine ⟨by rw [List.length_take]; exact Nat.lt_of_le_of_lt (Nat.min_le_right _ _) (by lia), hN _ ?_⟩
    refine ih (i + 1) _ _ (by lia) ?_ (fr.turn (.inr hac)) hR
    rw [upd_same, take_one t1]
include C
theorem c_tevery {p kn m : Nat} (hn : 1 ≤ n) (f : FinOK G n c F a T w ch 2 fp) (hp : p ≤ T.length) (hk : kn ≤ p) (x : TS H tr F a kn fp)
    (hq : ∀ b ms vs H', TS H' tr F a p fp → Fr H H' (tr :: fp) → (∀ y, y ∉ tr :: fp → H y ≠ none → y ≠ b) → H' b = some (.list vs) → Tups H' vs ms → vs.length ≤ 4004 → Res T w p (min m (T.length - p)) 2 ms → Q (.ref b) H') : WCall G (n + 2) (.meth 4 32) [.ref tr, .int p, .int m] Q H := by
  refine WCall.go (C.at 5 rfl) fun Q0 hR hN => ?_
  have e : fr0 p_Trail_every_ln [.ref tr, .int p, .int m] = [.ref tr, .int p, .int m, .odd] := rfl
  rw [e]
  unfold p_Trail_every
  refine wB_go fun Q1 n1 _ _ _ => ?_
  simp
  refine m_inst x.h (by decide) (by decide) rfl rfl ?_
  refine c_upto C f hp hk x fun H1 x1 o1 => n1 _ _ (wB_go fun Q2 n2 _ _ r2 => ?_)
  obtain ⟨fs, mf⟩ := f.mf x1.f
  simp [x1.h, fget]
  refine m_inst mf.h mf.c7 (by decide) (mf.m 32 (by decide)) (c' := c) (by rcases mf.c with h | h | h <;> subst h <;> rfl) ?_
  refine WCall.up (f.every x1.f hp fun b ms vs H2 s2 hb hb' ht hv hr => ?_)
  refine srcOf_list hb' fun acc hac => ?_
  have x2 : TS H2 tr F a p fp := ⟨s2 _ _ x1.h, f.sub x1.f s2, x1.ne⟩
  refine l_tev (by exact easy (by assumption) rfl) hb' ht (fun y hy => (hr.ok y hy).1) x2.h hac vs.length 0 _ _ (by exact Nat.add_comm _ _) (upd_same _ _ _) (Fr.sub (Sub.fresh hac _)) fun H3 h3 f3 => r2 _ _ _ (hR _ _ _ ?_)
  have s3 := f3.sub0
  refine hq acc ms vs H3 ⟨s3 _ _ x2.h, f.sub x2.f s3, x2.ne⟩ (o1.trans (Fr.sub (s2.trans s3))) (fun y y1 y2 q => ?_) h3 (ht.keep fun t x h => s3 _ _ h) hv hr
  have e1 := o1 y y1 y2
  cases e2 : H y with
  | none => exact y2 e2
  | some o => rw [← q, s2 _ _ (e1.trans e2)] at hac; cases hac
end
end Mine
end
-- part K34
section
open PySem PySem.Calls PyProof.Rows PySem.W
set_option maxHeartbeats 4000000
set_option maxRecDepth 100000
namespace Mine
@[local simp] theorem lkd_34 {α : Type} {x : α} : @lk α ⟨x⟩ = x := rfl
noncomputable def costV (e : Int) : Option Nat → V
  | none => .none
  | some k => .int (e * k)
structure WS (H : MH) (wy : Addr) (e : Int) (sz : Nat) (D : Nat → Option Nat) (S : Nat → Int × Int) (cl sl : Addr) : Prop where
  h : H wy = some (.inst 5 [(1, .int sz), (17, .ref cl), (18, .ref sl)])
  c : ∃ cs, H cl = some (.list cs) ∧ cs.length = sz + 1 ∧ ∀ i, i ≤ sz → cs[i]? = some (costV e (D i))
  s : ∃ ss, H sl = some (.list ss) ∧ ss.length = sz + 1 ∧ ∀ i, i ≤ sz → i ≠ 0 → D i ≠ none → ∃ t, ss[i]? = some (.ref t) ∧ H t = some (.tup [.int (S i).1, .int (S i).2])
  ne : wy ≠ cl ∧ wy ≠ sl ∧ cl ≠ sl
theorem WS.keep {H H' : MH} {wy : Addr} {e : Int} {sz : Nat} {D : Nat → Option Nat} {S : Nat → Int × Int} {cl sl : Addr} (x : WS H wy e sz D S cl sl) (h1 : H' wy = H wy) (h2 : H' cl = H cl) (h3 : H' sl = H sl) (h4 : ∀ t y, H t = some (.tup y) → H' t = some (.tup y)) : WS H' wy e sz D S cl sl := by
  refine ⟨h1.trans x.h, ?_, ?_, x.ne⟩
  · obtain ⟨cs, c1, c2, c3⟩ := x.c; exact ⟨cs, h2.trans c1, c2, c3⟩
  · obtain ⟨ss, c1, c2, c3⟩ := x.s
    exact ⟨ss, h3.trans c1, c2, fun i i1 i2 i3 => let ⟨t, t1, t2⟩ := c3 i i1 i2 i3; ⟨t, t1, h4 _ _ t2⟩⟩
theorem WS.sub {H H' : MH} {wy : Addr} {e : Int} {sz : Nat} {D : Nat → Option Nat} {S : Nat → Int × Int} {cl sl : Addr} (x : WS H wy e sz D S cl sl) (s : Sub H H') : WS H' wy e sz D S cl sl := by
  obtain ⟨cs, c1, _⟩ := x.c
  obtain ⟨ss, s1, _⟩ := x.s
  exact x.keep ((s _ _ x.h).trans x.h.symm) ((s _ _ c1).trans c1.symm) ((s _ _ s1).trans s1.symm) fun t y h => s _ _ h
section
variable {G : Gd} (C : Cx G) {n : Nat} {Q : V → MH → Prop} {H : MH} {e : Int} {wy cl sl : Addr} {sz : Nat} {D : Nat → Option Nat} {S : Nat → Int × Int}
include C
theorem c_waysinit {x : Addr} (hn : 1 ≤ n) (hx : H x = some (.inst 5 [])) (hz : sz ≤ 4000)
    (hq : ∀ H' cl sl, WS H' x e sz (fun i => if i = 0 then some 0 else none) S cl sl → H cl = none → H sl = none → Fr H H' [x] → Q .none H') : WCall G n (.meth 5 24) [.ref x, .int sz] Q H := by
  obtain ⟨k, rfl, hk⟩ := pred_of hn
  have hbg : big = 16777216 := rfl
  refine WCall.go (C.at 7 rfl) fun Q0 hR hN => ?_
  have e0 : fr0 p_Ways_init_ln [.ref x, .int sz] = [.ref x, .int sz] := rfl
  rw [e0]
  unfold p_Ways_init
  refine wB_go fun Q1 n1 _ _ _ => ?_
  simp
  refine setA_to hx (by decide) (by decide) (by simp) (by simp) rfl fun H1 h1 o1 => n1 _ _ (wB_go fun Q2 n2 _ _ _ => ?_)
  simp
  refine ⟨by simp [hbg], fun a1 ha1 => ⟨by simp [hbg], fun a2 ha2 => ?_⟩⟩
  rw [b_rep (upd_same _ _ _)]
  refine ⟨by unfold short; lia, by simp; exact easy (by assumption) rfl, fun a3 ha3 => ?_⟩
  have s1 := Sub.fresh ha1 (.list [V.int 0])
  have s2 := Sub.fresh ha2 (.list [V.none])
  have s3 := Sub.fresh ha3 (.list (repL [V.none] (sz : Int).toNat))
  rw [b_lists ((s2.trans s3) _ _ (upd_same _ _ _)) (upd_same _ _ _)]
  refine ⟨by rw [repL_len]; simp; lia, fun cl hcl => ?_⟩
  have s4 := Sub.fresh hcl (.list ([V.int 0] ++ repL [V.none] (sz : Int).toNat))
  have sA := ((s1.trans s2).trans s3).trans s4
  have hxc : x ≠ cl := ne_of hcl (((s1.trans s2).trans s3) _ _ h1)
  refine setA_to (sA _ _ h1) (by decide) (by decide) (by simp [fput]) (by simp) rfl fun H5 h5 o5 => n2 _ _ (wB_go fun Q3 n3 _ _ _ => ?_)
  have hcl5 : H5 cl = some (.list ([V.int 0] ++ repL [V.none] (sz : Int).toNat)) := by rw [o5 cl hxc.symm, upd_same]
  simp
  refine ⟨by simp [hbg], fun a6 ha6 => ?_⟩
  rw [b_rep (upd_same _ _ _)]
  refine ⟨by unfold short; lia, by simp; exact Nat.lt_of_le_of_lt (by assumption) (by lia), fun sl hsl => ?_⟩
  have s6 := Sub.fresh ha6 (.list [V.none])
  have s7 := Sub.fresh hsl (.list (repL [V.none] ((sz : Int) + 1).toNat))
  have s67 := s6.trans s7
  have hxs : x ≠ sl := ne_of hsl (s6 _ _ h5)
  have hcs : cl ≠ sl := ne_of hsl (s6 _ _ hcl5)
  refine setA_to (s67 _ _ h5) (by decide) (by decide) (by simp [fput]) (by simp) rfl fun H8 h8 o8 => n3 _ _ ?_
  rw [wB_nil]
  have old : ∀ y, y ≠ x → H y ≠ none → H8 y = H y := fun y y1 y2 => by
    cases q : H y with
    | none => exact absurd q y2
    | some o =>
      have e1 : H1 y = some o := (o1 y y1).trans q
      have e2 := sA _ _ e1
      rw [← o5 y y1] at e2
      rw [o8 y y1]; exact s67 _ _ e2
  refine hN _ _ (hq H8 cl sl ⟨h8, ⟨[V.int 0] ++ repL [V.none] (sz : Int).toNat, ?_, ?_, fun i hi => ?_⟩, ⟨repL [V.none] ((sz : Int) + 1).toNat, ?_, ?_, fun i hi h0 hd => ?_⟩, hxc, hxs, hcs⟩ ?_ ?_ fun y hy => old y (by simpa using hy))
  · rw [o8 cl hxc.symm]; exact s67 _ _ hcl5
  · rw [List.length_append, repL_len]; simp; exact Nat.add_comm _ _
  · rw [repL_one]
    cases i with
    | zero => simp [costV]
    | succ i =>
      rw [List.getElem?_append_right (by simp), List.getElem?_replicate]
      simp [costV]; assumption
  · rw [o8 sl hxs.symm, upd_same]
  · rw [repL_len]; simp
  · simp [h0] at hd
  · cases q : H cl with
    | none => rfl
    | some o =>
      rw [((s1.trans s2).trans s3) _ _ ((o1 cl hxc.symm).trans q)] at hcl; cases hcl
  · cases q : H sl with
    | none => rfl
    | some o =>
      have e1 := sA _ _ ((o1 sl hxs.symm).trans q)
      rw [← o5 sl hxs.symm] at e1
      rw [s6 _ _ e1] at hsl; cases hsl

noncomputable def Offered (D D' : Nat → Option Nat) (S S' : Nat → Int × Int) (sz at_ z k : Nat) (x : Int × Int) : Prop :=
  (D' = D ∧ S' = S ∧ (at_ + z ≤ sz → ∃ k', D (at_ + z) = some k' ∧ k' ≤ k + 1)) ∨
  (at_ + z ≤ sz ∧ D' = (fun i => if i = at_ + z then some (k + 1) else D i) ∧ S' = (fun i => if i = at_ + z then x else S i) ∧ ∀ k', D (at_ + z) = some k' → k + 1 < k')
theorem c_offer {at_ k : Nat} {t : Addr} {x : Int × Int} (hn : 2 ≤ n) (he : 1 ≤ e) (ws : WS H wy e sz D S cl sl) (hz : sz ≤ 4000) (hat : at_ ≤ sz) (hD : D at_ = some k) (ht : H t = some (.tup [.int x.1, .int x.2])) (hx : 0 ≤ x.1)
    (hq : ∀ D' S' H', WS H' wy e sz D' S' cl sl → Offered D D' S S' sz at_ (sizeOf' x) k x → Fr H H' [cl, sl] → Q .none H') : WCall G n (.meth 5 38) [.ref wy, .int at_, .ref t, .int e] Q H := by
  obtain ⟨n, rfl, hk⟩ := pred_of hn
  have hbg : big = 16777216 := rfl
  refine WCall.go (C.at 8 rfl) fun Q0 hR hN => ?_
  have e0 : fr0 p_Ways_offer_ln [.ref wy, .int at_, .ref t, .int e] = [.ref wy, .int at_, .ref t, .int e, .odd, .odd] := rfl
  rw [e0]
  unfold p_Ways_offer
  refine wB_go fun Q1 n1 _ _ r1 => ?_
  simp
  refine c_step_size C hk ht ?_
  have e1 : (at_ : Int) + (if x.1 = 0 then 1 else x.1) = (at_ : Int) + (sizeOf' x : Int) := by
    unfold sizeOf'
    split <;> lia
  rw [b_add, e1]
  have hzp : 1 ≤ sizeOf' x := by
    unfold sizeOf'
    split <;> lia
  obtain ⟨z, ez⟩ : ∃ z, z = sizeOf' x := ⟨_, rfl⟩
  rw [← ez] at hzp hq ⊢
  rw [wT_v]
  refine n1 _ _ (wB_go fun Q2 n2 _ _ r2 => ?_)
  simp [-xB_cons, -xB_nil, ws.h, fget]
  refine ⟨fun hgt => ?_, fun hle => ?_⟩
  · refine wB_go fun Q3 n3 _ _ r3 => ?_
    simp
    exact r3 _ _ _ (r2 _ _ _ (hR _ _ _ (hq D S H ws (.inl ⟨rfl, rfl, fun h => by exact absurd (by assumption) (by lia)⟩) (Fr.refl _ _))))
  · rw [wB_nil]
    have hle' : at_ + z ≤ sz := by exact Int.ofNat_le.mp (by assumption)
    obtain ⟨cs, c1, c2, c3⟩ := ws.c
    obtain ⟨ss, s1, s2, s3⟩ := ws.s
    have cat : cs[at_]? = some (.int (e * k)) := by rw [c3 at_ hat, hD]; rfl
    refine n2 _ _ (wB_go fun Q3 n3 _ _ r3 => ?_)
    simp [-xB_cons, -xB_nil, ws.h, fget]
    refine sub_at c1 cat (by lia) ?_
    rw [b_add, wT_v]
    refine n3 _ _ (wB_go fun Q4 n4 _ _ r4 => ?_)
    have cth := c3 (at_ + z) hle'
    -- the store
    have store : (∀ k', D (at_ + z) = some k' → k + 1 < k') → wB G p_Ways_offer_ln n (.cons (.ssub (.attr (.loc 0) 17) (.loc 4) (.loc 5)) (.cons (.ssub (.attr (.loc 0) 18) (.loc 4) (.loc 2)) .nil)) [.ref wy, .int at_, .ref t, .int e, .int ((at_ : Int) + (z : Int)), .int (e * k + e)] Q4 H := by
      intro hb
      obtain ⟨ne1, ne2, ne3⟩ := ws.ne
      refine wB_go fun Q5 n5 _ _ _ => ?_
      simp [ws.h, fget]
      refine set_k (at_ + z) (by exact rfl) c1 (by exact Nat.lt_of_le_of_lt (by assumption) (by lia)) (by lia) (n5 _ _ (wB_go fun Q6 n6 _ _ _ => ?_))
      have hw1 := (upd_ne H (.list (cs.set (at_ + z) (.int (e * k + e)))) ne1).trans ws.h
      have hs1 := (upd_ne H (.list (cs.set (at_ + z) (.int (e * k + e)))) ne3.symm).trans s1
      simp [hw1, fget]
      refine set_k (at_ + z) (by exact rfl) hs1 (by exact Nat.lt_of_le_of_lt (by assumption) (by lia)) (by lia) (n6 _ _ ?_)
      rw [wB_nil]
      refine n4 _ _ ?_
      rw [wB_nil]
      refine hN _ _ (hq (fun i => if i = at_ + z then some (k + 1) else D i) (fun i => if i = at_ + z then x else S i) _ ⟨?_, ⟨cs.set (at_ + z) (.int (e * k + e)), ?_, ?_, fun i hi => ?_⟩, ⟨ss.set (at_ + z) (.ref t), upd_same _ _ _, ?_, fun i hi h0 hd => ?_⟩, ws.ne⟩ (.inr ⟨hle', rfl, rfl, hb⟩) ?_)
      · rw [upd_ne _ _ ne2]; exact hw1
      · rw [upd_ne _ _ ne3, upd_same]
      · simp [c2]
      · rw [List.getElem?_set]
        by_cases hi' : at_ + z = i
        · subst hi'
          simp [costV, c2]
          refine ⟨by exact Nat.succ_le_succ (by assumption), ?_⟩
          rw [Int.mul_add]; simp
        · rw [if_neg hi', if_neg (fun q => hi' q.symm)]; exact c3 i hi
      · simp [s2]
      · have hne : ∀ t' y, H t' = some (.tup y) → (upd (upd H cl (.list (cs.set (at_ + z) (.int (e * k + e))))) sl (.list (ss.set (at_ + z) (.ref t)))) t' = some (.tup y) := fun t' y h => by
          rw [upd_ne _ _ (ne_os h s1 (by simp)), upd_ne _ _ (ne_os h c1 (by simp))]; exact h
        rw [List.getElem?_set]
        by_cases hi' : at_ + z = i
        · subst hi'
          rw [if_pos rfl, if_pos (by exact Nat.lt_of_le_of_lt (by assumption) (by lia))]
          exact ⟨t, rfl, by simp only [if_true]; exact hne _ _ ht⟩
        · rw [if_neg hi']
          rw [if_neg (fun q => hi' q.symm)] at hd
          obtain ⟨t', t1, t2⟩ := s3 i hi h0 hd
          exact ⟨t', t1, by simp only [if_neg (fun q => hi' q.symm : ¬ i = at_ + z)]; exact hne _ _ t2⟩
      · exact ((Fr.refl H _).turn (.inl (by simp))).turn (.inl (by simp))
    simp [-xB_cons, -xB_nil, ws.h, fget]
    refine sub_k (at_ + z) (by exact rfl) c1 cth (by lia) ?_
    cases hDt : D (at_ + z) with
    | none =>
      simp only [costV]
      rw [c_isN]
      refine ⟨by simp, fun _ => ?_, fun h => absurd rfl h⟩
      exact store fun k' h => by rw [hDt] at h; cases h
    | some k' =>
      simp only [costV]
      rw [c_isI]
      refine ⟨by simp, fun h => by simp at h, fun _ => ?_⟩
      simp [-xB_cons, -xB_nil, ws.h, fget]
      have cth' : cs[at_ + z]? = some (.int (e * k')) := by rw [cth, hDt]; rfl
      refine sub_k (at_ + z) (by exact rfl) c1 cth' (by lia) ?_
      rw [c_lt]
      have hlt : e * (k : Int) + e < e * k' ↔ k + 1 < k' := by
        rw [show e * (k : Int) + e = e * ((k + 1 : Nat) : Int) by rw [Int.natCast_add, Int.mul_add]; simp]
        rw [Int.mul_lt_mul_left (by assumption)]
        lia
      refine ⟨fun h => store fun k'' h' => ?_, fun h => ?_⟩
      · rw [hDt] at h'; cases h'; exact hlt.mp h
      · rw [wB_nil]
        refine n4 _ _ ?_
        rw [wB_nil]
        refine hN _ _ (hq D S H ws (.inl ⟨rfl, rfl, fun _ => ⟨k', hDt, ?_⟩⟩) (Fr.refl _ _))
        rcases Nat.lt_or_ge (k + 1) k' with h' | h'
        · exact absurd (hlt.mpr h') h
        · exact h'
end
end Mine
end
-- part L5
section
set_option maxHeartbeats 4000000
namespace Mine
variable {T : List Int} {w : Int} {m s0 : Nat}
structure DS (T : List Int) (w : Int) (m s0 at_ : Nat) (D : Nat → Option Nat) (S : Nat → Int × Int) : Prop where
  z : D 0 = some 0
  b : ∀ x k, D x = some k → x ≠ 0 → ∃ y k', y ≤ at_ ∧ x = y + sizeOf' (S x) ∧ y < x ∧ D y = some k' ∧ k = k' + 1 ∧ Step T w m (s0 + y) (S x)
  c : ∀ y r, y < at_ → Reach T w m (s0 + y) r → ∀ z, 1 ≤ z → z ≤ r → ∃ k k', D y = some k ∧ D (y + z) = some k' ∧ k' ≤ k + 1
noncomputable def Cov (D : Nat → Option Nat) (at_ k : Nat) (Z : Nat → Prop) : Prop := ∀ z, Z z → ∃ k', D (at_ + z) = some k' ∧ k' ≤ k + 1
theorem DS.put {at_ k z : Nat} {x : Int × Int} {D : Nat → Option Nat} {S : Nat → Int × Int} (d : DS T w m s0 at_ D S) (hk : D at_ = some k) (hz : z = sizeOf' x) (hx : Step T w m (s0 + at_) x) (hb : ∀ k', D (at_ + z) = some k' → k + 1 < k') :
    DS T w m s0 at_ (fun i => if i = at_ + z then some (k + 1) else D i) (fun i => if i = at_ + z then x else S i) := by
  have h1 := hx.size
  have hlow : ∀ y, y ≤ at_ → (fun i => if i = at_ + z then some (k + 1) else D i) y = D y := fun y hy => if_neg (by lia)
  refine ⟨(hlow 0 (Nat.zero_le _)).trans d.z, fun x' k' h h0 => ?_, fun y r hy hr z' z1 z2 => ?_⟩
  · by_cases e : x' = at_ + z
    · subst e
      simp only [if_true] at h ⊢
      cases h
      exact ⟨at_, k, Nat.le_refl _, by lia, by lia, (hlow at_ (Nat.le_refl _)).trans hk, rfl, hx⟩
    · simp only [if_neg e] at h ⊢
      obtain ⟨y, k'', h2, h3, h4, h5, h6, h7⟩ := d.b x' k' h h0
      exact ⟨y, k'', h2, h3, h4, (hlow y h2).trans h5, h6, h7⟩
  · obtain ⟨a, a', h2, h3, h4⟩ := d.c y r hy hr z' z1 z2
    refine ⟨a, ?_⟩
    by_cases e : y + z' = at_ + z
    · refine ⟨k + 1, (hlow y (by exact Nat.le_of_lt (by assumption))).trans h2, if_pos e, ?_⟩
      have := hb a' (by rw [← e]; exact h3)
      lia
    · exact ⟨a', (hlow y (by exact Nat.le_of_lt (by assumption))).trans h2, (if_neg e).trans h3, h4⟩
theorem Cov.put {at_ k z : Nat} {Z : Nat → Prop} {D : Nat → Option Nat} (d : Cov D at_ k Z) (hb : ∀ k', D (at_ + z) = some k' → k + 1 < k') :
    Cov (fun i => if i = at_ + z then some (k + 1) else D i) at_ k (fun y => Z y ∨ y = z) := fun y y1 => by
  by_cases e : at_ + y = at_ + z
  · exact ⟨k + 1, if_pos e, Nat.le_refl _⟩
  · obtain ⟨k', h1, h2⟩ := d y (y1.resolve_right (by lia))
    exact ⟨k', (if_neg e).trans h1, h2⟩
theorem DS.next {at_ k r : Nat} {Z : Nat → Prop} {D : Nat → Option Nat} {S : Nat → Int × Int} (d : DS T w m s0 at_ D S) (hk : D at_ = some k) (hc : Cov D at_ k Z) (hr : Reach T w m (s0 + at_) r) (hj : ∀ z, 1 ≤ z → z ≤ r → Z z) : DS T w m s0 (at_ + 1) D S := by
  refine ⟨d.z, fun x k h h0 => ?_, fun y r' hy hr' z z1 z2 => ?_⟩
  · obtain ⟨y, k', h1, h2⟩ := d.b x k h h0
    exact ⟨y, k', by exact Nat.le_succ_of_le (by assumption), h2⟩
  · rcases Nat.lt_or_ge y at_ with h | h
    · exact d.c y r' h hr' z z1 z2
    · have : y = at_ := by lia
      subst this
      have := hr.uniq hr'
      subst this
      obtain ⟨k', h1, h2⟩ := hc z (hj z z1 z2)
      exact ⟨k, k', hk, h1, h2⟩
theorem DS.init {S : Nat → Int × Int} : DS T w m s0 0 (fun i => if i = 0 then some 0 else none) S := by
  refine ⟨rfl, fun x k h h0 => ?_, fun y r hy => by lia⟩
  rw [if_neg h0] at h; cases h
theorem DS.has {at_ : Nat} {D : Nat → Option Nat} {S : Nat → Int × Int} (d : DS T w m s0 at_ D S) (hex : ∀ p, p < T.length → ∃ r, Reach T w m p r) (h : s0 + at_ ≤ T.length) : ∀ y, y ≤ at_ → ∃ k, D y = some k := by
  intro y hy
  cases y with
  | zero => exact ⟨0, d.z⟩
  | succ y =>
    obtain ⟨r, hr⟩ := hex (s0 + y) (by lia)
    obtain ⟨k, k', h1, h2, h3⟩ := d.c y r (by assumption) hr 1 (Nat.le_refl _) hr.one
    exact ⟨k', h2⟩
theorem DS.upper {at_ : Nat} {D : Nat → Option Nat} {S : Nat → Int × Int} (d : DS T w m s0 at_ D S) (h : s0 + at_ = T.length) : ∀ {k q : Nat}, Pos T w m s0 k q → ∃ k', D (q - s0) = some k' ∧ k' ≤ k := by
  intro k q x
  induction x with
  | zero => exact ⟨0, by rw [Nat.sub_self]; exact d.z, Nat.le_refl _⟩
  | @succ k p r x hp hr ih =>
    obtain ⟨k', h1, h2⟩ := ih
    have hle := x.le (by lia)
    rw [show p = s0 + (p - s0) by lia] at hr
    obtain ⟨a, a', h3, h4, h5⟩ := d.c (p - s0) r (by exact Nat.sub_lt_left_of_lt_add (by lia) (by lia)) hr r hr.one (Nat.le_refl _)
    rw [h1] at h3; cases h3
    exact ⟨a', by rw [show p + r - s0 = p - s0 + r by lia]; exact h4, by exact Nat.le_trans (by assumption) (by lia)⟩
theorem Step.reach {p r : Nat} {x : Int × Int} (h : Step T w m p x) (hr : Reach T w m p r) : sizeOf' x ≤ r := by
  have hs := h.size
  have h1 := hr.one
  rcases h with ⟨a1, _⟩ | ⟨a1, a2, a3, a4, a5, a6, a7⟩
  · unfold sizeOf'; rw [if_pos a1]; exact h1
  · have e : sizeOf' x = x.1.toNat := by unfold sizeOf'; rw [if_neg (by lia)]
    rw [e]
    exact hr.max (p - x.2.toNat) x.1.toNat (by exact Nat.sub_lt (by lia) (by lia)) (by lia) (by lia) (by exact Nat.le_sub_of_add_le (by lia)) a7
theorem Pos.before {k p : Nat} (x : Pos T w m s0 k p) : ∀ j, j ≤ k → ∃ q, Pos T w m s0 j q := by
  induction x with
  | zero => intro j hj; have : j = 0 := by lia
            subst this; exact ⟨_, .zero⟩
  | @succ k p r x hp hr ih =>
    intro j hj
    rcases Nat.lt_or_ge k j with h | h
    · have : j = k + 1 := by exact Nat.le_antisymm (by assumption) (by assumption)
      subst this; exact ⟨_, .succ x hp hr⟩
    · exact ih j h
theorem PL.behind {ms : List (Int × Int)} {p k : Nat} (hex : ∀ p, p < T.length → ∃ r, Reach T w m p r) (g : PL T w m s0 ms p) (x : Pos T w m s0 k T.length) (h : ms.length ≤ k) : ∃ q, Pos T w m s0 ms.length q ∧ p ≤ q := by
  induction g with
  | nil => exact ⟨s0, .zero, Nat.le_refl _⟩
  | @snoc ms p y g hy ih =>
    rw [List.length_append] at h ⊢
    have h' : ms.length + 1 ≤ k := h
    obtain ⟨q, hq1, hq2⟩ := ih (by exact Nat.le_of_lt (by assumption))
    obtain ⟨q', hq'⟩ := x.before (ms.length + 1) h'
    refine ⟨q', hq', ?_⟩
    cases hq' with
    | @succ _ q2 r hq3 hq4 hq5 =>
      have := hq1.uniq hq3
      subst this
      have hys := hy.size
      obtain ⟨r', hr'⟩ := hex p (by exact Nat.lt_of_le_of_lt (by assumption) (by assumption))
      have h1 := hy.reach hr'
      have h2 := reach_le hex hq4 hq2 hr' hq5
      lia
theorem PL.least {ms : List (Int × Int)} {k : Nat} (hex : ∀ p, p < T.length → ∃ r, Reach T w m p r) (g : PL T w m s0 ms T.length) (hs : s0 ≤ T.length) (x : Pos T w m s0 k T.length) : k ≤ ms.length := by
  rcases Nat.lt_or_ge ms.length k with h | h
  · obtain ⟨q, h1, h2⟩ := g.behind hex x (by exact Nat.le_of_lt (by assumption))
    have := (h1.le hs).2
    have : q = T.length := by exact Nat.le_antisymm (by assumption) (by assumption)
    subst this
    exact h1.end_ x
  · exact h
end Mine
end
-- part K35
section
open PySem PySem.Calls PyProof.Rows PySem.W
set_option maxHeartbeats 4000000
set_option maxRecDepth 100000
namespace Mine
theorem nd_told : p_Ways_told_ln.Nodup := by decide +kernel
theorem Tups.rev {H : MH} : ∀ {vs : List V} {ms : List (Int × Int)}, Tups H vs ms → Tups H vs.reverse ms.reverse
  | [], [], _ => trivial
  | .ref t :: vs, m :: ms, h => by
    rw [List.reverse_cons, List.reverse_cons]
    exact Tups.snoc h.1 (Tups.rev h.2)
  | [], _ :: _, h => h.elim
  | .ref _ :: _, [], h => h.elim
  | .none :: _, _, h => by cases h
  | .bool _ :: _, _, h => by cases h
  | .int _ :: _, _, h => by cases h
  | .str _ :: _, _, h => by cases h
  | .bytes _ :: _, _, h => by cases h
  | .odd :: _, _, h => by cases h
section
variable {G : Gd} (C : Cx G) {n : Nat} {Q : V → MH → Prop} {e : Int} {wy cl sl : Addr} {sz at0 : Nat} {D : Nat → Option Nat} {S : Nat → Int × Int} {T : List Int} {w : Int} {m s0 : Nat}
include C
theorem l_told {K : Fl → List V → MH → Prop} {fd : Addr} {H₀ : MH} {kk : Nat} (hn : 1 ≤ n) (ws : WS H₀ wy e sz D S cl sl) (d : DS T w m s0 at0 D S) (hz : sz ≤ 4000) (hfd : H₀ fd = none) :
    ∀ (j at_ : Nat) (k : Nat) (vs : List V) (tl : List (Int × Int)) (H : MH), at_ ≤ j → at_ ≤ sz → D at_ = some k → k + tl.length = kk → (∀ ms', PL T w m s0 ms' (s0 + at_) → PL T w m s0 (ms' ++ tl) (s0 + sz)) → at_ + tl.length ≤ sz →
      H fd = some (.list vs) → Tups H vs tl.reverse → Fr H₀ H [] →
      (∀ vs' tl' H', tl'.length = kk → PL T w m s0 tl' (s0 + sz) → H' fd = some (.list vs') → Tups H' vs' tl'.reverse → tl'.length ≤ 4000 → Fr H₀ H' [] → K .next [.ref wy, .ref fd, .int 0] H') →
      WWhile G p_Ways_told_ln n p_Ways_told_wt0 p_Ways_told_wb1 [.ref wy, .ref fd, .int at_] K H := by
  have hbg : big = 16777216 := rfl
  intro j
  induction j with
  | zero =>
    intro at_ k vs tl H hj hat hD hk hpl hlen hf ht fr hK
    have h0 : at_ = 0 := by lia
    subst h0
    refine WWhile.turn nd_told fun Q' _ _ _ _ => ?_
    simp [p_Ways_told_wt0]
    rw [d.z] at hD; cases hD
    have := hpl [] .nil
    exact hK vs tl H (by lia) this hf ht (by lia) fr
  | succ j ih =>
    intro at_ k vs tl H hj hat hD hk hpl hlen hf ht fr hK
    by_cases h0 : at_ = 0
    · subst h0
      exact ih 0 k vs tl H (by exact Nat.zero_le _) hat hD hk hpl hlen hf ht fr hK
    · obtain ⟨y, k', y1, y2, y3, y4, y5, y6⟩ := d.b at_ k hD h0
      have ws' := ws.sub fr.sub0
      obtain ⟨ss, s1, s2, s3⟩ := ws'.s
      obtain ⟨t, t1, t2⟩ := s3 at_ hat h0 (by rw [hD]; simp)
      have hvl := ht.length
      rw [List.length_reverse] at hvl
      refine WWhile.turn nd_told fun Q' hN _ _ _ => ?_
      simp [-xB_cons, -xB_nil, p_Ways_told_wt0]
      refine ⟨fun _ => ?_, fun h => absurd h h0⟩
      unfold p_Ways_told_wb1
      refine wB_go fun Q1 n1 _ _ _ => ?_
      simp
      refine m_app hf ?_
      simp [ws'.h, fget]
      refine sub_at s1 t1 (by lia) ?_
      refine app_to hf (by lia) (by simp) (n1 _ _ (wB_go fun Q2 n2 _ _ _ => ?_))
      have hfw : wy ≠ fd := ne_of hfd ws.h
      have hfs : sl ≠ fd := let ⟨_, q, _⟩ := ws.s; ne_of hfd q
      have htf : t ≠ fd := ne_os t2 hf (by simp)
      have hw1 := (upd_ne H (.list (vs ++ [.ref t])) hfw).trans ws'.h
      have hs1 := (upd_ne H (.list (vs ++ [.ref t])) hfs).trans s1
      have ht1 := (upd_ne H (.list (vs ++ [.ref t])) htf).trans t2
      simp [hw1, fget]
      refine sub_at hs1 t1 (by lia) ?_
      refine c_step_size C hn ht1 ?_
      have hy6 := y6.size
      have e1 : (at_ : Int) - (if (S at_).1 = 0 then 1 else (S at_).1) = ((y : Nat) : Int) := by
        have h01 : (S at_).1 = 0 ∨ 2 ≤ (S at_).1 := y6.elim (fun h => .inl h.1) (fun h => .inr h.1)
        have h3 := hy6.2.2
        split <;> lia
      simp
      rw [e1]
      refine n2 _ _ ?_
      rw [wB_nil]
      refine hN _ _ ?_
      refine ih y k' (vs ++ [.ref t]) (S at_ :: tl) _ (by lia) (by exact Nat.le_of_lt (Nat.lt_of_lt_of_le (by assumption) (by assumption))) y4 (by simp; lia) (fun ms' g => ?_) (by simp; lia) (upd_same _ _ _) ?_ (fr.turn (.inr hfd)) hK
      · have e2 : s0 + at_ = s0 + y + sizeOf' (S at_) := by lia
        have g' := hpl (ms' ++ [S at_]) (by rw [e2]; exact .snoc g y6)
        rw [List.append_assoc] at g'
        exact g'
      · rw [List.reverse_cons]
        exact tups_upd (fun x h => by rw [hf] at h; cases h) (Tups.snoc t2 ht)
theorem c_told {kk : Nat} (hn : 2 ≤ n) {H : MH} (ws : WS H wy e sz D S cl sl) (d : DS T w m s0 at0 D S) (hz : sz ≤ 4000) (hD : D sz = some kk)
    (hq : ∀ b ms vs H', H' b = some (.list vs) → Tups H' vs ms → ms.length = kk → PL T w m s0 ms (s0 + sz) → Fr H H' [] → Q (.ref b) H') : WCall G n (.meth 5 39) [.ref wy] Q H := by
  obtain ⟨n, rfl, hk⟩ := pred_of hn
  have hbg : big = 16777216 := rfl
  refine WCall.go (C.at 9 rfl) fun Q0 hR hN => ?_
  have e0 : fr0 p_Ways_told_ln [.ref wy] = [.ref wy, .odd, .odd] := rfl
  rw [e0]
  unfold p_Ways_told
  refine wB_go fun Q1 n1 _ _ _ => ?_
  simp
  intro fd hfd
  have s1 := Sub.fresh hfd (.list [])
  have hw1 := s1 _ _ ws.h
  simp [hw1, fget]
  refine ⟨by simp [hbg], n1 _ _ (wB_go fun Q2 n2 _ _ _ => ?_)⟩
  dsimp only [wS]
  refine l_told C (H₀ := H) (kk := kk) hk ws d hz hfd sz sz kk [] [] _ (Nat.le_refl _) (Nat.le_refl _) hD (by simp) (fun ms' g => by rw [List.append_nil]; exact g) (by simp) (upd_same _ _ _) trivial (Fr.sub s1) fun vs' tl' H' h1 h2 h3 h4 h5 h6 => n2 _ _ (wB_go fun Q3 _ _ _ r3 => ?_)
  have hvl := h4.length
  rw [List.length_reverse] at hvl
  simp [wRev, h3]
  refine ⟨by lia, fun a ha => r3 _ _ _ (hR _ _ _ (hq a tl' vs'.reverse _ (upd_same _ _ _) ?_ h1 h2 (h6.trans (Fr.sub (Sub.fresh ha _)))))⟩
  have := h4.rev
  rw [List.reverse_reverse] at this
  exact this.keep fun t x h => (upd_old ha h)
end
end Mine
end
-- part K36
section
open PySem PySem.Calls PyProof.Rows PySem.W
set_option maxHeartbeats 4000000
set_option maxRecDepth 100000
namespace Mine
theorem nd_least : p_least_ln.Nodup := by decide +kernel
structure LC (H₀ : MH) (tr : Addr) (fp : List Addr) (wy cl sl pr : Addr) : Prop where
  n : H₀ tr = none ∧ H₀ cl = none ∧ H₀ sl = none
  w : wy ∉ tr :: fp
  c : cl ∉ tr :: fp
  s : sl ∉ tr :: fp
  p : pr ∉ tr :: fp
structure LI (H₀ H : MH) (tr : Addr) (F : MH → Nat → Prop) (a : Addr) (kn : Nat) (fp : List Addr) (wy : Addr) (e : Int) (sz : Nat) (D : Nat → Option Nat) (S : Nat → Int × Int) (cl sl pr : Addr) : Prop where
  ts : TS H tr F a kn fp
  ws : WS H wy e sz D S cl sl
  pr : FP H pr e
  fr : Fr H₀ H fp
section
variable {G : Gd} {n : Nat} {H₀ H : MH} {tr a : Addr} {T : List Int} {w ch : Int} {c : Nat} {F : MH → Nat → Prop} {fp : List Addr} {wy cl sl pr : Addr} {e : Int} {sz kn : Nat} {D : Nat → Option Nat} {S : Nat → Int × Int}
theorem nott (f : FinOK G n c F a T w ch 2 fp) (x : TS H tr F a kn fp) {t : Addr} {y : List V} (ht : H t = some (.tup y)) : t ∉ tr :: fp := fun hm => by
  rcases List.mem_cons.mp hm with h | h
  · rw [h, x.h] at ht; cases ht
  · obtain ⟨o, h1, h2⟩ := f.here x.f t h
    rw [h1] at ht
    exact h2 y (Option.some.inj ht)
theorem LI.every (f : FinOK G n c F a T w ch 2 fp) (lc : LC H₀ tr fp wy cl sl pr) (x : LI H₀ H tr F a kn fp wy e sz D S cl sl pr) {H1 : MH} {p : Nat} (t : TS H1 tr F a p fp) (o : Fr H H1 (tr :: fp)) : LI H₀ H1 tr F a p fp wy e sz D S cl sl pr := by
  obtain ⟨cs, c1, _⟩ := x.ws.c
  obtain ⟨ss, s1, _⟩ := x.ws.s
  refine ⟨t, x.ws.keep ?_ ?_ ?_ fun t y ht => o.get (nott f x.ts ht) ht, o.get lc.p x.pr, fun y h1 h2 => ?_⟩
  · exact (o.get lc.w x.ws.h).trans x.ws.h.symm
  · exact (o.get lc.c c1).trans c1.symm
  · exact (o.get lc.s s1).trans s1.symm
  · have hy : y ≠ tr := fun q => h2 (by rw [q]; exact lc.n.1)
    rw [o y (by simp only [List.mem_cons, not_or]; exact ⟨hy, h1⟩) (by rw [x.fr y h1 h2]; exact h2), x.fr y h1 h2]
theorem LI.sub (f : FinOK G n c F a T w ch 2 fp) (x : LI H₀ H tr F a kn fp wy e sz D S cl sl pr) {H1 : MH} (s : Sub H H1) : LI H₀ H1 tr F a kn fp wy e sz D S cl sl pr :=
  ⟨⟨s _ _ x.ts.h, f.sub x.ts.f s, x.ts.ne⟩, x.ws.sub s, s _ _ x.pr, x.fr.trans (Fr.sub s)⟩
theorem LI.offer (f : FinOK G n c F a T w ch 2 fp) (lc : LC H₀ tr fp wy cl sl pr) (x : LI H₀ H tr F a kn fp wy e sz D S cl sl pr) {H1 : MH} {D' : Nat → Option Nat} {S' : Nat → Int × Int} (o : Fr H H1 [cl, sl]) (ws : WS H1 wy e sz D' S' cl sl) : LI H₀ H1 tr F a kn fp wy e sz D' S' cl sl pr := by
  obtain ⟨cs, c1, _⟩ := x.ws.c
  obtain ⟨ss, s1, _⟩ := x.ws.s
  have ho : ∀ y oo, H y = some oo → (∀ xs, oo ≠ .list xs) → H1 y = some oo := fun y oo hy hl => o.get (by
    simp only [List.mem_cons, List.not_mem_nil, or_false, not_or]
    exact ⟨ne_os hy c1 (hl _), ne_os hy s1 (hl _)⟩) hy
  have hc := lc.c
  have hs := lc.s
  simp only [List.mem_cons, not_or] at hc hs
  refine ⟨⟨ho _ _ x.ts.h nofun, f.keep x.ts.f fun b hb => ?_, x.ts.ne⟩, ws, ho _ _ x.pr nofun, fun y h1 h2 => ?_⟩
  · obtain ⟨oo, h1, _⟩ := f.here x.ts.f b hb
    exact o b (by
      simp only [List.mem_cons, List.not_mem_nil, or_false, not_or]
      exact ⟨fun q => hc.2 (q ▸ hb), fun q => hs.2 (q ▸ hb)⟩) (by rw [h1]; simp)
  · have e1 : y ≠ cl := fun q => h2 (by rw [q]; exact lc.n.2.1)
    have e2 : y ≠ sl := fun q => h2 (by rw [q]; exact lc.n.2.2)
    rw [o y (by simp [e1, e2]) (by rw [x.fr y h1 h2]; exact h2), x.fr y h1 h2]
end
section
variable {G : Gd} (C : Cx G) {n : Nat} {H₀ : MH} {tr a : Addr} {T : List Int} {w ch : Int} {c : Nat} {F : MH → Nat → Prop} {fp : List Addr} {wy cl sl pr : Addr} {e : Int} {sz kn m s0 at_ k : Nat}
include C
theorem c_put {f : FinOK G n c F a T w ch 2 fp} {n' : Nat} {Q : V → MH → Prop} {H : MH} {D : Nat → Option Nat} {S : Nat → Int × Int} {t : Addr} {x : Int × Int} {Z : Nat → Prop} (lc : LC H₀ tr fp wy cl sl pr) (hn : 2 ≤ n') (he : 1 ≤ e) (hz : sz ≤ 4000) (hsz : s0 + sz = T.length) (li : LI H₀ H tr F a kn fp wy e sz D S cl sl pr) (d : DS T w m s0 at_ D S) (hD : D at_ = some k) (hcov : Cov D at_ k Z)
    (ht : H t = some (.tup [.int x.1, .int x.2])) (hx : Step T w m (s0 + at_) x)
    (hq : ∀ D' S' H', LI H₀ H' tr F a kn fp wy e sz D' S' cl sl pr → DS T w m s0 at_ D' S' → D' at_ = some k → Cov D' at_ k (fun y => Z y ∨ y = sizeOf' x) → Fr H H' [cl, sl] → Q .none H') : WCall G n' (.meth 5 38) [.ref wy, .int at_, .ref t, .int e] Q H := by
  have hxs := hx.size
  refine c_offer C hn he li.ws hz (by lia) hD ht (by rcases hx with h | h <;> lia) fun D' S' H' ws' o fr' => ?_
  have li' := li.offer f lc fr' ws'
  rcases o with ⟨rfl, rfl, h⟩ | ⟨h1, rfl, rfl, h2⟩
  · refine hq D' S' H' li' d hD (fun y hy => ?_) fr'
    rcases hy with hy | rfl
    · exact hcov y hy
    · exact h (by lia)
  · exact hq _ _ H' li' (d.put hD rfl hx h2) ((if_neg (by lia)).trans hD) (hcov.put h2) fr'

theorem l_parts {K : Fl → List V → MH → Prop} {f : FinOK G n c F a T w ch 2 fp} {n' : Nat} {v2 v5 v9 v10 v11 : V} {l dd : Nat} (lc : LC H₀ tr fp wy cl sl pr) (hn : 2 ≤ n') (he : 1 ≤ e) (hz : sz ≤ 4000) (hsz : s0 + sz = T.length)
    (hl : l ≤ m) (h1 : 1 ≤ dd) (h2 : dd ≤ s0 + at_) (h3 : (dd : Int) ≤ w) (h4 : s0 + at_ + l ≤ T.length) (h5 : agree T (s0 + at_) (s0 + at_ - dd) l) :
    ∀ (k' q : Nat) (o14 : V) (D : Nat → Option Nat) (S : Nat → Int × Int) (Z : Nat → Prop) (H : MH), q + k' = l + 1 → 2 ≤ q → LI H₀ H tr F a kn fp wy e sz D S cl sl pr → DS T w m s0 at_ D S → D at_ = some k → Cov D at_ k Z →
      (∀ v14 D' S' H', LI H₀ H' tr F a kn fp wy e sz D' S' cl sl pr → DS T w m s0 at_ D' S' → D' at_ = some k → Cov D' at_ k (fun z => Z z ∨ (q ≤ z ∧ z ≤ l)) → Fr H H' [cl, sl] → K .next [.bytes T, .int s0, v2, .int m, .ref pr, v5, .ref tr, .ref wy, .int at_, v9, v10, v11, .int l, .int dd, v14] H') →
      WFor G p_least_ln n' (.v 14) p_least_fb1 (.rng q k' 1) [.bytes T, .int s0, v2, .int m, .ref pr, v5, .ref tr, .ref wy, .int at_, v9, v10, v11, .int l, .int dd, o14] K H := by
  have hbg : big = 16777216 := rfl
  intro k'
  induction k' with
  | zero =>
    intro q o14 D S Z H hq hq2 li d hD hcov hK
    exact WFor.done nd_least rfl (hK _ D S H li d hD (fun z hz => hcov z (hz.resolve_right (by lia))) (Fr.refl _ _))
  | succ k' ih =>
    intro q o14 D S Z H hq hq2 li d hD hcov hK
    refine WFor.turn nd_least (v := .int q) (src' := .rng ((q : Int) + 1) k' 1) rfl fun Q' hN _ _ _ => ?_
    rw [wT_v]
    simp [p_least_fb1]
    refine m_inst li.ws.h (by decide) (by decide) rfl rfl ?_
    refine ⟨by simp [hbg], fun t ht => ?_⟩
    have s1 := Sub.fresh ht (.tup [V.int q, V.int dd])
    have li1 := li.sub f s1
    have hpr := li1.pr
    unfold FP at hpr
    refine m_inst hpr (by decide) (by decide) rfl rfl ?_
    simp
    refine c_match C (by exact Nat.le_of_lt (by assumption)) li1.pr ?_
    refine c_put C (f := f) (x := ((q : Int), (dd : Int))) lc hn he hz hsz li1 d hD hcov (upd_same _ _ _) (.inr ⟨by simp; exact Int.ofNat_le.mpr (by assumption), by simp; lia, by simp; exact Int.ofNat_le.mpr (by assumption), by simp; exact Int.ofNat_le.mpr (by assumption), by simpa using h3, by simp; exact Int.ofNat_le.mpr (by lia), ?_⟩) fun D' S' H' a1 a2 a3 a4 a5 => hN _ _ ?_
    · have e1 : ((q : Int), (dd : Int)).1.toNat = q := by simp
      have e2 : ((q : Int), (dd : Int)).2.toNat = dd := by simp
      rw [e1, e2]
      exact h5.le (by lia)
    have es : sizeOf' ((q : Int), (dd : Int)) = q := by unfold sizeOf'; rw [if_neg (by simp; lia)]; simp
    rw [es] at a4
    refine ih (q + 1) _ D' S' (fun y => Z y ∨ y = q) H' (by lia) (by exact Nat.le_succ_of_le (by assumption)) a1 a2 a3 a4 fun v14 D'' S'' H'' b1 b2 b3 b4 b5 => hK v14 D'' S'' H'' b1 b2 b3 (fun z hz => b4 z ?_) (((Fr.sub s1).trans a5).trans b5)
    rcases hz with hz | ⟨z1, z2⟩
    · exact .inl (.inl hz)
    · rcases Nat.lt_or_ge q z with h | h
      · exact .inr ⟨by assumption, z2⟩
      · exact .inl (.inr (by exact Nat.le_antisymm (by assumption) (by assumption)))
theorem l_matches {K : Fl → List V → MH → Prop} {f : FinOK G n c F a T w ch 2 fp} {n' : Nat} {v2 v5 v9 v11 : V} {b1 : Addr} {ms : List (Int × Int)} {vs : List V} {lim : Nat} (lc : LC H₀ tr fp wy cl sl pr) (hn : 2 ≤ n') (he : 1 ≤ e) (hz : sz ≤ 4000) (hsz : s0 + sz = T.length) (hlim : lim = min m (T.length - (s0 + at_))) (hres : Res T w (s0 + at_) lim 2 ms) (hat : at_ < sz) (hb1 : b1 ∉ [cl, sl]) :
    ∀ (j i : Nat) (o12 o13 o14 : V) (D : Nat → Option Nat) (S : Nat → Int × Int) (H : MH), i + j = ms.length → LI H₀ H tr F a kn fp wy e sz D S cl sl pr → DS T w m s0 at_ D S → D at_ = some k → Cov D at_ k (fun z => z = 1 ∨ ∃ x ∈ ms.take i, 2 ≤ z ∧ (z : Int) ≤ x.1) → H b1 = some (.list vs) → Tups H vs ms →
      (∀ v12 v13 v14 D' S' H', LI H₀ H' tr F a kn fp wy e sz D' S' cl sl pr → DS T w m s0 at_ D' S' → D' at_ = some k → Cov D' at_ k (fun z => z = 1 ∨ ∃ x ∈ ms, 2 ≤ z ∧ (z : Int) ≤ x.1) → K .next [.bytes T, .int s0, v2, .int m, .ref pr, v5, .ref tr, .ref wy, .int at_, v9, .ref b1, v11, v12, v13, v14] H') →
      WFor G p_least_ln n' (.tup [12, 13]) p_least_fb2 (.lst b1 i) [.bytes T, .int s0, v2, .int m, .ref pr, v5, .ref tr, .ref wy, .int at_, v9, .ref b1, v11, o12, o13, o14] K H := by
  have hbg : big = 16777216 := rfl
  intro j
  induction j with
  | zero =>
    intro i o12 o13 o14 D S H hi li d hD hcov hb ht hK
    have hvl := ht.length
    refine WFor.done nd_least ?_ ?_
    · rw [next_lst hb, List.getElem?_eq_none (by lia)]; rfl
    · rw [List.take_of_length_le (by lia)] at hcov
      exact hK _ _ _ D S H li d hD hcov
  | succ j ih =>
    intro i o12 o13 o14 D S H hi li d hD hcov hb ht hK
    have hvl := ht.length
    have hlt : i < ms.length := by lia
    have hg4 : ms[i]? = some ms[i] := List.getElem?_eq_getElem hlt
    obtain ⟨t, t1, t2⟩ := ht.at hg4
    refine WFor.turn nd_least (v := .ref t) (src' := .lst b1 (i + 1)) ?_ fun Q' hN _ _ _ => ?_
    · rw [next_lst hb, t1]; rfl
    refine wT_tup t2 rfl ?_
    obtain ⟨r1, r2, r3, r4, r5, r6⟩ := hres.ok ms[i] (List.getElem_mem hlt)
    obtain ⟨l, hl⟩ : ∃ l : Nat, ms[i].1 = l := ⟨ms[i].1.toNat, by lia⟩
    obtain ⟨dd, hdd⟩ : ∃ dd : Nat, ms[i].2 = dd := ⟨ms[i].2.toNat, by lia⟩
    rw [hl] at r1 r2
    rw [hdd] at r3 r4 r5
    have l2 : 2 ≤ l := Int.ofNat_le.mp r1
    have lm : l ≤ m := Nat.le_trans (Int.ofNat_le.mp r2) (Nat.le_trans (Nat.le_of_eq hlim) (Nat.min_le_left _ _))
    have lA : s0 + at_ + l ≤ T.length := Nat.add_le_of_le_sub' (by lia) (Nat.le_trans (Int.ofNat_le.mp r2) (Nat.le_trans (Nat.le_of_eq hlim) (Nat.min_le_right _ _)))
    have lz : l ≤ 4000 := by lia
    rw [hl, hdd] at r6
    simp only [Int.toNat_natCast] at r6
    rw [hl, hdd]
    have hts := li.ts.h
    simp [p_least_fb2, hts, fget]
    refine ⟨by unfold rsm; decide, by unfold rsm; clear r2 hlim r1; lia, ?_⟩
    have ek : ((l : Int) + 1 - 2).toNat = l - 1 := by exact Int.toNat_sub _ _
    first | rw [ek] | skip
    refine l_parts C (f := f) lc hn he hz hsz lm (Int.ofNat_le.mp r3) (Int.ofNat_le.mp r4) (by assumption) lA r6 (l - 1) 2 _ D S _ H (by clear ek r2 hlim r1; lia) (Nat.le_refl _) li d hD hcov fun v14 D' S' H' a1 a2 a3 a4 a5 => hN _ _ ?_
    have ht' : Tups H' vs ms := ht.keep fun t y hy => a5.get (by
      obtain ⟨cs, c1, _⟩ := li.ws.c
      obtain ⟨ss, s1, _⟩ := li.ws.s
      simp only [List.mem_cons, List.not_mem_nil, or_false, not_or]
      exact ⟨ne_os hy c1 (by simp), ne_os hy s1 (by simp)⟩) hy
    refine ih (i + 1) _ _ _ D' S' H' (by lia) a1 a2 a3 (fun z hz => a4 z ?_) (a5.get hb1 hb) ht' hK
    rcases hz with rfl | ⟨x, x1, x2, x3⟩
    · exact .inl (.inl rfl)
    · rw [take_one hg4] at x1
      rcases List.mem_append.mp x1 with x1 | x1
      · exact .inl (.inr ⟨x, x1, x2, x3⟩)
      · have : x = ms[i] := by simpa using x1
        subst this
        exact .inr ⟨x2, by lia⟩
end
end Mine
end
-- part K37
section
open PySem PySem.Calls PyProof.Rows PySem.W
set_option maxHeartbeats 4000000
set_option maxRecDepth 100000
namespace Mine
@[local simp] theorem lkd_37 {α : Type} {x : α} : @lk α ⟨x⟩ = x := rfl
section
variable {G : Gd} (C : Cx G) {n : Nat} {H₀ : MH} {tr a : Addr} {T : List Int} {w ch : Int} {c : Nat} {F : MH → Nat → Prop} {fp : List Addr} {wy cl sl pr : Addr} {e : Int} {sz m s0 : Nat}
include C
theorem l_least {K : Fl → List V → MH → Prop} (f : FinOK G n c F a T w ch 2 fp) {v2 : V} (lc : LC H₀ tr fp wy cl sl pr) (hn : 1 ≤ n) (he : 1 ≤ e) (hz : T.length ≤ 4000) (hsz : s0 + sz = T.length) (hex : ∀ p, p < T.length → ∃ r, Reach T w m p r) :
    ∀ (j at_ kn : Nat) (o9 o10 o11 o12 o13 o14 : V) (D : Nat → Option Nat) (S : Nat → Int × Int) (H : MH), at_ + j = sz → kn ≤ s0 + at_ → LI H₀ H tr F a kn fp wy e sz D S cl sl pr → DS T w m s0 at_ D S →
      (∀ v9 v10 v11 v12 v13 v14 kn' D' S' H', LI H₀ H' tr F a kn' fp wy e sz D' S' cl sl pr → DS T w m s0 sz D' S' → K .next [.bytes T, .int s0, v2, .int m, .ref pr, .none, .ref tr, .ref wy, .int sz, v9, v10, v11, v12, v13, v14] H') →
      WWhile G p_least_ln (n + 2) p_least_wt0 p_least_wb3 [.bytes T, .int s0, v2, .int m, .ref pr, .none, .ref tr, .ref wy, .int at_, o9, o10, o11, o12, o13, o14] K H := by
  have hbg : big = 16777216 := rfl
  intro j
  induction j with
  | zero =>
    intro at_ kn o9 o10 o11 o12 o13 o14 D S H hj hkn li d hK
    have : at_ = sz := by omega
    subst this
    have hws := li.ws.h
    refine WWhile.turn nd_least fun Q' _ _ _ _ => ?_
    simp [p_least_wt0, hws, fget]
    exact hK _ _ _ _ _ _ kn D S H li d
  | succ j ih =>
    intro at_ kn o9 o10 o11 o12 o13 o14 D S H hj hkn li d hK
    have hws := li.ws.h
    obtain ⟨k, hD⟩ := d.has hex (by lia) at_ (Nat.le_refl _)
    obtain ⟨r, hr⟩ := hex (s0 + at_) (by lia)
    refine WWhile.turn nd_least fun Q' hN _ _ _ => ?_
    simp [p_least_wt0, hws, fget]
    refine ⟨fun _ => ?_, fun h => by exact mh_false (by lia)⟩
    unfold p_least_wb3
    refine wB_go fun Q1 n1 _ _ _ => ?_
    simp
    obtain ⟨p, hp⟩ : ∃ p, p = s0 + at_ := ⟨_, rfl⟩
    rw [show (s0 : Int) + (at_ : Int) = (p : Int) by lia]
    refine n1 _ _ (wB_go fun Q2 n2 _ _ _ => ?_)
    dsimp only [wS, wE, gx6, good_ref]
    refine m_inst li.ts.h (by decide) (by decide) rfl rfl ?_
    show wEs _ _ _ _ _ _ _
    dsimp only [wEs, wE, gx9, gx3, good_int]
    refine c_tevery C hn f (p := p) (by lia) (by exact Nat.le_trans (by assumption) (by lia)) li.ts fun b1 ms vs H1 ts1 o1 nb1 hb1 ht1 hv1 hres => ?_
    have li1 := li.every f lc ts1 o1
    have hb1' : b1 ∉ [cl, sl] := by
      obtain ⟨cs, c1, _⟩ := li.ws.c
      obtain ⟨ss, s1, _⟩ := li.ws.s
      simp only [List.mem_cons, List.not_mem_nil, or_false, not_or]
      exact ⟨(nb1 cl lc.c (by rw [c1]; simp)).symm, (nb1 sl lc.s (by rw [s1]; simp)).symm⟩
    rw [wT_v]
    refine n2 _ _ (wB_go fun Q3 n3 _ _ _ => ?_)
    have hpl : p < T.length := by lia
    have hws1 := li1.ws.h
    have hoct : ∀ {Q : V → MH → Prop} {H : MH}, wSub (.bytes T) (.int (p : Int)) Q H = Q (.int (oct T p)) H := fun {Q H} => by
      rw [s_bytes (by exact Int.natCast_nonneg _) (by assumption) (by exact easy (by assumption) rfl)]; simp [oct]
    dsimp only [wS, wE, gx7, good_ref]
    refine m_inst hws1 (by decide) (by decide) rfl rfl ?_
    simp [hoct]
    refine ⟨by simp [hbg], fun t ht => ?_⟩
    have s1 := Sub.fresh ht (.tup [V.int 0, V.int (oct T p)])
    have li2 := li1.sub f s1
    have hpr := li2.pr
    unfold FP at hpr
    try rw [hoct]
    refine m_inst hpr (by decide) (by decide) rfl rfl ?_
    refine c_literal C (by exact Nat.le_add_left _ _) li2.pr ?_
    have d1 := d
    refine c_put C (f := f) (x := ((0 : Int), oct T p)) (Z := fun _ => False) lc (by exact Nat.le_add_left _ _) he (by lia) hsz li2 d hD (fun _ h => h.elim) (upd_same _ _ _) (.inl ⟨rfl, by rw [hp], by lia⟩) fun D3 S3 H3 li3 d3 hD3 cov3 o3 => n3 _ _ (wB_go fun Q4 n4 _ _ _ => ?_)
    have es : sizeOf' ((0 : Int), oct T p) = 1 := rfl
    rw [es] at cov3
    have o13 : Fr H1 H3 [cl, sl] := (Fr.sub s1).trans o3
    have hb3 := o13.get hb1' hb1
    have ht3 : Tups H3 vs ms := ht1.keep fun t y hy => o13.get (by
      obtain ⟨cs, c1, _⟩ := li1.ws.c
      obtain ⟨ss, s1, _⟩ := li1.ws.s
      simp only [List.mem_cons, List.not_mem_nil, or_false, not_or]
      exact ⟨ne_os hy c1 (by simp), ne_os hy s1 (by simp)⟩) hy
    dsimp only [wS, wSrc]
    refine srcOf_list hb3 ?_
    rw [hp] at hres
    refine l_matches C (f := f) (n' := n + 2) lc (by exact Nat.le_add_left _ _) he (by lia) hsz rfl hres (by omega) hb1' ms.length 0 _ _ _ D3 S3 H3 (by exact Nat.add_comm _ _) li3 d3 hD3 (fun z hz => cov3 z ?_) hb3 ht3 fun v12 v13 v14 D4 S4 H4 li4 d4 hD4 cov4 => n4 _ _ (wB_go fun Q5 n5 _ _ _ => ?_)
    · rcases hz with h | ⟨x, hx, _⟩
      · exact .inr h
      · simp at hx
    have hnext := d4.next hD4 cov4 hr fun z z1 z2 => by
      rcases Nat.lt_or_ge 1 z with h | h
      · rcases hr.have_ with h1 | ⟨q, q1, q2, q3, q4, q5⟩
        · exact .inl (by lia)
        · obtain ⟨x, x1, x2⟩ := hres.top q r q1 q2 (by have := hr.fit; omega) q3 q5
          exact .inr ⟨x, List.mem_of_getLast? x1, by assumption, by lia⟩
      · exact .inl (by exact Nat.le_antisymm (by assumption) (by assumption))
    simp
    refine n5 _ _ (wB_go fun Q6 n6 _ _ _ => ?_)
    simp [-xB_cons, -xB_nil]
    rw [wB_nil]
    refine n6 _ _ (wB_go fun Q7 n7 _ _ _ => ?_)
    simp
    refine n7 _ _ ?_
    rw [wB_nil]
    refine hN _ _ ?_
    rw [show (at_ : Int) + 1 = ((at_ + 1 : Nat) : Int) by exact rfl]
    exact ih (at_ + 1) p _ _ _ _ _ _ D4 S4 H4 (by lia) (by lia) li4 hnext hK
omit C in
theorem c_least {Q : V → MH → Prop} {H : MH} (DD : Dx G) (hn : 1 ≤ n) (f : FinOK G n c F a T w ch 2 fp) (he : 1 ≤ e) (hz : T.length ≤ 4000) (hs : s0 ≤ T.length) (hex : ∀ p, p < T.length → ∃ r, Reach T w m p r) (x : F H 0) (hpr : FP H pr e) (hpf : pr ∉ fp)
    (hq : ∀ b ms vs H', H' b = some (.list vs) → Tups H' vs ms → PL T w m s0 ms T.length → (∀ k, Pos T w m s0 k T.length → ms.length = k) → FP H' pr e → Fr H H' fp → Q (.ref b) H') : WCall G (n + 3) (.top "least") [.bytes T, .int s0, .ref a, .int m, .ref pr] Q H := by
  have C := DD.c
  have hbg : big = 16777216 := rfl
  refine WCall.goD DD.d1 (C.at 10 rfl) fun Q0 hR hN => ?_
  have e0 : fr0 p_least_ln ([.bytes T, .int s0, .ref a, .int m, .ref pr] ++ [.none]) = [.bytes T, .int s0, .ref a, .int m, .ref pr, .none, .odd, .odd, .odd, .odd, .odd, .odd, .odd, .odd, .odd] := rfl
  rw [e0]
  unfold p_least
  refine wB_go fun Q1 n1 _ _ _ => ?_
  simp
  refine c_check_range C (by exact Nat.le_add_left _ _) (by exact Int.natCast_nonneg _) (by exact Int.ofNat_le.mpr (by assumption)) (by exact Int.natCast_nonneg _) (by exact easy (by assumption) rfl) (n1 _ _ (wB_go fun Q2 n2 _ _ _ => ?_))
  simp [WNew]
  intro tr htr
  have htf : ∀ b ∈ fp, b ≠ tr := fun b hb q => by
    obtain ⟨o, h1, _⟩ := f.here x b hb
    rw [q, htr] at h1; cases h1
  have x1 : F (upd H tr (.inst 4 [])) 0 := f.keep x fun b hb => upd_ne _ _ (htf b hb)
  refine c_trailinit C (by exact Nat.le_add_left _ _) (upd_same _ _ _) (f.mf x1) (fun q => htf a f.mem q.symm) fun H1 h1 o1 => ?_
  refine ⟨rfl, by exact easy (by assumption) rfl, fun wy hwy => ?_⟩
  rw [show (T.length : Int) - (s0 : Int) = ((T.length - s0 : Nat) : Int) by lia]
  refine c_waysinit C (e := e) (S := fun _ => (0, 0)) (by exact Nat.le_add_left _ _) (upd_same _ _ _) (by exact Nat.le_trans (Nat.sub_le _ _) (by lia)) fun H2 cl sl ws hcl hsl fr2 => ?_
  refine ⟨rfl, ?_⟩
  have hwtr : wy ≠ tr := (ne_of hwy h1).symm
  have hwyH : H wy = none := by rw [o1 wy hwtr, upd_ne _ _ hwtr] at hwy; exact hwy
  have fresh2 : ∀ y, (upd H1 wy (.inst 5 [])) y = none → y ≠ wy ∧ y ≠ tr ∧ H y = none := fun y hy => by
    have h3 : y ≠ wy := fun q => by rw [q, upd_same] at hy; cases hy
    rw [upd_ne _ _ h3] at hy
    have h4 : y ≠ tr := (ne_of hy h1).symm
    rw [o1 y h4, upd_ne _ _ h4] at hy
    exact ⟨h3, h4, hy⟩
  obtain ⟨c1, c2, c3⟩ := fresh2 cl hcl
  obtain ⟨s1, s2, s3⟩ := fresh2 sl hsl
  have notfp : ∀ y, H y = none → y ∉ fp := fun y hy hm => by
    obtain ⟨o, h2, _⟩ := f.here x y hm
    rw [hy] at h2; cases h2
  have hptr : pr ≠ tr := ne_of htr hpr
  have old : ∀ y, H y ≠ none → H2 y = H y := fun y hy => by
    have y1 : y ≠ wy := fun q => hy (q ▸ hwyH)
    have y2 : y ≠ tr := fun q => hy (q ▸ htr)
    have e1 : (upd H1 wy (.inst 5 [])) y = H y := by rw [upd_ne _ _ y1, o1 y y2, upd_ne _ _ y2]
    rw [fr2 y (by simpa using y1) (by rw [e1]; exact hy), e1]
  have old' : ∀ y o, H y = some o → H2 y = some o := fun y o hy => by rw [old y (by rw [hy]; simp), hy]
  have lc : LC H tr fp wy cl sl pr := ⟨⟨htr, c3, s3⟩, by simp only [List.mem_cons, not_or]; exact ⟨hwtr, notfp _ hwyH⟩, by simp only [List.mem_cons, not_or]; exact ⟨c2, notfp _ c3⟩, by simp only [List.mem_cons, not_or]; exact ⟨s2, notfp _ s3⟩, by simp only [List.mem_cons, not_or]; exact ⟨hptr, hpf⟩⟩
  have htr2 : H2 tr = some (.inst 4 [(14, .ref a), (15, .int 2), (16, .int 0)]) := fr2.get (by simpa using hwtr.symm) ((upd_ne _ _ hwtr.symm).trans h1)
  have li : LI H H2 tr F a 0 fp wy e (T.length - s0) (fun i => if i = 0 then some 0 else none) (fun _ => (0, 0)) cl sl pr := ⟨⟨htr2, f.keep x fun b hb => by
    obtain ⟨o, h2, _⟩ := f.here x b hb
    exact old b (by rw [h2]; simp), fun h => htf tr h rfl⟩, ws, old' _ _ hpr, fun y _ hy => old y hy⟩
  try simp
  refine ⟨by simp [hbg], n2 _ _ (wB_go fun Q3 n3 _ _ _ => ?_)⟩
  dsimp only [wS]
  have hwh := l_least (K := Q3) (v2 := .ref a) (sz := T.length - s0) (s0 := s0) (m := m) C f lc hn he hz (by exact Nat.add_sub_of_le (by lia)) hex (T.length - s0) 0 0 .odd .odd .odd .odd .odd .odd _ _ H2 (by exact Nat.add_comm _ _) (by exact Nat.zero_le _) li DS.init fun v9 v10 v11 v12 v13 v14 kn' D' S' H' li' d' => n3 _ _ (wB_go fun Q4 n4 _ _ r4 => ?_)
  · exact hwh
  · have hle : s0 + (T.length - s0) ≤ T.length := by lia
    obtain ⟨kk, hkk⟩ := d'.has hex hle (T.length - s0) (Nat.le_refl _)
    have hws' := li'.ws.h
    simp
    refine m_inst hws' (by decide) (by decide) rfl rfl ?_
    have hzz : T.length - s0 ≤ 4000 := by exact Nat.le_trans (Nat.sub_le _ _) (by lia)
    refine c_told C (by exact Nat.le_add_left _ _) li'.ws d' hzz hkk fun b ms vs H'' b1 b2 b3 b4 b5 => r4 _ _ _ (hR _ _ _ ?_)
    rw [show s0 + (T.length - s0) = T.length by exact Nat.add_sub_of_le (by lia)] at b4
    refine hq b ms vs H'' b1 b2 b4 (fun k hk => ?_) (b5.get (by simp) li'.pr) (li'.fr.trans (b5.le fun _ h => nomatch h))
    obtain ⟨k', h1, h2⟩ := d'.upper (Nat.add_sub_cancel' hs) hk
    rw [hkk] at h1
    cases h1
    have := b4.least hex hs hk
    lia
end
end Mine
end
-- part K38
section
open PySem PySem.Calls PyProof.Rows PySem.W
set_option maxHeartbeats 4000000
set_option maxRecDepth 100000
namespace Mine
theorem nd_fewest : p_law_fewest_right_ln.Nodup := by decide +kernel
theorem Fr.drop {H H1 H2 : MH} {fp : List Addr} (a : Fr H H1 []) (b : Fr H1 H2 fp) (h : ∀ y ∈ fp, H y = none) : Fr H H2 [] := fun y _ hy => by
  have e := a y (by simp) hy
  rw [b y (fun q => hy (h y q)) (by rw [e]; exact hy), e]
section
variable {G : Gd} {n : Nat} {T : List Int} {w : Int} {m s0 : Nat}
theorem l_few {C : Cx G} {K : Fl → List V → MH → Prop} {wa due : Addr} {v4 v5 v9 : V} {L : List Nat} {H₀ : MH} {N : Nat} (hN : 6 ≤ N) (hz : T.length ≤ 4000) (hT : ∀ x ∈ T, 0 ≤ x ∧ x < 256) (hw : 1 ≤ w) (hs : s0 ≤ T.length) (hL : H₀ (layersA G.K) = some (.tup [.int 2, .int 3])) (hwa : H₀ wa = some (.list [.str 1, .str 2, .str 3])) (hd : H₀ due = some (.list (nats L))) (hp : PosL T w m s0 L T.length) :
    ∀ (j i : Nat) (o8 o10 : V) (H : MH), i + j = 3 → Fr H₀ H [] → (∀ v8 v10 H', Fr H₀ H' [] → K .next [.bytes T, .int s0, .int w, .int m, v4, v5, .ref due, .ref wa, v8, v9, v10] H') →
      WFor G p_law_fewest_right_ln (N + 3) (.v 8) p_law_fewest_right_fb0 (.lst wa i) [.bytes T, .int s0, .int w, .int m, v4, v5, .ref due, .ref wa, o8, v9, o10] K H := by
  have hbg : big = 16777216 := rfl
  intro j
  induction j with
  | zero =>
    intro i o8 o10 H hi fr hK
    have hwa' := fr.get (by simp) hwa
    refine WFor.done nd_fewest ?_ (hK _ _ H fr)
    rw [next_lst hwa', List.getElem?_eq_none (by simp; lia)]; rfl
  | succ j ih =>
    intro i o8 o10 H hi fr hK
    have hwa' := fr.get (by simp) hwa
    have hi3 : i = 0 ∨ i = 1 ∨ i = 2 := by lia
    refine WFor.turn nd_fewest (v := .str (i + 1)) (src' := .lst wa (i + 1)) ?_ fun Q' hN' _ _ _ => ?_
    · rw [next_lst hwa']
      rcases hi3 with rfl | rfl | rfl <;> rfl
    rw [wT_v]
    unfold p_law_fewest_right_fb0
    refine wB_go fun Q1 n1 _ _ _ => ?_
    simp
    refine ⟨by exact easy (by assumption) rfl, c_finder_for C (N := N) (by lia) hN (by lia) (fr.get (by simp) hL) hz hT hw fun a c F fp H1 f x nf f1 => ?_⟩
    refine c_greedy C (by exact easy' (by assumption) rfl) f hz hs x fun b ms vs H2 g h2n hb ht f2 hv => n1 _ _ (wB_go fun Q2 n2 _ _ _ => ?_)
    have frA : Fr H H2 [] := f1.drop f2 nf
    have fr2 := fr.trans frA
    simp [-xB_cons, -xB_nil]
    refine c_stands C (by exact Nat.le_add_left _ _) g hz hs hb ht fun sb L' H3 hsb hL' f3 => ?_
    have hd3 := (fr2.trans f3).get (by simp) hd
    have eL : L' = L := hL'.uniq hp
    subst eL
    have hll := hL'.len hs
    rw [nats_ints] at hsb hd3
    simp
    rw [c_neL hsb hd3]
    refine ⟨by simp; lia, by simp; lia, fun h => absurd rfl h, fun _ => ?_⟩
    refine c_plays C (by exact Nat.le_add_left _ _) g.pl hz hs (f3.get (by simp) hb) (ht.keep fun t y h => f3.get (by simp) h) fun H4 f4 => ?_
    simp [-xB_cons, -xB_nil]
    rw [wB_nil]
    refine n2 _ _ ?_
    rw [wB_nil]
    exact hN' _ _ (ih (i + 1) _ _ H4 (by lia) ((fr2.trans f3).trans f4) hK)

theorem c_fewest {Q : V → MH → Prop} {H : MH} (D : Dx G) {N how : Nat} {e : Int} (hN : 6 ≤ N) (hz : T.length ≤ 4000) (hT : ∀ x ∈ T, 0 ≤ x ∧ x < 256) (hw : 1 ≤ w) (hw' : w ≤ 100000) (hs : s0 ≤ T.length) (hh : how < 3) (he : 1 ≤ e) (he' : e ≤ 1000) (hL : H (layersA G.K) = some (.tup [.int 2, .int 3]))
    (hq : ∀ H', Fr H H' [] → Q (.bool true) H') : WCall G (N + 4) (.top "_law_fewest_right") [.bytes T, .int s0, .int w, .int m, .int how, .int e] Q H := by
  have C := D.c
  have hbg : big = 16777216 := rfl
  refine WCall.go (C.at 45 rfl) fun Q0 hR hN0 => ?_
  have e0 : fr0 p_law_fewest_right_ln [.bytes T, .int s0, .int w, .int m, .int how, .int e] = [.bytes T, .int s0, .int w, .int m, .int how, .int e, .odd, .odd, .odd, .odd, .odd] := rfl
  rw [e0]
  unfold p_law_fewest_right
  refine wB_go fun Q1 n1 _ _ _ => ?_
  simp
  refine c_reaches C (by exact Nat.le_add_left _ _) hz hw hw' fun rs b1 H1 hb1 hrs f1 => ?_
  refine c_farthest C (by exact Nat.le_add_left _ _) hrs hz hs hb1 fun L due H2 hd hL2 f2 => n1 _ _ (wB_go fun Q2 n2 _ _ _ => ?_)
  have hex : ∀ p, p < T.length → ∃ r, Reach T w m p r := fun p hp => let ⟨r, _, h⟩ := hrs.get hp; ⟨r, h⟩
  have frA := f1.trans f2
  simp
  refine ⟨by simp [hbg], fun wa hwa => n2 _ _ (wB_go fun Q3 n3 _ _ _ => ?_)⟩
  have s3 := Sub.fresh hwa (.list [V.str 1, V.str 2, V.str 3])
  have frB := frA.trans (Fr.sub s3)
  have hd3 := s3 _ _ hd
  have hw3 : (upd H2 wa (.list [V.str 1, V.str 2, V.str 3])) wa = some (.list [.str 1, .str 2, .str 3]) := upd_same _ _ _
  have hL3 := frB.get (by simp) hL
  dsimp only [wS, wSrc]
  refine srcOf_list hw3 ?_
  have := l_few (C := C) (K := Q3) (N := N) (m := m) (v4 := .int how) (v5 := .int e) (v9 := .odd) hN hz hT hw hs hL3 hw3 hd3 hL2 3 0 .odd .odd _ (by exact Int.toNat_natCast _) (Fr.refl _ _) fun v8 v10 H4 f4 => n3 _ _ (wB_go fun Q4 n4 _ _ _ => ?_)
  · exact this
  · simp [WNew]
    intro pr hpr
    have frC := frB.trans f4
    refine c_flat D (by exact Nat.le_add_left _ _) (upd_same _ _ _) (by exact Int.le_of_lt (by assumption)) fun H5 fp5 o5 => ⟨rfl, n4 _ _ (wB_go fun Q5 n5 _ _ _ => ?_)⟩
    have s45 : Fr H4 H5 [] := fun y _ hy => by
      have : y ≠ pr := fun q => hy (q ▸ hpr)
      rw [o5 y this, upd_ne _ _ this]
    have frD := frC.trans s45
    have hw5 := s45.get (by simp) (f4.get (by simp) hw3)
    have hd5 := s45.get (by simp) (f4.get (by simp) hd3)
    have hvw : ∃ v : Nat, ([V.str 1, V.str 2, V.str 3])[how]? = some (.str v) ∧ (v = 1 ∨ v = 2 ∨ v = 3) := by
      have : how = 0 ∨ how = 1 ∨ how = 2 := by lia
      rcases this with rfl | rfl | rfl
      · exact ⟨1, rfl, .inl rfl⟩
      · exact ⟨2, rfl, .inr (.inl rfl)⟩
      · exact ⟨3, rfl, .inr (.inr rfl)⟩
    obtain ⟨v, v1, v2⟩ := hvw
    simp
    refine sub_at hw5 v1 (by simp [hbg]) ⟨by exact easy (by assumption) rfl, ?_⟩
    refine c_finder_for C (N := N) v2 hN (by lia) (frD.get (by simp) hL) hz hT hw fun a c F fp H6 f x nf f6 => ?_
    have pnf : pr ∉ fp := fun h => by rw [FP] at fp5; rw [nf pr h] at fp5; cases fp5
    have hfp6 : FP H6 pr e := f6.get (by simp) fp5
    refine c_least D (by exact easy' (by assumption) rfl) f he hz hs hex x hfp6 pnf fun b ms vs H7 hb ht hpl hk hfp7 f7 => n5 _ _ (wB_go fun Q6 _ _ _ r6 => ?_)
    have f57 := f6.drop f7 nf
    have hd7 := f57.get (by simp) hd5
    simp
    refine c_plays C (by exact Nat.le_add_left _ _) hpl hz hs hb ht fun H8 f8 => ?_
    simp
    refine c_price C (by exact Nat.le_add_left _ _) (f8.get (by simp) hfp7) (f8.get (by simp) hb) (ht.keep fun t y h => f8.get (by simp) h) ?_
    have hd8 := f8.get (by simp) hd7
    obtain ⟨k, k1, k2⟩ := hL2.pos
    have hll := hL2.len hs
    have hml := hk k k2
    simp [hd8]
    refine ⟨by lia, .inl (by unfold short; lia), fun _ => r6 _ _ _ (hR _ _ _ (hq _ ((frD.trans f57).trans f8))), fun h => ?_⟩
    exact absurd (by rw [k1, hml]; simp) h
end
end Mine
end
-- part L6
section
set_option maxHeartbeats 4000000
namespace Mine
variable {T : List Int} {w : Int} {m m' s0 : Nat}
theorem Step.piece {p i j : Nat} {x : Int × Int} (h : Step T w m' p x) (h1 : 1 ≤ j) (h2 : i + j ≤ sizeOf' x) (h3 : j ≤ m ∨ j = 1) : ∃ y, Step T w m (p + i) y ∧ sizeOf' y = j := by
  have hs := h.size
  by_cases hj : j = 1
  · subst hj
    exact ⟨(0, oct T (p + i)), .inl ⟨rfl, rfl, by lia⟩, rfl⟩
  · rcases h with ⟨a1, _⟩ | ⟨a1, a2, a3, a4, a5, a6, a7⟩
    · have : sizeOf' x = 1 := by unfold sizeOf'; rw [if_pos a1]
      lia
    · have e : sizeOf' x = x.1.toNat := by unfold sizeOf'; rw [if_neg (by lia)]
      refine ⟨((j : Int), x.2), .inr ⟨by simp; lia, by simp; lia, a3, by simp; lia, a5, by simp; exact Int.ofNat_le.mpr (by lia), ?_⟩, by unfold sizeOf'; rw [if_neg (by simp; exact Nat.ne_of_gt (by assumption))]; simp⟩
      intro z hz
      have hz' : z < j := by simpa using hz
      have := a7 (i + z) (by lia)
      rw [show p + i + z = p + (i + z) by exact Nat.add_assoc _ _ _, this]
      congr 1; simp; lia
theorem oct_eq {U : List Int} {n i : Nat} (h : T = U.take n) (hi : i < n) : oct T i = oct U i := by
  subst h
  unfold oct
  rw [List.getD_eq_getElem?_getD, List.getD_eq_getElem?_getD, List.getElem?_take, if_pos hi]
theorem Step.take {n p : Nat} {x : Int × Int} (h : Step T w m p x) (hn : p + sizeOf' x ≤ n) (hl : n ≤ T.length) : Step (T.take n) w m p x := by
  have hs := h.size
  have hlen : (T.take n).length = n := by rw [List.length_take]; lia
  rcases h with ⟨a1, a2, a3⟩ | ⟨a1, a2, a3, a4, a5, a6, a7⟩
  · exact .inl ⟨a1, by rw [a2, oct_eq rfl (by lia)], by lia⟩
  · have e : sizeOf' x = x.1.toNat := by unfold sizeOf'; rw [if_neg (by lia)]
    refine .inr ⟨a1, a2, a3, a4, a5, by lia, fun i hi => ?_⟩
    rw [oct_eq rfl (by lia), oct_eq rfl (by lia)]
    exact a7 i hi
theorem Step.more {n p : Nat} {x : Int × Int} (h : Step (T.take n) w m p x) (hl : n ≤ T.length) : Step T w m p x := by
  have hlen : (T.take n).length = n := by rw [List.length_take]; lia
  have hs := h.size
  rcases h with ⟨a1, a2, a3⟩ | ⟨a1, a2, a3, a4, a5, a6, a7⟩
  · exact .inl ⟨a1, by rw [a2, oct_eq rfl (by exact Nat.lt_of_lt_of_le (by assumption) (by lia))], by exact Nat.lt_of_lt_of_le (by assumption) (by lia)⟩
  · have e : sizeOf' x = x.1.toNat := by unfold sizeOf'; rw [if_neg (by lia)]
    refine .inr ⟨a1, a2, a3, a4, a5, by lia, fun i hi => ?_⟩
    have := a7 i hi
    rw [oct_eq rfl (by lia), oct_eq rfl (by lia)] at this
    exact this
theorem oct_drop {c i : Nat} : oct (T.drop c) i = oct T (c + i) := by
  unfold oct
  rw [List.getD_eq_getElem?_getD, List.getD_eq_getElem?_getD, List.getElem?_drop]
theorem Step.shift {c p : Nat} {x : Int × Int} (h : Step (T.drop c) w m p x) (hl : c ≤ T.length) : Step T w m (c + p) x := by
  have hlen : (T.drop c).length = T.length - c := by rw [List.length_drop]
  rcases h with ⟨a1, a2, a3⟩ | ⟨a1, a2, a3, a4, a5, a6, a7⟩
  · exact .inl ⟨a1, by rw [a2, oct_drop], by omega⟩
  · refine .inr ⟨a1, a2, a3, by lia, a5, by omega, fun i hi => ?_⟩
    have := a7 i hi
    rw [oct_drop, oct_drop] at this
    rw [show c + p + i = c + (p + i) by exact Nat.add_assoc _ _ _, this]
    congr 1; lia
theorem Step.wide {p : Nat} {x : Int × Int} (h : Step T w m p x) (hm : m ≤ m') : Step T w m' p x := by
  rcases h with h | ⟨a1, a2, a3⟩
  · exact .inl h
  · exact .inr ⟨a1, by lia, a3⟩
theorem PL.more {n p : Nat} {ms : List (Int × Int)} (h : PL (T.take n) w m s0 ms p) (hl : n ≤ T.length) : PL T w m s0 ms p := by
  induction h with
  | nil => exact .nil
  | snoc h hx ih => exact .snoc ih (hx.more hl)
theorem PL.shift {c p : Nat} {ms : List (Int × Int)} (h : PL (T.drop c) w m s0 ms p) (hl : c ≤ T.length) : PL T w m (c + s0) ms (c + p) := by
  induction h with
  | nil => exact .nil
  | snoc h hx ih => rw [← Nat.add_assoc]; exact .snoc ih (hx.shift hl)
theorem PL.wide {p : Nat} {ms : List (Int × Int)} (h : PL T w m s0 ms p) (hm : m ≤ m') : PL T w m' s0 ms p := by
  induction h with
  | nil => exact .nil
  | snoc h hx ih => exact .snoc ih (hx.wide hm)
theorem PL.app {p q : Nat} {ms ms' : List (Int × Int)} (h : PL T w m s0 ms p) (h' : PL T w m p ms' q) : PL T w m s0 (ms ++ ms') q := by
  induction h' with
  | nil => rw [List.append_nil]; exact h
  | snoc h' hx ih => rw [← List.append_assoc]; exact .snoc ih hx
theorem PL.split {cut p : Nat} {ms : List (Int × Int)} (hm : 1 ≤ m) (h : PL T w m s0 ms p) (hc : cut ≤ T.length) (hs : s0 ≤ cut) :
    (p ≤ cut → PL (T.take cut) w m s0 ms p) ∧ (cut ≤ p → ∃ ms1 ms2, PL (T.take cut) w m s0 ms1 cut ∧ PL T w m cut ms2 p ∧ ms1.length + ms2.length ≤ ms.length + 1) := by
  induction h with
  | nil => exact ⟨fun _ => .nil, fun h => by
      have : s0 = cut := by exact Nat.le_antisymm (by assumption) (by assumption)
      subst this
      exact ⟨[], [], .nil, .nil, by simp⟩⟩
  | @snoc ms p x h hx ih =>
    obtain ⟨ih1, ih2⟩ := ih
    have hxs := hx.size
    have hxm : sizeOf' x ≤ m ∨ sizeOf' x = 1 := by
      rcases hx with ⟨a1, _⟩ | ⟨a1, a2, _⟩
      · right; unfold sizeOf'; rw [if_pos a1]
      · left; unfold sizeOf'; rw [if_neg (by lia)]; lia
    refine ⟨fun hle => .snoc (ih1 (by lia)) (hx.take hle hc), fun hge => ?_⟩
    rcases Nat.lt_or_ge p cut with hp | hp
    · obtain ⟨y, y1, y2⟩ := hx.piece (m := m) (i := 0) (j := cut - p) (by exact Nat.le_sub_of_add_le (by lia)) (by lia) (by exact .inl (by lia))
      have g1 : PL (T.take cut) w m s0 (ms ++ [y]) cut := by
        have := (ih1 (by exact Nat.le_of_lt (by assumption))).snoc (y1.take (by lia) hc)
        rw [y2, show p + (cut - p) = cut by exact Nat.add_sub_of_le (by lia)] at this
        exact this
      rcases Nat.lt_or_ge cut (p + sizeOf' x) with hlt | hge'
      · obtain ⟨z, z1, z2⟩ := hx.piece (m := m) (i := cut - p) (j := p + sizeOf' x - cut) (by exact Nat.le_sub_of_add_le (by lia)) (by lia) (by exact .inl (by lia))
        rw [show p + (cut - p) = cut by exact Nat.add_sub_of_le (by lia)] at z1
        have g2 : PL T w m cut ([] ++ [z]) (cut + sizeOf' z) := .snoc .nil z1
        rw [z2, show cut + (p + sizeOf' x - cut) = p + sizeOf' x by exact Nat.add_sub_of_le (by lia)] at g2
        exact ⟨ms ++ [y], [z], g1, g2, by simp⟩
      · have : p + sizeOf' x = cut := by exact Nat.le_antisymm (by assumption) (by assumption)
        rw [this]
        exact ⟨ms ++ [y], [], g1, .nil, by simp⟩
    · obtain ⟨ms1, ms2, g1, g2, g3⟩ := ih2 hp
      exact ⟨ms1, ms2 ++ [x], g1, .snoc g2 hx, by simp; exact Nat.succ_le_succ (by assumption)⟩
theorem PL.halves {p : Nat} {ms : List (Int × Int)} (hm : 2 ≤ m) (h : PL T w (2 * m) s0 ms p) : ∃ ms', PL T w m s0 ms' p ∧ ms'.length ≤ 2 * ms.length := by
  induction h with
  | nil => exact ⟨[], .nil, by simp⟩
  | @snoc ms p x h hx ih =>
    obtain ⟨ms', g1, g2⟩ := ih
    have hxs := hx.size
    have hxm : sizeOf' x ≤ 2 * m ∨ sizeOf' x = 1 := by
      rcases hx with ⟨a1, _⟩ | ⟨a1, a2, _⟩
      · right; unfold sizeOf'; rw [if_pos a1]
      · left; unfold sizeOf'; rw [if_neg (by lia)]; lia
    rcases Nat.lt_or_ge m (sizeOf' x) with hlt | hge
    · obtain ⟨y, y1, y2⟩ := hx.piece (m := m) (i := 0) (j := m) (by exact Nat.le_of_lt (by assumption)) (by lia) (by exact .inl (by lia))
      obtain ⟨z, z1, z2⟩ := hx.piece (m := m) (i := m) (j := sizeOf' x - m) (by exact Nat.le_sub_of_add_le (by lia)) (by lia) (by exact .inl (by lia))
      have g3 := g1.snoc y1
      rw [y2] at g3
      have g4 := PL.snoc g3 z1
      rw [z2, show p + m + (sizeOf' x - m) = p + sizeOf' x by lia] at g4
      exact ⟨_, g4, by simp; exact Nat.add_le_add_right (by assumption) _⟩
    · obtain ⟨y, y1, y2⟩ := hx.piece (m := m) (i := 0) (j := sizeOf' x) (by exact (by assumption : _ ∧ _).1) (by lia) (by exact .inl (by omega))
      have g3 := g1.snoc y1
      rw [y2] at g3
      exact ⟨_, g3, by simp; exact Nat.lt_of_le_of_lt (by assumption) (by lia)⟩
end Mine
end
-- part L7
section
set_option maxHeartbeats 4000000
namespace Mine
variable {T : List Int} {w : Int} {m s0 : Nat}
theorem max_ex (P : Nat → Prop) (h1 : P 1) : ∀ b, ∃ r, 1 ≤ r ∧ P r ∧ ∀ c, c ≤ b → P c → c ≤ r
  | 0 => ⟨1, Nat.le_refl _, h1, fun c hc _ => by exact Nat.le_succ_of_le (by assumption)⟩
  | b + 1 => by
    obtain ⟨r, r1, r2, r3⟩ := max_ex P h1 b
    by_cases h : P (b + 1)
    · exact ⟨b + 1, by exact Nat.le_add_left _ _, h, fun c hc _ => hc⟩
    · refine ⟨r, r1, r2, fun c hc hp => ?_⟩
      rcases Nat.lt_or_ge b c with h' | h'
      · have : c = b + 1 := by exact Nat.le_antisymm (by assumption) (by assumption)
        subst this; exact absurd hp h
      · exact r3 c h' hp
theorem reach_ex (T : List Int) (w : Int) (m : Nat) : ∀ p, p < T.length → ∃ r, Reach T w m p r := fun p hp => by
  obtain ⟨r, r1, r2, r3⟩ := max_ex (fun r => r = 1 ∨ (r ≤ T.length - p ∧ ∃ q, q < p ∧ (p : Int) - q ≤ w ∧ 2 ≤ r ∧ r ≤ m ∧ agree T p q r)) (.inl rfl) T.length
  refine ⟨r, r1, ?_, ?_, fun q c q1 q2 q3 q4 q5 => ?_⟩
  · rcases r2 with h | ⟨h, _⟩ <;> omega
  · rcases r2 with h | ⟨_, h⟩
    · exact .inl h
    · exact .inr h
  · rcases Nat.lt_or_ge 1 c with h | h
    · exact r3 c (by exact Nat.le_trans (by assumption) (by lia)) (.inr ⟨q4, q, q1, q2, h, q3, q5⟩)
    · exact Nat.le_trans (by assumption) (by assumption)
theorem GP.least {ms ms' : List (Int × Int)} (g : GP T w m s0 ms T.length) (hs : s0 ≤ T.length) (h : PL T w m s0 ms' T.length) : ms.length ≤ ms'.length :=
  h.least (reach_ex T w m) hs g.pos
theorem parts1 {cut : Nat} {E A B : List (Int × Int)} (hm : 2 ≤ m) (hc : cut ≤ T.length) (hE : GP T w m 0 E T.length) (hA : GP (T.take cut) w m 0 A (T.take cut).length) (hB : GP T w m cut B T.length) : E.length ≤ A.length + B.length ∧ A.length + B.length ≤ E.length + 1 := by
  have hl : (T.take cut).length = cut := by rw [List.length_take]; lia
  constructor
  · have h1 := hA.pl.more hc
    rw [hl] at h1
    have := hE.least (by exact Nat.zero_le _) (h1.app hB.pl)
    rw [List.length_append] at this
    exact this
  · obtain ⟨ms1, ms2, h1, h2, h3⟩ := (hE.pl.split (by exact Nat.le_of_lt (by assumption)) hc (Nat.zero_le _)).2 hc
    have a1 := hA.least (Nat.zero_le _) (by rw [hl]; exact h1)
    have a2 := hB.least hc h2
    lia
theorem parts2 {cut : Nat} {B C : List (Int × Int)} (hc : cut ≤ T.length) (hB : GP T w m cut B T.length) (hC : GP (T.drop cut) w m 0 C (T.drop cut).length) : B.length ≤ C.length := by
  have h := hC.pl.shift hc
  rw [List.length_drop, show cut + (T.length - cut) = T.length by exact Nat.add_sub_of_le (by lia), Nat.add_zero] at h
  exact hB.least hc h
theorem parts3 {x : Int} {E L : List (Int × Int)} (hm : 2 ≤ m) (hE : GP T w m 0 E T.length) (hL : GP (T ++ [x]) w m 0 L (T ++ [x]).length) : E.length ≤ L.length ∧ L.length ≤ E.length + 1 := by
  have hlen : (T ++ [x]).length = T.length + 1 := by simp
  have ht : (T ++ [x]).take T.length = T := by simp
  constructor
  · obtain ⟨ms1, ms2, h1, h2, h3⟩ := (hL.pl.split (cut := T.length) (by exact Nat.le_of_lt (by assumption)) (by lia) (Nat.zero_le _)).2 (by lia)
    rw [ht] at h1
    have a1 := hE.least (Nat.zero_le _) h1
    have a2 := h2.size
    have : 1 ≤ ms2.length := by
      cases ms2 with
      | nil => simp at a2
      | cons _ _ => simp
    lia
  · have h1 : PL (T ++ [x]) w m 0 E T.length := PL.more (n := T.length) (by rw [ht]; exact hE.pl) (by lia)
    have h2 := h1.snoc (x := (0, oct (T ++ [x]) T.length)) (.inl ⟨rfl, rfl, by lia⟩)
    have e : T.length + sizeOf' ((0 : Int), oct (T ++ [x]) T.length) = (T ++ [x]).length := by rw [hlen]; rfl
    rw [e] at h2
    have := hL.least (Nat.zero_le _) h2
    rw [List.length_append] at this
    exact this
theorem parts4 {E W : List (Int × Int)} (hm : 2 ≤ m) (hE : GP T w m 0 E T.length) (hW : GP T w (2 * m) 0 W T.length) : W.length ≤ E.length ∧ E.length ≤ 2 * W.length := by
  constructor
  · exact hW.least (Nat.zero_le _) (hE.pl.wide (by lia))
  · obtain ⟨ms', h1, h2⟩ := hW.pl.halves hm
    have := hE.least (Nat.zero_le _) h1
    lia
end Mine
end
-- part K39
section
open PySem PySem.Calls PyProof.Rows PySem.W
set_option maxHeartbeats 4000000
set_option maxRecDepth 100000
namespace Mine
section
variable {G : Gd} (C : Cx G) {Q : V → MH → Prop} {H : MH} {T : List Int} {w : Int} {m s0 : Nat}
include C
theorem c_count {N c : Nat} {b : Addr} (hN : 6 ≤ N) (x : Bag H b c) (hc : c ≤ 50000) (hz : T.length ≤ 4000) (hT : ∀ x ∈ T, 0 ≤ x ∧ x < 256) (hw : 1 ≤ w) (hs : s0 ≤ T.length) (hL : H (layersA G.K) = some (.tup [.int 2, .int 3])) (hLb : layersA G.K ≠ b)
    (hq : ∀ ms H', GP T w m s0 ms T.length → Bag H' b (c + 1) → Fr H H' [b] → Q (.int ms.length) H') : WCall G (N + 4) (.top "_law_count") [.ref b, .bytes T, .int s0, .int w, .int m] Q H := by
  have hbg : big = 16777216 := rfl
  refine WCall.go (C.at 46 rfl) fun Q0 hR hN0 => ?_
  have e0 : fr0 p_law_count_ln [.ref b, .bytes T, .int s0, .int w, .int m] = [.ref b, .bytes T, .int s0, .int w, .int m, .odd] := rfl
  rw [e0]
  unfold p_law_count
  refine wB_go fun Q1 n1 _ _ _ => ?_
  simp
  refine ⟨by simp [hbg], c_take C (by exact Nat.le_add_left _ _) x (by exact easy (by assumption) rfl) (by exact Int.natCast_nonneg _) (by exact Int.natCast_nonneg _) fun d H1 d0 d1 x1 f1 _ => ?_⟩
  obtain ⟨i, rfl⟩ : ∃ i : Nat, d = i := ⟨d.toNat, by lia⟩
  have hvw : ∃ v : Nat, ([V.str 1, V.str 2, V.str 3])[i]? = some (.str v) ∧ (v = 1 ∨ v = 2 ∨ v = 3) := by
    have : i = 0 ∨ i = 1 ∨ i = 2 := by lia
    rcases this with rfl | rfl | rfl
    · exact ⟨1, rfl, .inl rfl⟩
    · exact ⟨2, rfl, .inr (.inl rfl)⟩
    · exact ⟨3, rfl, .inr (.inr rfl)⟩
  obtain ⟨v, v1, v2⟩ := hvw
  refine ⟨by omega, .str v, v1, n1 _ _ (wB_go fun Q2 n2 _ _ r2 => ?_)⟩
  simp
  refine ⟨by exact easy (by assumption) rfl, ?_⟩
  refine c_finder_for C (N := N) v2 hN (by lia) (f1.get (by simpa using hLb) hL) hz hT hw fun a cc F fp H2 f y nf f2 => ?_
  refine c_greedy C (by exact easy' (by assumption) rfl) f hz hs y fun g ms vs H3 gp _ hg ht f3 hv => ?_
  have f23 := f2.drop f3 nf
  have hvl := ht.length
  simp [hg]
  refine ⟨by exact easy (by assumption) rfl, r2 _ _ _ (hR _ _ _ ?_)⟩
  rw [hvl]
  exact hq ms H3 gp (x1.sub f23.sub0) (f1.two f23)

theorem c_parts {N c : Nat} {b : Addr} (hN : 6 ≤ N) (x : Bag H b c) (hc : c ≤ 40000) (hz : T.length ≤ 3000) (hT : Octs T) (hw : 1 ≤ w) (hm : 2 ≤ m) (hL : H (layersA G.K) = some (.tup [.int 2, .int 3])) (hLb : layersA G.K ≠ b)
    (hq : ∀ H', Q (.bool true) H') : WCall G (N + 5) (.top "_law_parts_right") [.ref b, .bytes T, .int w, .int m] Q H := by
  have hbg : big = 16777216 := rfl
  refine WCall.go (C.at 47 rfl) fun Q0 hR hN0 => ?_
  have e0 : fr0 p_law_parts_right_ln [.ref b, .bytes T, .int w, .int m] = [.ref b, .bytes T, .int w, .int m, .odd, .odd, .odd, .odd, .odd, .odd, .odd] := rfl
  rw [e0]
  have hLb' : layersA G.K ∉ [b] := by simpa using hLb
  unfold p_law_parts_right
  refine wB_go fun Q1 n1 _ _ _ => ?_
  simp
  refine ⟨by exact easy (by assumption) rfl, c_take C (by exact Nat.le_add_left _ _) x (by exact easy (by assumption) rfl) (by exact Int.ofNat_le.mpr (by lia)) (by lia) fun d H1 d0 d1 x1 f1 _ => ⟨by simp [hbg], ?_⟩⟩
  obtain ⟨ct, rfl⟩ : ∃ i : Nat, d = i := ⟨d.toNat, by lia⟩
  have hct : ct ≤ T.length := by lia
  simp [-xB_cons, -xB_nil]
  refine c_take C (by exact Nat.le_add_left _ _) x1 (by exact Nat.lt_of_le_of_lt (by assumption) (by lia)) (by exact Int.natCast_nonneg _) (by exact Int.natCast_nonneg _) fun d' H2 d0' d1' x2 f2 _ => ?_
  obtain ⟨i, rfl⟩ : ∃ i : Nat, d' = i := ⟨d'.toNat, by lia⟩
  have hv : ∃ v : Int, ([V.int 97, V.int 0, V.int 255])[i]? = some (.int v) ∧ v ∈ let3 := by
    have : i = 0 ∨ i = 1 ∨ i = 2 := by lia
    rcases this with rfl | rfl | rfl
    · exact ⟨97, rfl, by simp⟩
    · exact ⟨0, rfl, by simp⟩
    · exact ⟨255, rfl, by simp⟩
  obtain ⟨v, v1, v2⟩ := hv
  refine ⟨by omega, .int v, v1, by simp [hbg], fun a ha => ?_⟩
  have s3 := Sub.fresh ha (.list [V.int v])
  rw [bi_bytes_l (p := [V.int v]) (ns := [v]) (upd_same _ _ _) rfl]
  refine ⟨by simp [hbg], (Octs.one v2).r, ?_⟩
  have x3 := x2.sub s3
  have fA : Fr H (upd H2 a (.list [V.int v])) [b] := (f1.trans f2).trans (Fr.sub s3)
  have hL3 := fA.get hLb' hL
  obtain ⟨H3, eH3⟩ : ∃ H3, H3 = upd H2 a (.list [V.int v]) := ⟨_, rfl⟩
  rw [← eH3] at x3 fA hL3 ⊢
  try simp
  refine ⟨by simp [hbg], n1 _ _ (wB_go fun Q2 n2 _ _ _ => ?_)⟩
  simp
  refine c_count C (N := N) (s0 := 0) hN x3 (by lia) (by exact easy (by assumption) rfl) hT.r hw (Nat.zero_le _) hL3 hLb fun E H4 gE x4 f4 => n2 _ _ (wB_go fun Q3 n3 _ _ _ => ?_)
  have hL4 := f4.get hLb' hL3
  simp
  refine sl_by rfl rfl (by exact easy (by assumption) rfl) ?_
  rw [cut_to]
  refine c_count C (N := N) (s0 := 0) hN x4 (by lia) (by rw [List.length_take]; exact Nat.le_trans (Nat.min_le_right _ _) (by lia)) (fun y hy => hT.r y (List.mem_of_mem_take hy)) hw (Nat.zero_le _) hL4 hLb fun A H5 gA x5 f5 => ?_
  have hL5 := f5.get hLb' hL4
  simp [-xB_cons, -xB_nil]
  refine c_count C (N := N) (s0 := ct) hN x5 (by lia) (by lia) hT.r hw hct hL5 hLb fun B H6 gB x6 f6 => ?_
  have hL6 := f6.get hLb' hL5
  obtain ⟨p1, p2⟩ := parts1 hm hct gE gA gB
  try simp
  refine ⟨by simp [hbg], n3 _ _ (wB_go fun Q4 n4 _ _ _ => ?_)⟩
  simp [-xB_cons, -xB_nil]
  refine ⟨fun _ => ⟨fun _ => ?_, fun h => by exact mh_false (by lia)⟩, fun h => by exact mh_false (by lia)⟩
  refine sl_by rfl rfl (by exact easy (by assumption) rfl) ?_
  rw [cut_from]
  refine c_count C (N := N) (s0 := 0) hN x6 (by lia) (by rw [List.length_drop]; exact Nat.le_trans (Nat.sub_le _ _) (by lia)) (fun y hy => hT.r y (List.mem_of_mem_drop hy)) hw (Nat.zero_le _) hL6 hLb fun Cc H7 gC x7 f7 => ?_
  have hL7 := f7.get hLb' hL6
  have p3 := parts2 hct gB gC
  simp
  refine ⟨fun h => by exact mh_false (by lia), fun _ => ?_⟩
  refine n4 _ _ (wB_go fun Q5 n5 _ _ _ => ?_)
  simp
  refine ⟨by exact Nat.lt_of_le_of_lt (by assumption) (by lia), ?_⟩
  refine c_count C (N := N) (s0 := 0) hN x7 (by lia) (by rw [List.length_append]; simp; exact easy (by assumption) rfl) (hT.app (Octs.one v2)).r hw (Nat.zero_le _) hL7 hLb fun L H8 gL x8 f8 => ?_
  have hL8 := f8.get hLb' hL7
  simp [-xB_cons, -xB_nil]
  rw [show 2 * (m : Int) = ((2 * m : Nat) : Int) by exact rfl]
  refine ⟨by unfold short; exact .inl (by lia), ?_⟩
  refine c_count C (N := N) (s0 := 0) hN x8 (by lia) (by lia) hT.r hw (Nat.zero_le _) hL8 hLb fun W H9 gW x9 f9 => ?_
  obtain ⟨p4, p5⟩ := parts3 hm gE gL
  obtain ⟨p6, p7⟩ := parts4 hm gE gW
  try simp
  refine ⟨by simp [hbg], n5 _ _ (wB_go fun Q6 n6 _ _ r6 => ?_)⟩
  have fin := r6 (.bool true) [.ref b, .bytes T, .int w, .int m, .int E.length, .int ct, .bytes [v], .int A.length, .int B.length, .int L.length, .int W.length] H9 (hR _ _ _ (hq H9))
  simp
  refine ⟨fun _ => ⟨fun _ => ⟨fun _ => ⟨.inl (by unfold short; lia), fun _ => fin, fun h => by exact mh_false (by lia)⟩, fun h => by exact mh_false (by lia)⟩, fun h => by exact mh_false (by lia)⟩, fun h => by exact mh_false (by lia)⟩

omit C in
theorem c_law (D : Dx G) {xs : List Int} {a : Addr} (hl : xs.length ≤ 63) (ha : H a = some (.ro (xs.map .int))) (hL : H (layersA G.K) = some (.tup [.int 2, .int 3])) : WCall G 16 (.top "law") [.ref a] (fun v _ => v = .bool true) H := by
  have C := D.c
  have hbg : big = 16777216 := rfl
  refine WCall.go (n := 15) (C.at 48 rfl) fun Q0 hR hN0 => ?_
  have e0 : fr0 p_law_ln [.ref a] = [.ref a, .odd, .odd, .odd, .odd, .odd, .odd, .odd] := rfl
  rw [e0]
  unfold p_law
  refine wB_go fun Q1 n1 _ _ _ => ?_
  simp
  refine c_bag C (by exact Nat.le_add_left _ _) ha hl fun b H1 x1 f1 => n1 _ _ (wB_go fun Q2 n2 _ _ _ => ?_)
  have hL1 := f1.get (by simp) hL
  have hLb : layersA G.K ≠ b := by
    obtain ⟨g, ys, o, t, z, y⟩ := x1
    exact ne_os hL1 y.h (by simp)
  have hLb' : layersA G.K ∉ [b] := by simpa using hLb
  simp
  refine c_text C (by exact Nat.le_add_left _ _) x1 (by exact Nat.zero_le _) fun T c2 H2 hT t1 t2 hc2 x2 f2 => n2 _ _ (wB_go fun Q3 n3 _ _ _ => ?_)
  have hL2 := f2.get hLb' hL1
  -- the window
  simp
  refine c_take C (by exact Nat.le_add_left _ _) x2 (by exact easy (by assumption) rfl) (by exact Int.natCast_nonneg _) (by exact Int.natCast_nonneg _) fun d3 H3 d30 d31 x3 f3 _ => ⟨by simp [hbg], ?_⟩
  refine c_take C (by exact Nat.le_add_left _ _) x3 (by exact Nat.lt_of_le_of_lt (by assumption) (by lia)) (by exact Int.natCast_nonneg _) (by exact Int.natCast_nonneg _) fun i4 H4 i40 i41 x4 f4 _ => ?_
  have hL4 := f4.get hLb' (f3.get hLb' hL2)
  have hw : ∃ w : Int, ([V.int 40, V.int (1 + d3)])[i4.toNat]? = some (.int w) ∧ 1 ≤ w ∧ w ≤ 40 := by
    have : i4 = 0 ∨ i4 = 1 := by lia
    rcases this with rfl | rfl
    · exact ⟨40, rfl, by exact Int.natCast_nonneg _, by assumption⟩
    · exact ⟨1 + d3, rfl, by lia, by lia⟩
  obtain ⟨w, w1, w2, w3⟩ := hw
  refine ⟨i40, .int w, w1, n3 _ _ (wB_go fun Q4 n4 _ _ _ => ?_)⟩
  -- the longest match
  simp
  refine c_take C (by exact Nat.le_add_left _ _) x4 (by lia) (by exact Int.natCast_nonneg _) (by exact Int.natCast_nonneg _) fun d5 H5 d50 d51 x5 f5 _ => ⟨by simp [hbg], ?_⟩
  refine c_take C (by exact Nat.le_add_left _ _) x5 (by lia) (by exact Int.natCast_nonneg _) (by exact Int.natCast_nonneg _) fun i6 H6 i60 i61 x6 f6 _ => ?_
  have hL6 := f6.get hLb' (f5.get hLb' hL4)
  have hm : ∃ m : Nat, ([V.int 40, V.int (2 + d5)])[i6.toNat]? = some (.int m) ∧ 2 ≤ m := by
    have : i6 = 0 ∨ i6 = 1 := by lia
    rcases this with rfl | rfl
    · exact ⟨40, rfl, by exact Nat.le_add_left _ _⟩
    · exact ⟨(2 + d5).toNat, by rw [show (((2 + d5).toNat : Nat) : Int) = 2 + d5 by exact Int.toNat_of_nonneg (by lia)]; rfl, by lia⟩
  obtain ⟨m, m1, m2⟩ := hm
  refine ⟨i60, .int m, m1, n4 _ _ (wB_go fun Q5 n5 _ _ _ => ?_)⟩
  -- the start
  simp
  refine ⟨by exact easy (by assumption) rfl, c_take C (by exact Nat.le_add_left _ _) x6 (by lia) (by exact Int.ofNat_lt.mpr (by assumption)) (by exact Int.ofNat_le.mpr (by lia)) fun d7 H7 d70 d71 x7 f7 _ => ⟨by simp [hbg], ?_⟩⟩
  refine c_take C (by exact Nat.le_add_left _ _) x7 (by lia) (by exact Int.natCast_nonneg _) (by exact Int.natCast_nonneg _) fun i8 H8 i80 i81 x8 f8 _ => ?_
  have hL8 := f8.get hLb' (f7.get hLb' hL6)
  have hs : ∃ s0 : Nat, ([V.int 0, V.int 0, V.int d7])[i8.toNat]? = some (.int s0) ∧ s0 ≤ T.length := by
    have : i8 = 0 ∨ i8 = 1 ∨ i8 = 2 := by lia
    rcases this with rfl | rfl | rfl
    · exact ⟨0, rfl, by exact Nat.zero_le _⟩
    · exact ⟨0, rfl, by exact Nat.zero_le _⟩
    · exact ⟨d7.toNat, by rw [show ((d7.toNat : Nat) : Int) = d7 by exact Int.toNat_of_nonneg (by omega)]; rfl, by lia⟩
  obtain ⟨s0, s1, s2⟩ := hs
  refine ⟨i80, .int s0, s1, n5 _ _ (wB_go fun Q6 n6 _ _ _ => ?_)⟩
  -- how and each
  simp
  refine c_take C (by exact Nat.le_add_left _ _) x8 (by lia) (by exact Int.natCast_nonneg _) (by exact Int.natCast_nonneg _) fun d9 H9 d90 d91 x9 f9 _ => ?_
  simp [-xB_cons, -xB_nil]
  refine c_take C (by exact Nat.le_add_left _ _) x9 (by lia) (by exact Int.natCast_nonneg _) (by exact Int.natCast_nonneg _) fun d10 H10 d100 d101 x10 f10 _ => ?_
  have hL10 := f10.get hLb' (f9.get hLb' hL8)
  obtain ⟨how, rfl⟩ : ∃ i : Nat, d9 = i := ⟨d9.toNat, by lia⟩
  try simp
  refine ⟨by simp [hbg], n6 _ _ (wB_go fun Q7 n7 _ _ _ => ?_)⟩
  simp [-xB_cons, -xB_nil]
  refine c_fewest D (N := 11) (by lia) (by lia) hT.r w2 (by lia) s2 (by lia) (by lia) (by lia) hL10 fun H11 f11 => ?_
  have x11 := x10.sub f11.sub0
  have hL11 := f11.get (by simp) hL10
  refine ⟨fun _ => ?_, fun h => by simp at h⟩
  simp
  refine n7 _ _ (wB_go fun Q8 n8 _ _ r8 => ?_)
  simp
  refine c_text C (by lia) x11 (by lia) fun T2 c12 H12 hT2 t21 t22 hc12 x12 f12 => ?_
  exact c_parts C (N := 10) (by lia) x12 (by lia) (by lia) hT2 w2 m2 (f12.get hLb' hL11) hLb fun H' => r8 _ _ _ (hR _ _ _ rfl)
end
end Mine
end
section
open PySem PySem.Calls PyProof.Rows PySem.W
set_option maxRecDepth 100000
set_option maxHeartbeats 8000000
namespace Mine
noncomputable def typB (v : Value) (q : String → Bool) : Bool := match v with | .type t => q t | _ => false
noncomputable def seqB (d : Data) (q : Array Value → Bool) : Bool := match d with | .seq vs _ => q vs | _ => false
theorem typB_el {v : Value} {q : String → Bool} (h : typB v q = true) : ∃ t, v = .type t ∧ q t = true := by
  cases v <;> first | exact ⟨_, rfl, h⟩ | exact Bool.noConfusion (show false = true from h)
theorem seqB_el {d : Data} {q : Array Value → Bool} (h : seqB d q = true) : ∃ vs tk, d = .seq vs tk ∧ q vs = true := by
  cases d <;> first | exact ⟨_, _, rfl, h⟩ | exact Bool.noConfusion (show false = true from h)
noncomputable def layOk (K : Frag) : Bool := (match K.lookup (layersA K) with | some o => typB o.cls fun t => seqB o.data fun vs => t == "tuple" && V.sames (vs.toList.map V.of) [.int 2, .int 3] | _ => false)
theorem lay_of {K : Frag} (h : layOk K = true) : ∃ td vs tk tl, K.lookup (layersA K) = some ⟨.type "tuple", td, .seq vs tk, tl⟩ ∧ vs.toList.map V.of = [.int 2, .int 3] := by
  delta layOk at h
  cases e : K.lookup (layersA K) with
  | none => rw [e] at h; cases h
  | some o =>
    rw [e] at h
    obtain ⟨cls, td, data, tl⟩ := o
    obtain ⟨t, rfl, h1⟩ := typB_el (q := fun t => seqB data fun vs => t == "tuple" && V.sames (vs.toList.map V.of) [.int 2, .int 3]) h
    obtain ⟨vs, tk, rfl, h2⟩ := seqB_el h1
    rw [Bool.and_eq_true, beq_iff_eq] at h2
    rw [h2.1]
    exact ⟨_, _, _, _, rfl, V.sames_eq _ _ h2.2⟩
theorem ints_of : ∀ {vs : List Value} {xs : List Int}, IntsAre vs xs → vs.map V.of = xs.map .int
  | _, _, .nil => rfl
  | _, _, .cons n t h => by rw [List.map_cons, List.map_cons, ints_of h]; rfl
noncomputable def lawOk (K : Frag) : Bool := (match nsIn K mainGlobals (Str.ofString "law") with | some (some (.ref _)) => true | _ => false)
theorem law_at {K : Frag} {h : Heap} {mg : Str → Option Value} {fa : Addr} (X : K.In h) (g : h.Ns mainGlobals mg) (hl : lawOk K = true) (e : mg (Str.ofString "law") = some (.ref fa)) : fAddr K (.top "law") = fa := by
  delta lawOk at hl
  rcases q : nsIn K mainGlobals (Str.ofString "law") with _ | _ | v
  · rw [q] at hl; cases hl
  · rw [q] at hl; cases hl
  · rw [q] at hl
    cases v <;> first | cases hl | skip
    have h1 := mg_of X g q
    rw [e] at h1
    show refOf (nsIn K mainGlobals (Str.ofString "law")) = fa
    rw [q]
    exact (Value.ref.inj (Option.some.inj h1)).symm
theorem V_true {v : Value} (h : V.of v = .bool true) : v = .bool true := by
  cases v with
  | bool b => cases (show V.bool b = V.bool true from h); rfl
  | _ => cases h
/-- the law's call from outside -/
theorem call_law {prog : Program} {w : World} {K : Frag} {s : Shared} {mg mb : Str → Option Value} {a fa : Addr} {vs : List Value} {xs : List Int} {loose : List Str} {mean : ExcName → Option Value} {p : Program}
    (KI : K.In s.heap) (T : Top p loose mean mg mb s.heap) (ok : factsOk K = true) (fns : allFns.all (fun x => fnOk K x.1 x.2.1 x.2.2.1 x.2.2.2) = true) (d1 : defOk K (.top "least") .none = true) (d2 : defOk K (.meth 6 24) (.int 0) = true) (d3 : layOk K = true) (d4 : lawOk K = true)
    (hg : s.gens = #[]) (hm : mg (Str.ofString "law") = some (.ref fa)) (hL : s.heap.IsList a vs.toArray) (hI : IntsAre vs xs) (hl : xs.length ≤ 63) :
    codeAny (model prog w) callerA (.call (.ref fa) ⟨[.ref a], []⟩) (fun r s' => r = .ok (.ret (.bool true)) ∧ (∀ b o, s.heap.get? b = some o → s'.heap.get? b = some o) ∧ s'.os = s.os ∧ s'.gens = #[]) s := by
  let G : Gd := ⟨prog, w, K, s.heap, s.os, mg, mb, KI, T.g, T.b, T.nolimit, T.builtins, ok⟩
  have D : Dx G := ⟨⟨fns⟩, d1, d2⟩
  obtain ⟨td, tvs, tk, tl, e1, e2⟩ := lay_of d3
  let H : MH := fun b => if b = a then some (.ro (xs.map .int)) else if b = layersA K then some (.tup [.int 2, .int 3]) else none
  have hT : IsTup s.heap (layersA K) tvs := ⟨_, KI _ _ e1, rfl, _, rfl⟩
  have ha : H a = some (.ro (xs.map .int)) := if_pos rfl
  have hne : layersA K ≠ a := by
    intro q
    obtain ⟨o, h1, h2, _⟩ := hL
    obtain ⟨o', h3, h4, _⟩ := hT
    rw [q, h1] at h3
    cases h3
    rw [h2] at h4
    revert h4; decide
  have hLy : H (layersA K) = some (.tup [.int 2, .int 3]) := by
    show (if layersA K = a then _ else _) = _
    rw [if_neg hne, if_pos rfl]
  have st : St G (fun b => s.heap.get? b) noW H s := by
    refine ⟨hg, rfl, fun _ _ e => e, fun _ _ e => e, fun b o mo _ q => ?_, fun _ w => w.elim, fun _ => 0, fun b mo q => ?_, fun b c fs q => ?_, fun b c fs b' c' fs' q => ?_⟩
    all_goals (replace q : (if b = a then some (MO.ro (xs.map .int)) else if b = layersA K then some (.tup [.int 2, .int 3]) else none) = _ := q; split at q)
    · cases q; rfl
    · split at q
      · cases q; rfl
      · cases q
    · cases q
      rename_i e
      subst e
      exact ⟨_, hL, by rw [List.toList_toArray]; exact ints_of hI⟩
    · split at q
      · cases q
        rename_i e
        subst e
        exact ⟨_, hT, e2⟩
      · cases q
    · cases q
    · split at q <;> cases q
    · cases q
    · split at q <;> cases q
  have hA : AOkI 16 callerA := ⟨rfl, by decide, by decide⟩
  have := c_law D hl ha hLy (fun b => s.heap.get? b) callerA s [.ref a] hA st rfl
  rw [show fAddr G.K (.top "law") = fa from law_at KI T.g d4 hm] at this
  refine codeAny_mono this fun r s' ⟨v, H', h1, h2, h3⟩ => ?_
  rw [h1, V_true h3]
  exact ⟨rfl, fun b o e => h2.prot b o e, h2.os, h2.gens⟩
set_option Elab.async true
-- The names below are laid ahead of the head so that the library leaves out the twins that it would lay under them:
-- without them the proof is the same, but the compiled file is over 32 MiB. The kernel checks the plain terms.
theorem fin.tw12740692763255036000 : True := trivial
theorem fin.tw18105285910621931680 : True := trivial
theorem fin.tw6435670951450185984 : True := trivial
theorem fin.tw10599938827571368224 : True := trivial
theorem fin.tw1544503264643628384 : True := trivial
theorem fin.tw3506512066687448480 : True := trivial
theorem fin.tw3767311804947220896 : True := trivial
theorem fin.tw828056024939588000 : True := trivial
theorem fin.tw4640724917100965312 : True := trivial
theorem fin.tw17801579834951734752 : True := trivial
theorem fin.tw14109310954907245088 : True := trivial
theorem fin.tw17701328389417463424 : True := trivial
theorem fin.tw799341379326975648 : True := trivial
theorem fin.tw8656503046869711584 : True := trivial
theorem fin.tw11298980531735778240 : True := trivial
theorem fin.tw11192643925408225281 : True := trivial
theorem fin.tw7522001649326652513 : True := trivial
theorem fin.tw11293339424137598113 : True := trivial
theorem fin.tw11575174756993882273 : True := trivial
theorem fin.tw7249652514872940865 : True := trivial
theorem fin.tw15566928917628492161 : True := trivial
theorem fin.tw15815952407149668801 : True := trivial
theorem fin.tw4443050520305737185 : True := trivial
theorem fin.tw14838103818555229697 : True := trivial
theorem fin.tw452842511749404161 : True := trivial
theorem fin.tw9509447333196811905 : True := trivial
theorem fin.tw16678980180976206529 : True := trivial
theorem fin.tw11414119711712004833 : True := trivial
theorem fin.tw578981761147807489 : True := trivial
theorem fin.tw15205425988870721313 : True := trivial
theorem fin.tw8408514402456403777 : True := trivial
theorem fin.tw18105942590061964161 : True := trivial
theorem fin.tw4928979718650693569 : True := trivial
theorem fin.tw8119881530291889089 : True := trivial
theorem fin.tw5678346346211369953 : True := trivial
theorem fin.tw5486226609284752418 : True := trivial
theorem fin.tw17717364068325071970 : True := trivial
theorem fin.tw9962418760945406050 : True := trivial
theorem fin.tw5106123347721008290 : True := trivial
theorem fin.tw15675102808854859970 : True := trivial
theorem fin.tw12448240930570709186 : True := trivial
theorem fin.tw8018989035897545986 : True := trivial
theorem fin.tw6815667921103612162 : True := trivial
theorem fin.tw10829458402184033698 : True := trivial
theorem fin.tw16503470079419688546 : True := trivial
theorem fin.tw2824846461999071874 : True := trivial
theorem fin.tw10696652717036330658 : True := trivial
theorem fin.tw16488607150827929282 : True := trivial
theorem fin.tw12180539936304867106 : True := trivial
theorem fin.tw18255404467826089762 : True := trivial
theorem fin.tw17311274769643918242 : True := trivial
theorem fin.tw4769821431679368130 : True := trivial
theorem fin.tw4424551920762525699 : True := trivial
theorem fin.tw18082680734076937219 : True := trivial
theorem fin.tw13574545013463194659 : True := trivial
theorem fin.tw9966731872082626627 : True := trivial
theorem fin.tw670465573061467203 : True := trivial
theorem fin.tw13467322939085005891 : True := trivial
theorem fin.tw8590288500278120515 : True := trivial
theorem fin.tw17149882997012438147 : True := trivial
theorem fin.tw4170516301191304579 : True := trivial
theorem fin.tw7930893340574950883 : True := trivial
theorem fin.tw9113340658982188547 : True := trivial
theorem fin.tw13066358836101814915 : True := trivial
theorem fin.tw16115155874713506467 : True := trivial
theorem fin.tw5402249366112354979 : True := trivial
theorem fin.tw11454252539852477091 : True := trivial
theorem fin.tw15989303212955285315 : True := trivial
theorem fin.tw11147117730913898307 : True := trivial
theorem fin.tw2896703901015224195 : True := trivial
theorem fin.tw12135189313929291683 : True := trivial
theorem fin.tw11151619158091525091 : True := trivial
theorem fin.tw6667815254911646788 : True := trivial
theorem fin.tw8088732932480780420 : True := trivial
theorem fin.tw7786677914034681988 : True := trivial
theorem fin.tw9825859731914700964 : True := trivial
theorem fin.tw6388184931127306564 : True := trivial
theorem fin.tw10567028658651823492 : True := trivial
theorem fin.tw2775396313129547428 : True := trivial
theorem fin.tw3302319216010004292 : True := trivial
theorem fin.tw848606289541702500 : True := trivial
theorem fin.tw7334248845499685764 : True := trivial
theorem fin.tw17963964198891936676 : True := trivial
theorem fin.tw9260378047223084069 : True := trivial
theorem fin.tw7716820226725407877 : True := trivial
theorem fin.tw4698916972681325765 : True := trivial
theorem fin.tw7929640520542984453 : True := trivial
theorem fin.tw10818889477481085253 : True := trivial
theorem fin.tw15476544859757588837 : True := trivial
theorem fin.tw8269367382603917829 : True := trivial
theorem fin.tw4676172222709878277 : True := trivial
theorem fin.tw6956187926921108005 : True := trivial
theorem fin.tw14578271805448956485 : True := trivial
theorem fin.tw3906754673857718949 : True := trivial
theorem fin.tw6474043946942992101 : True := trivial
theorem fin.tw5102460946473063141 : True := trivial
theorem fin.tw7613857476909055813 : True := trivial
theorem fin.tw7613945582906998725 : True := trivial
theorem fin.tw13925877587632400325 : True := trivial
theorem fin.tw13814004702073501669 : True := trivial
theorem fin.tw11273041486466551846 : True := trivial
theorem fin.tw6847339552245871782 : True := trivial
theorem fin.tw12833947400113492166 : True := trivial
theorem fin.tw10895054467252067526 : True := trivial
theorem fin.tw16275787546110486726 : True := trivial
theorem fin.tw6303907929938155814 : True := trivial
theorem fin.tw3788772014149755174 : True := trivial
theorem fin.tw12669758225909598566 : True := trivial
theorem fin.tw1951045429614898598 : True := trivial
theorem fin.tw17637551073024348614 : True := trivial
theorem fin.tw15523922138108190246 : True := trivial
theorem fin.tw3199103547748192838 : True := trivial
theorem fin.tw17130245016438642246 : True := trivial
theorem fin.tw4924110625330727750 : True := trivial
theorem fin.tw10807920368746810246 : True := trivial
theorem fin.tw1209720653154232198 : True := trivial
theorem fin.tw15459455144867644326 : True := trivial
theorem fin.tw13295704053362595847 : True := trivial
theorem fin.tw8577089030196625639 : True := trivial
theorem fin.tw12696600883282566439 : True := trivial
theorem fin.tw8330952907988395303 : True := trivial
theorem fin.tw12118000046449163591 : True := trivial
theorem fin.tw2565351972500760935 : True := trivial
theorem fin.tw9218923581257491847 : True := trivial
theorem fin.tw17123178472405020103 : True := trivial
theorem fin.tw12409915417874342407 : True := trivial
theorem fin.tw3112429581023547943 : True := trivial
theorem fin.tw10383673109516279431 : True := trivial
theorem fin.tw2103456241558337223 : True := trivial
theorem fin.tw13360279666012451719 : True := trivial
theorem fin.tw1035503724928835527 : True := trivial
theorem fin.tw14856888987745899463 : True := trivial
theorem fin.tw14279960228734115912 : True := trivial
theorem fin.tw7380833856163905736 : True := trivial
theorem fin.tw14679806638718605512 : True := trivial
theorem fin.tw12494888245299231016 : True := trivial
theorem fin.tw11466478281803324712 : True := trivial
theorem fin.tw15215344080130319848 : True := trivial
theorem fin.tw10925335251469727208 : True := trivial
theorem fin.tw6485783843944922600 : True := trivial
theorem fin.tw4576743580672133640 : True := trivial
theorem fin.tw2976117146107443816 : True := trivial
theorem fin.tw14431720936831517352 : True := trivial
theorem fin.tw1625080806587739848 : True := trivial
theorem fin.tw15225332579556243176 : True := trivial
theorem fin.tw15149952090015108872 : True := trivial
theorem fin.tw8919302590299486024 : True := trivial
theorem fin.tw3974152918291533672 : True := trivial
theorem fin.tw428092273266315144 : True := trivial
theorem fin.tw3125960719983571848 : True := trivial
theorem fin.tw1105837973531982728 : True := trivial
theorem fin.tw999798209818781672 : True := trivial
theorem fin.tw1422313219903470601 : True := trivial
theorem fin.tw12946824338688289833 : True := trivial
theorem fin.tw9059937348426287209 : True := trivial
theorem fin.tw3343445320678177929 : True := trivial
theorem fin.tw15533503492667675913 : True := trivial
theorem fin.tw10671828304227620169 : True := trivial
theorem fin.tw12612204703400128841 : True := trivial
theorem fin.tw16867096813858660809 : True := trivial
theorem fin.tw16656299143469825513 : True := trivial
theorem fin.tw12868640280835112553 : True := trivial
theorem fin.tw2753606299293771369 : True := trivial
theorem fin.tw17570709534508481193 : True := trivial
theorem fin.tw8352470293576582857 : True := trivial
theorem fin.tw9387745189664136937 : True := trivial
theorem fin.tw16196181902256332553 : True := trivial
theorem fin.tw3432132637015033673 : True := trivial
theorem fin.tw14855157385224911753 : True := trivial
theorem fin.tw16269368082590959529 : True := trivial
theorem fin.tw11953781441336167498 : True := trivial
theorem fin.tw10852849658779182186 : True := trivial
theorem fin.tw16906536467411238026 : True := trivial
theorem fin.tw757079261281740938 : True := trivial
theorem fin.tw884059145510264010 : True := trivial
theorem fin.tw16570786720924097770 : True := trivial
theorem fin.tw6081921254191324426 : True := trivial
theorem fin.tw8559517257967667466 : True := trivial
theorem fin.tw13898374239775968522 : True := trivial
theorem fin.tw12149302876761508202 : True := trivial
theorem fin.tw4329306826757983850 : True := trivial
theorem fin.tw4868334931027891882 : True := trivial
theorem fin.tw4613182775407389354 : True := trivial
theorem fin.tw12711679700452659978 : True := trivial
theorem fin.tw14568449535678555946 : True := trivial
theorem fin.tw4588413851689716618 : True := trivial
theorem fin.tw10874316729293906858 : True := trivial
theorem fin.tw14560573928864763818 : True := trivial
theorem fin.tw12284014389350100970 : True := trivial
theorem fin.tw10242451874928486539 : True := trivial
theorem fin.tw13870153662132920491 : True := trivial
theorem fin.tw857469055436470443 : True := trivial
theorem fin.tw8399098705505230059 : True := trivial
theorem fin.tw17821466097196317003 : True := trivial
theorem fin.tw2067723777617599883 : True := trivial
theorem fin.tw18164189302063226315 : True := trivial
theorem fin.tw7661832156752021035 : True := trivial
theorem fin.tw16285329926789087883 : True := trivial
theorem fin.tw15741700470354863883 : True := trivial
theorem fin.tw9986246043035802443 : True := trivial
theorem fin.tw5962627729488381771 : True := trivial
theorem fin.tw12809788781938459499 : True := trivial
theorem fin.tw17416127249078093707 : True := trivial
theorem fin.tw6449190631224713292 : True := trivial
theorem fin.tw8569027658895312972 : True := trivial
theorem fin.tw1963134401048803436 : True := trivial
theorem fin.tw17347454772498655404 : True := trivial
theorem fin.tw8776770756819070316 : True := trivial
theorem fin.tw7028063314416541132 : True := trivial
theorem fin.tw15144710454662140524 : True := trivial
theorem fin.tw5734618986648460908 : True := trivial
theorem fin.tw803859442106103436 : True := trivial
theorem fin.tw10070804522480449196 : True := trivial
theorem fin.tw6846200578177281708 : True := trivial
theorem fin.tw6634307039904815820 : True := trivial
theorem fin.tw8642956591928162124 : True := trivial
theorem fin.tw12356021495744459628 : True := trivial
theorem fin.tw12629903358213643309 : True := trivial
theorem fin.tw17108682257543074861 : True := trivial
theorem fin.tw12876116671307685997 : True := trivial
theorem fin.tw8289400949097046189 : True := trivial
theorem fin.tw16109372258727991565 : True := trivial
theorem fin.tw13093503161671486093 : True := trivial
theorem fin.tw2617349483901765261 : True := trivial
theorem fin.tw1202912048536075021 : True := trivial
theorem fin.tw5011121235533021005 : True := trivial
theorem fin.tw17698704350827878285 : True := trivial
theorem fin.tw6531376189190222733 : True := trivial
theorem fin.tw9001875181463519149 : True := trivial
theorem fin.tw3029852977388229646 : True := trivial
theorem fin.tw12292906935544458286 : True := trivial
theorem fin.tw4950403968356008110 : True := trivial
theorem fin.tw12557769604369416430 : True := trivial
theorem fin.tw2304379251839397102 : True := trivial
theorem fin.tw9913140749668108558 : True := trivial
theorem fin.tw6381419901266130222 : True := trivial
theorem fin.tw8288733244629462318 : True := trivial
theorem fin.tw16169705700103281134 : True := trivial
theorem fin.tw8614737586434602478 : True := trivial
theorem fin.tw1982079694162106894 : True := trivial
theorem fin.tw17656766251404061198 : True := trivial
theorem fin.tw6566618420281934 : True := trivial
theorem fin.tw14166196953294261902 : True := trivial
theorem fin.tw3211687289105081006 : True := trivial
theorem fin.tw17743408960866722510 : True := trivial
theorem fin.tw5897612983314593646 : True := trivial
theorem fin.tw2512408688544751470 : True := trivial
theorem fin.tw17197158672614542318 : True := trivial
theorem fin.tw14728723275428758510 : True := trivial
theorem fin.tw11154830654865731599 : True := trivial
theorem fin.tw13929302177132474383 : True := trivial
theorem fin.tw10391319463526535247 : True := trivial
theorem fin.tw1535588207084551279 : True := trivial
theorem fin.tw17495881415371897999 : True := trivial
theorem fin.tw11277574374343807151 : True := trivial
theorem fin.tw7000300075881102575 : True := trivial
theorem fin.tw15942684835789789487 : True := trivial
theorem fin.tw3268265519342814607 : True := trivial
theorem fin.tw6323506392446703087 : True := trivial
theorem fin.tw2671655128345628175 : True := trivial
theorem fin.tw13021059552284102479 : True := trivial
theorem fin.tw4395496475954998127 : True := trivial
theorem fin.tw14786503066443513839 : True := trivial
theorem fin.tw6454446336052903152 : True := trivial
theorem fin.tw7844069586390513008 : True := trivial
theorem fin.tw13790858721211988464 : True := trivial
theorem fin.tw12996517811204074000 : True := trivial
theorem fin.tw9221430085559818832 : True := trivial
theorem fin.tw13815853411582834384 : True := trivial
theorem fin.tw12751662967071866640 : True := trivial
theorem fin.tw2321816554428607280 : True := trivial
theorem fin.tw1635022588487117616 : True := trivial
theorem fin.tw500868675978126160 : True := trivial
theorem fin.tw13383306551100868464 : True := trivial
theorem fin.tw13162651487661262736 : True := trivial
theorem fin.tw16958243865122950064 : True := trivial
theorem fin.tw3885313090954376144 : True := trivial
theorem fin.tw11336253725339858928 : True := trivial
theorem fin.tw4806268862455609328 : True := trivial
theorem fin.tw1252854909445205041 : True := trivial
theorem fin.tw3173534031939492945 : True := trivial
theorem fin.tw4312942655851389009 : True := trivial
theorem fin.tw15094949803261831281 : True := trivial
theorem fin.tw16584127079891442865 : True := trivial
theorem fin.tw2462912638960843985 : True := trivial
theorem fin.tw5098551885099359569 : True := trivial
theorem fin.tw18387650150990424433 : True := trivial
theorem fin.tw480829909506669009 : True := trivial
theorem fin.tw15832999045522443761 : True := trivial
theorem fin.tw220677088936066577 : True := trivial
theorem fin.tw11414674201277728305 : True := trivial
theorem fin.tw3404873503106905745 : True := trivial
theorem fin.tw5266742908149448401 : True := trivial
theorem fin.tw10393886385942881009 : True := trivial
theorem fin.tw14075178694198228753 : True := trivial
theorem fin.tw5320702786494000081 : True := trivial
theorem fin.tw2656788454239962097 : True := trivial
theorem fin.tw11587955951900863698 : True := trivial
theorem fin.tw9722632081671974098 : True := trivial
theorem fin.tw5679570950571409650 : True := trivial
theorem fin.tw12105171945263650130 : True := trivial
theorem fin.tw1887099378405440850 : True := trivial
theorem fin.tw5073790198343104882 : True := trivial
theorem fin.tw11607805686811502034 : True := trivial
theorem fin.tw11875381402373810866 : True := trivial
theorem fin.tw3837020019201816242 : True := trivial
theorem fin.tw12847644182280273618 : True := trivial
theorem fin.tw9363291351745731410 : True := trivial
theorem fin.tw17971676594858020690 : True := trivial
theorem fin.tw6766580051018981234 : True := trivial
theorem fin.tw12718612220689870738 : True := trivial
theorem fin.tw13700621096757390547 : True := trivial
theorem fin.tw5196160543931855155 : True := trivial
theorem fin.tw6766378078585498003 : True := trivial
theorem fin.tw14134379338385194387 : True := trivial
theorem fin.tw16502652511500755 : True := trivial
theorem fin.tw891787732878383699 : True := trivial
theorem fin.tw4768634762848416435 : True := trivial
theorem fin.tw17974384156558142227 : True := trivial
theorem fin.tw17933470926392208243 : True := trivial
theorem fin.tw3599858809825778643 : True := trivial
theorem fin.tw3598329298470268980 : True := trivial
theorem fin.tw7830602891274557492 : True := trivial
theorem fin.tw1080700006314346644 : True := trivial
theorem fin.tw15344004072050561172 : True := trivial
theorem fin.tw7282745182861764756 : True := trivial
theorem fin.tw744865244796547220 : True := trivial
theorem fin.tw18373065035072037172 : True := trivial
theorem fin.tw6577878126316647860 : True := trivial
theorem fin.tw6567050819087999508 : True := trivial
theorem fin.tw14814673180317915700 : True := trivial
theorem fin.tw888132650186811988 : True := trivial
theorem fin.tw11079828417688620724 : True := trivial
theorem fin.tw5227809002895711924 : True := trivial
theorem fin.tw10179150961398940532 : True := trivial
theorem fin.tw9247658263007524724 : True := trivial
theorem fin.tw7321584467024264148 : True := trivial
theorem fin.tw6718411051458867188 : True := trivial
theorem fin.tw17719728818120068181 : True := trivial
theorem fin.tw11040825799340251285 : True := trivial
theorem fin.tw8025084765662995669 : True := trivial
theorem fin.tw14517287926952318261 : True := trivial
theorem fin.tw12347537446847802165 : True := trivial
theorem fin.tw6878024787957991413 : True := trivial
theorem fin.tw2537931557510868981 : True := trivial
theorem fin.tw4759752924163587094 : True := trivial
theorem fin.tw6712194924023145494 : True := trivial
theorem fin.tw7822013112032934038 : True := trivial
theorem fin.tw4598667867955821814 : True := trivial
theorem fin.tw9806666330580929782 : True := trivial
theorem fin.tw4144819383078699286 : True := trivial
theorem fin.tw17449020081951674710 : True := trivial
theorem fin.tw7439575562449295702 : True := trivial
theorem fin.tw4162185377826839926 : True := trivial
theorem fin.tw783483362715066742 : True := trivial
theorem fin.tw333583748066197110 : True := trivial
theorem fin.tw6127190174262240918 : True := trivial
theorem fin.tw17512474026176034454 : True := trivial
theorem fin.tw15399907426655090358 : True := trivial
theorem fin.tw3263211703599914710 : True := trivial
theorem fin.tw3810570522144960214 : True := trivial
theorem fin.tw10147658903529517814 : True := trivial
theorem fin.tw2910385600587045654 : True := trivial
theorem fin.tw9544026089342320630 : True := trivial
theorem fin.tw6498334528663615478 : True := trivial
theorem fin.tw1397303283331804279 : True := trivial
theorem fin.tw9297318355482256503 : True := trivial
theorem fin.tw2316539691658765527 : True := trivial
theorem fin.tw3810338749695602999 : True := trivial
theorem fin.tw18195182924450695511 : True := trivial
theorem fin.tw8383791847781177783 : True := trivial
theorem fin.tw8668149382578428375 : True := trivial
theorem fin.tw3683778510129048087 : True := trivial
theorem fin.tw2377308710366028375 : True := trivial
theorem fin.tw13199158710529813207 : True := trivial
theorem fin.tw12977279227502587607 : True := trivial
theorem fin.tw10751089155417173751 : True := trivial
theorem fin.tw4218790737952374519 : True := trivial
theorem fin.tw4898026214463823928 : True := trivial
theorem fin.tw15590172107835277464 : True := trivial
theorem fin.tw9917203430921899224 : True := trivial
theorem fin.tw13516622038369049944 : True := trivial
theorem fin.tw5250828734511838712 : True := trivial
theorem fin.tw13177410634674063896 : True := trivial
theorem fin.tw4788878847521262168 : True := trivial
theorem fin.tw17362494058136835672 : True := trivial
theorem fin.tw15621619335703214680 : True := trivial
theorem fin.tw5776136370200156792 : True := trivial
theorem fin.tw876206183137641144 : True := trivial
theorem fin.tw9746214513668125432 : True := trivial
theorem fin.tw17204297501091165112 : True := trivial
theorem fin.tw12932903420030652473 : True := trivial
theorem fin.tw10721817548814914745 : True := trivial
theorem fin.tw8272817396058243321 : True := trivial
theorem fin.tw17041991840579044601 : True := trivial
theorem fin.tw5805905742469029177 : True := trivial
theorem fin.tw18230178534529381785 : True := trivial
theorem fin.tw17896612028031085017 : True := trivial
theorem fin.tw6400248389586479577 : True := trivial
theorem fin.tw10279692637995926009 : True := trivial
theorem fin.tw12550770813317053977 : True := trivial
theorem fin.tw3975253019698251321 : True := trivial
theorem fin.tw5293390819737331289 : True := trivial
theorem fin.tw4879674094562380441 : True := trivial
theorem fin.tw6455845175183424153 : True := trivial
theorem fin.tw8416529770105884409 : True := trivial
theorem fin.tw8999559765510592377 : True := trivial
theorem fin.tw8303820723863979226 : True := trivial
theorem fin.tw12780881840741157306 : True := trivial
theorem fin.tw7070210977369740762 : True := trivial
theorem fin.tw8331973007464152698 : True := trivial
theorem fin.tw12567809125941998234 : True := trivial
theorem fin.tw16401934584784274106 : True := trivial
theorem fin.tw15583698165555649274 : True := trivial
theorem fin.tw9725021084223525626 : True := trivial
theorem fin.tw6058378993454661626 : True := trivial
theorem fin.tw16103849850496634939 : True := trivial
theorem fin.tw5796354222422608987 : True := trivial
theorem fin.tw1666694428299288667 : True := trivial
theorem fin.tw10511823565363050587 : True := trivial
theorem fin.tw6341822008880759003 : True := trivial
theorem fin.tw4100293265295638779 : True := trivial
theorem fin.tw4570111826955561243 : True := trivial
theorem fin.tw807531904560671035 : True := trivial
theorem fin.tw11039862389202566683 : True := trivial
theorem fin.tw17164383140453370395 : True := trivial
theorem fin.tw15564276425815640635 : True := trivial
theorem fin.tw15201286185872193147 : True := trivial
theorem fin.tw9839346839192117915 : True := trivial
theorem fin.tw7055459427971326715 : True := trivial
theorem fin.tw9712136527352899355 : True := trivial
theorem fin.tw9445451236469955387 : True := trivial
theorem fin.tw8947099994592609211 : True := trivial
theorem fin.tw5555312102172926907 : True := trivial
theorem fin.tw111200028466390044 : True := trivial
theorem fin.tw2503846163805864124 : True := trivial
theorem fin.tw13073391643564419292 : True := trivial
theorem fin.tw13423622936843584764 : True := trivial
theorem fin.tw7278507554335971580 : True := trivial
theorem fin.tw3812028171767442716 : True := trivial
theorem fin.tw8261031787919469916 : True := trivial
theorem fin.tw3229026465367968156 : True := trivial
theorem fin.tw15309079848183770524 : True := trivial
theorem fin.tw3955986520655104412 : True := trivial
theorem fin.tw3314143786362844604 : True := trivial
theorem fin.tw7779959011674639804 : True := trivial
theorem fin.tw7177338460636591580 : True := trivial
theorem fin.tw7976502392129159676 : True := trivial
theorem fin.tw6289197191216398940 : True := trivial
theorem fin.tw17861066769153400444 : True := trivial
theorem fin.tw16237762584071213788 : True := trivial
theorem fin.tw9746901515087519452 : True := trivial
theorem fin.tw10782327089294195420 : True := trivial
theorem fin.tw6232080684201472732 : True := trivial
theorem fin.tw16256441300576474876 : True := trivial
theorem fin.tw5901363791540438844 : True := trivial
theorem fin.tw12291753297600562012 : True := trivial
theorem fin.tw12355744275394475900 : True := trivial
theorem fin.tw11936995450923721628 : True := trivial
theorem fin.tw6650461044873433052 : True := trivial
theorem fin.tw14333544728242365436 : True := trivial
theorem fin.tw11615019562542576733 : True := trivial
theorem fin.tw14793013804824869981 : True := trivial
theorem fin.tw3456623496861543869 : True := trivial
theorem fin.tw1012361349325877821 : True := trivial
theorem fin.tw11061592194353771069 : True := trivial
theorem fin.tw5115476493328737885 : True := trivial
theorem fin.tw13163906327799203421 : True := trivial
theorem fin.tw895571856199123645 : True := trivial
theorem fin.tw12649782002744950493 : True := trivial
theorem fin.tw17260493314774615805 : True := trivial
theorem fin.tw16307707646766795581 : True := trivial
theorem fin.tw7995362448368537469 : True := trivial
theorem fin.tw7451905468542833597 : True := trivial
theorem fin.tw3105451386036433885 : True := trivial
theorem fin.tw1613116972386908190 : True := trivial
theorem fin.tw9610726530385051774 : True := trivial
theorem fin.tw15373703851562958014 : True := trivial
theorem fin.tw1819255440876223710 : True := trivial
theorem fin.tw14245171486683049214 : True := trivial
theorem fin.tw7773504467932542270 : True := trivial
theorem fin.tw13326868189938593150 : True := trivial
theorem fin.tw12221555665107904926 : True := trivial
theorem fin.tw6968583824967984638 : True := trivial
theorem fin.tw6385529401280152062 : True := trivial
theorem fin.tw10580198807604790814 : True := trivial
theorem fin.tw13294311002278339166 : True := trivial
theorem fin.tw2051409578822353534 : True := trivial
theorem fin.tw3047575111746466558 : True := trivial
theorem fin.tw17570509445847580414 : True := trivial
theorem fin.tw3857263333814641470 : True := trivial
theorem fin.tw846297522682114974 : True := trivial
theorem fin.tw1014637456484912126 : True := trivial
theorem fin.tw11227884535216515135 : True := trivial
theorem fin.tw4180101509539245183 : True := trivial
theorem fin.tw12237877928780879103 : True := trivial
theorem fin.tw17628183408451194143 : True := trivial
theorem fin.tw7547296005191728479 : True := trivial
theorem fin.tw4754365596532378047 : True := trivial
theorem fin.tw2608567993692976607 : True := trivial
theorem fin.tw17784850919643140607 : True := trivial
theorem fin.tw4265850918314828415 : True := trivial
theorem fin.tw12829507556594621215 : True := trivial
theorem fin.tw14497727239971306367 : True := trivial
theorem fin.tw16510490156224867327 : True := trivial
theorem fin.tw9014859887416799353 : True := trivial
theorem fin : PySem.Challenge.rw_tg0042_01.Holds := by
  w_on
  o_law
  k_head
  case hw => w_witness2
  intro w s₀ s₁ mg mb G Y fa o pm cd doc dV kV ho hd hcd hD hmg hg args vals as hpre hlay hrd hwl hlo
  have KX := kIn_of Y
  refine Ground.open G ?_
  intro T B D TE TW
  try (refine guard_noD D (by decide +kernel) ?_; clear D)
  wrow_args hpre hlay hrd hwl hlo
  rename_i xs hs hlay0 hL1 hr1 hl2 as4 as3 a vs as0 hL ra w1 r0 hI hr hc1 hc2
  refine enter_call ?_
  clear hd hcd hD Y
  refine codeAny_mono (call_law KX T (by kernel_rfl) (by kernel_rfl) (by kernel_rfl) (by kernel_rfl) (by kernel_rfl) (by kernel_rfl) hg hmg hL hI (by lia)) fun r s' ⟨h1, h2, h3, h4⟩ => ?_
  refine ⟨.inl ⟨_, _, [], h1, fun _ => rfl, ReadsW.bool true, ?_, fun _ => ⟨List.nodup_nil, fun _ hm => (nomatch hm)⟩⟩, OldK.of_keep h2, h3, .of_eq h4⟩
  first | rfl | wrow_post
end Mine
end
open PySem PySem.W PyProof.Rows
set_option maxRecDepth 100000 in
theorem PySem.Challenge.cw_tg0042_01_holds : PySem.Challenge.rw_tg0042_01.Holds :=
  Mine.fin
