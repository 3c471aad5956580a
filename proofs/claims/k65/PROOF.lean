import PyProof.Rows.All
import Wide.All
import OpenK.AllK
import Wide.FinOn
import HandS.ForMost
import HandS.ForExc
import HandS.Defaults
import HandS.MakeKw
import HandS.MakeKwOnly
import HandS.HeadHook2
import HandS.Head2
import HandS.HeadEnd
import HandS.CallLocal
import HandS.Lambda
import HandS.Property
import HandS.TryMany
import HandS.ExcSuper
import HandS.Style
import HandS.SortOrd
import HandS.TupAny
import HandS.SetBool
import HandS.IsInst
import HandS.Deep
import KE.KExcSuper
import PyProof.ExcBaseAll.LookupError
import PyProof.ExcBaseAll.Exception
import HandS.HeadWalk
import HandS.ExcValue
import HandS.ExcIs
import HandS.ExcField
import HandS.RaiseMore
import PyProof.ReprRoads
import KE.SortData
import HandS.Small
import HandS.Codes
import PySem.Challenge.RW_rueless_k65_least_sets_that_meet
set_option Elab.async false
set_option linter.all false
set_option maxRecDepth 100000
set_option maxHeartbeats 2000000
/-! Z.base: data, owned data, the heap beneath, footprints -/
namespace Z
open PySem L2

/-- what does not change: plain data -/
inductive D where
  | non | bl (b : Bool) | int (i : Int) | str (s : Str)
  | tup (ds : List D) | lst (ds : List D)
  | dct (kvs : List (Key × D)) | dcT (kvs : List (List Key × D))
  | obj (c : Nat) (fs : List (Str × D))
  | fn (n : Nat) | ty (n : String)
  | ctp (ds : List D) -- a tuple of the written part
  | cl (k : Nat) -- an own class
  | exn (c : Nat) (fs : List (Str × D)) -- an own exception that was caught
/-- what one def owns: it may change it -/
inductive O where
  | val (d : D)
  | lst (os : List O)
  | dct (kvs : List (Key × O))
  | dcT (kvs : List (List Key × O))
  | obj (c : Nat) (fs : List (Str × O))

/-- a text that one may have -/
def sOk (s : Str) : Bool := decide (s.length ≤ sizeLine) && PyData.strOk s
/-- the written part, the addresses of classes and defs -/
structure Cf where
  K : PySem.W.Frag
  cls : Nat → Addr
  fn : Nat → Addr

/-- a dict that is locked, or not -/
def isDict : HO → Bool
  | .dK _ => true
  | .dT _ => true
  | _ => false
def Lk (u o : HO) : Prop := o = u ∨ ∃ ob, o = .frz ob u
def Sm (o o' : HO) : Prop := o = o' ∨ ∃ u, isDict u = true ∧ Lk u o ∧ Lk u o'
/-- all of W is to be read in H -/
def Le (W H : Hp) : Prop := ∀ a o, W a = some o → ∃ o', H a = some o' ∧ Sm o o'
theorem Sm.refl (o : HO) : Sm o o := .inl rfl
theorem Le.refl (H : Hp) : Le H H := fun a o h => ⟨o, h, .refl o⟩
theorem Le.of_same {W H : Hp} (s : Same W H) : Le W H := fun a o h => ⟨o, s a o h, .refl o⟩
theorem Lk.plain {u u' o : HO} (h : isDict u = true) (h' : isDict u' = true) (a : Lk u o) (b : Lk u' o) : u = u' := by
  rcases a with rfl | ⟨ob, rfl⟩
  · rcases b with b | ⟨ob, b⟩
    · exact b
    · rw [b] at h; exact absurd (show false = true from h) Bool.false_ne_true
  · rcases b with b | ⟨ob', b⟩
    · rw [← b] at h'; exact absurd (show false = true from h') Bool.false_ne_true
    · injection b
theorem Sm.trans {o o' o'' : HO} (a : Sm o o') (b : Sm o' o'') : Sm o o'' := by
  rcases a with rfl | ⟨u, hu, l1, l2⟩
  · exact b
  · rcases b with rfl | ⟨u', hu', l3, l4⟩
    · exact .inr ⟨u, hu, l1, l2⟩
    · have := Lk.plain hu hu' l2 l3
      subst this
      exact .inr ⟨u, hu, l1, l4⟩
theorem Le.trans {A B C : Hp} (a : Le A B) (b : Le B C) : Le A C := fun x o h =>
  let ⟨o', h', s⟩ := a x o h
  let ⟨o'', h'', s'⟩ := b x o' h'
  ⟨o'', h'', s.trans s'⟩
theorem Le.free {W H : Hp} (e : Le W H) {a : Addr} (h : H a = none) : W a = none := by
  cases q : W a with
  | none => rfl
  | some o =>
    obtain ⟨o', h', _⟩ := e a o q
    rw [h] at h'; cases h'
theorem Le.there {W H : Hp} (e : Le W H) {a : Addr} {o : HO} (h : W a = some o) : H a ≠ none := fun z => by
  rw [e.free z] at h; cases h
theorem Same.free' {W H : Hp} (e : Same W H) {a : Addr} (h : H a = none) : W a = none := (Le.of_same e).free h
theorem Le.get {W H : Hp} (e : Le W H) {a : Addr} {o : HO} (h : W a = some o) (hn : ∀ u, isDict u = true → ¬ Lk u o) : H a = some o := by
  obtain ⟨o', h', s⟩ := e a o h
  rcases s with rfl | ⟨u, hu, l, _⟩
  · exact h'
  · exact absurd l (hn u hu)
theorem Le.rd {W H : Hp} (e : Le W H) {a : Addr} {u : HO} (h : Rd W a u) (hu : ∀ ob v, u ≠ .frz ob v) : Rd H a u := by
  rcases h with h | ⟨ob, h⟩
  · obtain ⟨o', h', s⟩ := e a _ h
    rcases s with rfl | ⟨v, hv, l, l'⟩
    · exact .inl h'
    · have : u = v := by
        rcases l with l | ⟨ob, l⟩
        · exact l
        · exact absurd l (hu _ _)
      subst this
      rcases l' with rfl | ⟨ob, rfl⟩
      · exact .inl h'
      · exact .inr ⟨ob, h'⟩
  · obtain ⟨o', h', s⟩ := e a _ h
    rcases s with rfl | ⟨v, hv, l, l'⟩
    · exact .inr ⟨ob, h'⟩
    · have : u = v := by
        rcases l with l | ⟨ob', l⟩
        · rw [← l] at hv; exact absurd (show false = true from hv) Bool.false_ne_true
        · injection l
      subst this
      rcases l' with rfl | ⟨ob, rfl⟩
      · exact .inl h'
      · exact .inr ⟨ob, h'⟩
theorem Le.sqL {K : PySem.W.Frag} {W H : Hp} (e : Le W H) {a : Addr} {xs : List V} (h : SqL K W a xs) : SqL K H a xs := by
  rcases h with h | h
  · exact .inl (e.rd h fun _ _ z => nomatch z)
  · exact .inr h
theorem Le.sqT {K : PySem.W.Frag} {W H : Hp} (e : Le W H) {a : Addr} {xs : List V} (h : SqT K W a xs) : SqT K H a xs := by
  rcases h with h | h
  · exact .inl (e.rd h fun _ _ z => nomatch z)
  · exact .inr h

/-- W may grow by an address that it lacks -/
theorem same_upd {W : Hp} {p : Addr} {o : HO} (h : W p = none) : Same W (upd W p o) := fun a u e => by
  rw [upd_ne (ne_of_none e h)]; exact e
theorem le_upd {W H : Hp} {p : Addr} {o : HO} (e : Le W H) (h : W p = none) : Le W (upd H p o) := fun a u q => by
  rw [upd_ne (ne_of_none q h)]; exact e a u q
theorem le_upd2 {W H : Hp} {p : Addr} {o : HO} (e : Le W H) : Le (upd W p o) (upd H p o) := fun a u q => by
  by_cases h : a = p
  · subst h
    rw [upd_same] at q ⊢
    exact ⟨_, rfl, by cases q; exact .refl _⟩
  · rw [upd_ne h] at q ⊢
    exact e a u q

/-- an exception's object -/
def ExH (cls : Value) (d a : Addr) : HO := .ext fun h => ∃ (oe : Obj) (vs : Array Value), h.get? a = some oe ∧ oe.cls = cls ∧ oe.dict = some d ∧ oe.data = .fields vs
section
variable (c : Cf) (W : Hp)
mutual
/-- the value v is the data d, in what never changes -/
inductive Dat : V → D → Prop
  | non : Dat .non .non
  | bl (b : Bool) : Dat (.bl b) (.bl b)
  | int (i : Int) : Dat (.int i) (.int i)
  | str (s : Str) (h : sOk s = true) : Dat (.str s) (.str s)
  | tup {a : Addr} {vs : List V} {ds : List D} : W a = some (.tup vs) → DatL vs ds → Dat (.ref a) (.tup ds)
  | ctp {a : Addr} {vs : List V} {ds : List D} : SqT c.K W a vs → DatL vs ds → Dat (.ref a) (.ctp ds)
  | lst {a : Addr} {vs : List V} {ds : List D} : SqL c.K W a vs → DatL vs ds → Dat (.ref a) (.lst ds)
  | dct {a : Addr} {kvs : List (Key × V)} {ds : List (Key × D)} : Rd W a (.dK kvs) → kvs.map (·.1) = ds.map (·.1) → DatL (kvs.map (·.2)) (ds.map (·.2)) → Dat (.ref a) (.dct ds)
  | dcT {a : Addr} {kvs : List (List Key × V)} {ds : List (List Key × D)} : Rd W a (.dT kvs) → kvs.map (·.1) = ds.map (·.1) → DatL (kvs.map (·.2)) (ds.map (·.2)) → Dat (.ref a) (.dcT ds)
  | obj {a dx : Addr} {k : Nat} {fs : List (Str × V)} {ds : List (Str × D)} : W a = some (.ins (c.cls k) dx fs) → fs.map (·.1) = ds.map (·.1) → DatL (fs.map (·.2)) (ds.map (·.2)) → Dat (.ref a) (.obj k ds)
  | fn (n : Nat) : Dat (.ref (c.fn n)) (.fn n)
  | ty (n : String) : Dat (.ty n) (.ty n)
  | cl (k : Nat) : Dat (.ref (c.cls k)) (.cl k)
  | exn {a d : Addr} {k : Nat} {fs : List (Str × V)} {ds : List (Str × D)} : W a = some (ExH (.ref (c.cls k)) d a) → W d = some (.xd fs) → fs.map (·.1) = ds.map (·.1) → DatL (fs.map (·.2)) (ds.map (·.2)) → Dat (.ref a) (.exn k ds)
inductive DatL : List V → List D → Prop
  | nil : DatL [] []
  | cons {v : V} {vs : List V} {d : D} {ds : List D} : Dat v d → DatL vs ds → DatL (v :: vs) (d :: ds)
end
end

section
variable {c : Cf} {W W' : Hp}
theorem Le.ins {H : Hp} (e : Le W H) {a C dx : Addr} {fs : List (Str × V)} (h : W a = some (.ins C dx fs)) : H a = some (.ins C dx fs) :=
  e.get h fun u hu l => by
    rcases l with l | ⟨ob, l⟩
    · rw [← l] at hu; exact absurd (show false = true from hu) Bool.false_ne_true
    · cases l
theorem Le.tup {H : Hp} (e : Le W H) {a : Addr} {xs : List V} (h : W a = some (.tup xs)) : H a = some (.tup xs) :=
  e.get h fun u hu l => by
    rcases l with l | ⟨ob, l⟩
    · rw [← l] at hu; exact absurd (show false = true from hu) Bool.false_ne_true
    · cases l
theorem Le.ext {H : Hp} (e : Le W H) {a : Addr} {φ : Heap → Prop} (h : W a = some (.ext φ)) : H a = some (.ext φ) :=
  e.get h fun u hu l => by
    rcases l with l | ⟨ob, l⟩
    · rw [← l] at hu; exact absurd (show false = true from hu) Bool.false_ne_true
    · cases l
theorem Le.xd {H : Hp} (e : Le W H) {a : Addr} {fs : List (Str × V)} (h : W a = some (.xd fs)) : H a = some (.xd fs) :=
  e.get h fun u hu l => by
    rcases l with l | ⟨ob, l⟩
    · rw [← l] at hu; exact absurd (show false = true from hu) Bool.false_ne_true
    · cases l
mutual
theorem Dat.mono (e : Le W W') : ∀ {v : V} {d : D}, Dat c W v d → Dat c W' v d
  | _, _, .non => .non
  | _, _, .bl b => .bl b
  | _, _, .int i => .int i
  | _, _, .str s h => .str s h
  | _, _, .tup h k => .tup (e.tup h) (DatL.mono e k)
  | _, _, .ctp h k => .ctp (e.sqT h) (DatL.mono e k)
  | _, _, .lst h k => .lst (e.sqL h) (DatL.mono e k)
  | _, _, .dct h n k => .dct (e.rd h fun _ _ z => nomatch z) n (DatL.mono e k)
  | _, _, .dcT h n k => .dcT (e.rd h fun _ _ z => nomatch z) n (DatL.mono e k)
  | _, _, .obj h n k => .obj (e.ins h) n (DatL.mono e k)
  | _, _, .fn n => .fn n
  | _, _, .ty n => .ty n
  | _, _, .cl n => .cl n
  | _, _, .exn h h2 n k => .exn (e.ext h) (e.xd h2) n (DatL.mono e k)
theorem DatL.mono (e : Le W W') : ∀ {vs : List V} {ds : List D}, DatL c W vs ds → DatL c W' vs ds
  | _, _, .nil => .nil
  | _, _, .cons h k => .cons (Dat.mono e h) (DatL.mono e k)
end
theorem DatL.length : ∀ {vs : List V} {ds : List D}, DatL c W vs ds → vs.length = ds.length
  | _, _, .nil => rfl
  | _, _, .cons _ k => congrArg (· + 1) k.length
theorem DatL.get : ∀ {vs : List V} {ds : List D} {i : Nat} {d : D}, DatL c W vs ds → ds[i]? = some d → ∃ v, vs[i]? = some v ∧ Dat c W v d
  | _, _, 0, _, .cons h _, e => by
    have := Option.some.inj (show some _ = some _ from e)
    subst this
    exact ⟨_, rfl, h⟩
  | _, _, i + 1, _, .cons _ k, e => k.get (i := i) (by simpa using e)
theorem DatL.get' : ∀ {vs : List V} {ds : List D} {i : Nat} {v : V}, DatL c W vs ds → vs[i]? = some v → ∃ d, ds[i]? = some d ∧ Dat c W v d
  | _, _, 0, _, .cons h _, e => by
    have := Option.some.inj (show some _ = some _ from e)
    subst this
    exact ⟨_, rfl, h⟩
  | _, _, i + 1, _, .cons _ k, e => k.get' (i := i) (by simpa using e)
theorem DatL.append : ∀ {vs vs' : List V} {ds ds' : List D}, DatL c W vs ds → DatL c W vs' ds' → DatL c W (vs ++ vs') (ds ++ ds')
  | _, _, _, _, .nil, h => h
  | _, _, _, _, .cons a k, h => .cons a (k.append h)
theorem DatL.take : ∀ {vs : List V} {ds : List D} (n : Nat), DatL c W vs ds → DatL c W (vs.take n) (ds.take n)
  | _, _, 0, _ => .nil
  | _, _, _ + 1, .nil => .nil
  | _, _, n + 1, .cons a k => .cons a (k.take n)
theorem DatL.drop : ∀ {vs : List V} {ds : List D} (n : Nat), DatL c W vs ds → DatL c W (vs.drop n) (ds.drop n)
  | _, _, 0, h => h
  | _, _, _ + 1, .nil => .nil
  | _, _, n + 1, .cons _ k => k.drop n
theorem DatL.reverse : ∀ {vs : List V} {ds : List D}, DatL c W vs ds → DatL c W vs.reverse ds.reverse
  | _, _, .nil => .nil
  | _, _, .cons a k => by
    rw [List.reverse_cons, List.reverse_cons]
    exact k.reverse.append (.cons a .nil)
theorem DatL.set : ∀ {vs : List V} {ds : List D} {v : V} {d : D} (i : Nat), DatL c W vs ds → Dat c W v d → DatL c W (vs.set i v) (ds.set i d)
  | _, _, _, _, _, .nil, _ => .nil
  | _, _, _, _, 0, .cons _ k, h => .cons h k
  | _, _, _, _, i + 1, .cons a k, h => .cons a (k.set i h)
end

/-! ### what is owned, with its footprint -/
def Disj (F G : List Addr) : Prop := ∀ a ∈ F, a ∉ G
theorem Disj.nil_left {G : List Addr} : Disj [] G := fun a h => absurd h List.not_mem_nil
theorem Disj.nil_right {G : List Addr} : Disj G [] := fun a _ => List.not_mem_nil
theorem Disj.symm {F G : List Addr} (h : Disj F G) : Disj G F := fun a ha hb => h a hb ha
theorem Disj.left {F G E : List Addr} (h : Disj (F ++ G) E) : Disj F E := fun a ha => h a (List.mem_append_left _ ha)
theorem Disj.right {F G E : List Addr} (h : Disj (F ++ G) E) : Disj G E := fun a ha => h a (List.mem_append_right _ ha)
theorem Disj.app {F G E : List Addr} (h : Disj F E) (k : Disj G E) : Disj (F ++ G) E := fun a ha => (List.mem_append.mp ha).elim (h a) (k a)
theorem Disj.left' {F G E : List Addr} (h : Disj E (F ++ G)) : Disj E F := h.symm.left.symm
theorem Disj.right' {F G E : List Addr} (h : Disj E (F ++ G)) : Disj E G := h.symm.right.symm
theorem Disj.app' {F G E : List Addr} (h : Disj E F) (k : Disj E G) : Disj E (F ++ G) := (Disj.app h.symm k.symm).symm
theorem Disj.sub {F G E : List Addr} (h : Disj F E) (s : ∀ a ∈ G, a ∈ F) : Disj G E := fun a ha => h a (s a ha)

section
variable (c : Cf) (W H : Hp)
mutual
inductive Rep : V → O → List Addr → Prop
  | val {v : V} {d : D} : Dat c W v d → Rep v (.val d) []
  | lst {a : Addr} {vs : List V} {os : List O} {F : List Addr} : H a = some (.lst vs) → W a = none → RepL vs os F → a ∉ F → Rep (.ref a) (.lst os) (a :: F)
  | dct {a : Addr} {kvs : List (Key × V)} {os : List (Key × O)} {F : List Addr} : H a = some (.dK kvs) → W a = none → kvs.map (·.1) = os.map (·.1) → RepL (kvs.map (·.2)) (os.map (·.2)) F → a ∉ F → Rep (.ref a) (.dct os) (a :: F)
  | dcT {a : Addr} {kvs : List (List Key × V)} {os : List (List Key × O)} {F : List Addr} : H a = some (.dT kvs) → W a = none → kvs.map (·.1) = os.map (·.1) → RepL (kvs.map (·.2)) (os.map (·.2)) F → a ∉ F → Rep (.ref a) (.dcT os) (a :: F)
  | obj {a dx : Addr} {k : Nat} {fs : List (Str × V)} {os : List (Str × O)} {F : List Addr} : H a = some (.ins (c.cls k) dx fs) → W a = none → fs.map (·.1) = os.map (·.1) → RepL (fs.map (·.2)) (os.map (·.2)) F → a ∉ F → Rep (.ref a) (.obj k os) (a :: F)
inductive RepL : List V → List O → List Addr → Prop
  | nil : RepL [] [] []
  | cons {v : V} {vs : List V} {o : O} {os : List O} {F G : List Addr} : Rep v o F → RepL vs os G → Disj F G → RepL (v :: vs) (o :: os) (F ++ G)
end
/-- the slots of a def -/
inductive Slots : L2.St → List (Option O) → List Addr → Prop
  | nil : Slots [] [] []
  | off {s : Option V} {σ : L2.St} {e : List (Option O)} {F : List Addr} : Slots σ e F → Slots (s :: σ) (none :: e) F
  | on {v : V} {o : O} {σ : L2.St} {e : List (Option O)} {F G : List Addr} : Rep c W H v o F → Slots σ e G → Disj F G → Slots (some v :: σ) (some o :: e) (F ++ G)
end
abbrev Env := List (Option O)

/-- how the world may grow while F is owned; then F' is -/
structure Gr (W H : Hp) (F : List Addr) (W' H' : Hp) (F' : List Addr) : Prop where
  w : Same W W'
  le : Le W' H'
  new : ∀ a o, W' a = some o → W a = some o ∨ a ∈ F ∨ H a = none
  kept : ∀ a o, H a = some o → a ∉ F → H' a = some o
  there : ∀ a, H a ≠ none → H' a ≠ none
  own : ∀ a ∈ F', a ∈ F ∨ H a = none
theorem Gr.refl {W H : Hp} {F : List Addr} (h : Le W H) : Gr W H F W H F := ⟨Same.refl _, h, fun _ _ h => .inl h, fun _ _ h _ => h, fun _ h => h, fun _ h => .inl h⟩
theorem Gr.trans {W H W1 H1 W2 H2 : Hp} {F F1 F2 : List Addr} (a : Gr W H F W1 H1 F1) (b : Gr W1 H1 F1 W2 H2 F2) : Gr W H F W2 H2 F2 where
  w := a.w.trans b.w
  le := b.le
  new := fun x o h => by
    rcases b.new x o h with h | h | h
    · exact a.new x o h
    · exact .inr (a.own x h)
    · refine .inr (.inr ?_)
      cases q : H x with
      | none => rfl
      | some u => exact absurd h (a.there x (by rw [q]; simp))
  kept := fun x o h n => b.kept x o (a.kept x o h n) fun z => by
    rcases a.own x z with z | z
    · exact n z
    · rw [h] at z; cases z
  there := fun x h => b.there x (a.there x h)
  own := fun x h => by
    rcases b.own x h with h | h
    · exact a.own x h
    · refine .inr ?_
      cases q : H x with
      | none => rfl
      | some u => exact absurd h (a.there x (by rw [q]; simp))
theorem Gr.less {W H W1 H1 : Hp} {F F1 F2 : List Addr} (a : Gr W H F W1 H1 F1) (s : ∀ x ∈ F2, x ∈ F1) : Gr W H F W1 H1 F2 := ⟨a.w, a.le, a.new, a.kept, a.there, fun x h => a.own x (s x h)⟩
/-- more is owned: a frame beside -/
theorem Gr.frame {W H W1 H1 : Hp} {F F1 : List Addr} (a : Gr W H F W1 H1 F1) (G : List Addr) : Gr W H (F ++ G) W1 H1 (F1 ++ G) where
  w := a.w
  le := a.le
  new := fun x o h => by
    rcases a.new x o h with h | h | h
    · exact .inl h
    · exact .inr (.inl (List.mem_append_left _ h))
    · exact .inr (.inr h)
  kept := fun x o h n => a.kept x o h fun z => n (List.mem_append_left _ z)
  there := a.there
  own := fun x h => by
    rcases List.mem_append.mp h with h | h
    · rcases a.own x h with h | h
      · exact .inl (List.mem_append_left _ h)
      · exact .inr h
    · exact .inl (List.mem_append_right _ h)
theorem Gr.more {W H W1 H1 : Hp} {F F1 G : List Addr} (a : Gr W H F W1 H1 F1) (s : ∀ x ∈ F, x ∈ G) : Gr W H G W1 H1 F1 where
  w := a.w
  le := a.le
  new := fun x o h => by
    rcases a.new x o h with h | h | h
    · exact .inl h
    · exact .inr (.inl (s x h))
    · exact .inr (.inr h)
  kept := fun x o h n => a.kept x o h fun z => n (s x z)
  there := a.there
  own := fun x h => (a.own x h).imp (s x) id
theorem Gr.free {W H W1 H1 : Hp} {F F1 : List Addr} (a : Gr W H F W1 H1 F1) {x : Addr} (h : H1 x = none) : H x = none := by
  cases q : H x with
  | none => rfl
  | some u => exact absurd h (a.there x (by rw [q]; simp))

section
variable {c : Cf} {W H W' H' : Hp}
mutual
theorem Rep.dom : ∀ {v : V} {o : O} {F : List Addr}, Rep c W H v o F → ∀ a ∈ F, H a ≠ none ∧ W a = none
  | _, _, _, .val _, a, h => absurd h List.not_mem_nil
  | _, _, _, .lst h w k n, a, hm => by
    rcases List.mem_cons.mp hm with rfl | hm
    · exact ⟨by rw [h]; simp, w⟩
    · exact RepL.dom k a hm
  | _, _, _, .dct h w _ k n, a, hm => by
    rcases List.mem_cons.mp hm with rfl | hm
    · exact ⟨by rw [h]; simp, w⟩
    · exact RepL.dom k a hm
  | _, _, _, .dcT h w _ k n, a, hm => by
    rcases List.mem_cons.mp hm with rfl | hm
    · exact ⟨by rw [h]; simp, w⟩
    · exact RepL.dom k a hm
  | _, _, _, .obj h w _ k n, a, hm => by
    rcases List.mem_cons.mp hm with rfl | hm
    · exact ⟨by rw [h]; simp, w⟩
    · exact RepL.dom k a hm
theorem RepL.dom : ∀ {vs : List V} {os : List O} {F : List Addr}, RepL c W H vs os F → ∀ a ∈ F, H a ≠ none ∧ W a = none
  | _, _, _, .nil, a, h => absurd h List.not_mem_nil
  | _, _, _, .cons h k _, a, hm => (List.mem_append.mp hm).elim (Rep.dom h a) (RepL.dom k a)
end
theorem Slots.dom : ∀ {σ : L2.St} {e : Env} {F : List Addr}, Slots c W H σ e F → ∀ a ∈ F, H a ≠ none ∧ W a = none
  | _, _, _, .nil, a, h => absurd h List.not_mem_nil
  | _, _, _, .off k, a, h => k.dom a h
  | _, _, _, .on h k _, a, hm => (List.mem_append.mp hm).elim (Rep.dom h a) (k.dom a)
/-- the frame rule -/
theorem Gr.out {F F' : List Addr} (g : Gr W H F W' H' F') {a : Addr} (h : H a ≠ none) (w : W a = none) (n : a ∉ F) : W' a = none := by
  cases q : W' a with
  | none => rfl
  | some o =>
    rcases g.new a o q with z | z | z
    · rw [w] at z; cases z
    · exact absurd z n
    · exact absurd z h
mutual
theorem Rep.frame {G G' : List Addr} (g : Gr W H G W' H' G') : ∀ {v : V} {o : O} {F : List Addr}, Rep c W H v o F → Disj F G → Rep c W' H' v o F
  | _, _, _, .val d, _ => .val (d.mono (.of_same g.w))
  | _, _, _, .lst (a := a) h w k n, dj => .lst (g.kept a _ h (dj a List.mem_cons_self)) (g.out (by rw [h]; simp) w (dj a List.mem_cons_self)) (RepL.frame g k fun x hx => dj x (List.mem_cons_of_mem _ hx)) n
  | _, _, _, .dct (a := a) h w e k n, dj => .dct (g.kept a _ h (dj a List.mem_cons_self)) (g.out (by rw [h]; simp) w (dj a List.mem_cons_self)) e (RepL.frame g k fun x hx => dj x (List.mem_cons_of_mem _ hx)) n
  | _, _, _, .dcT (a := a) h w e k n, dj => .dcT (g.kept a _ h (dj a List.mem_cons_self)) (g.out (by rw [h]; simp) w (dj a List.mem_cons_self)) e (RepL.frame g k fun x hx => dj x (List.mem_cons_of_mem _ hx)) n
  | _, _, _, .obj (a := a) h w e k n, dj => .obj (g.kept a _ h (dj a List.mem_cons_self)) (g.out (by rw [h]; simp) w (dj a List.mem_cons_self)) e (RepL.frame g k fun x hx => dj x (List.mem_cons_of_mem _ hx)) n
theorem RepL.frame {G G' : List Addr} (g : Gr W H G W' H' G') : ∀ {vs : List V} {os : List O} {F : List Addr}, RepL c W H vs os F → Disj F G → RepL c W' H' vs os F
  | _, _, _, .nil, _ => .nil
  | _, _, _, .cons h k d, dj => .cons (Rep.frame g h dj.left) (RepL.frame g k dj.right) d
end
theorem Slots.frame {G G' : List Addr} (g : Gr W H G W' H' G') : ∀ {σ : L2.St} {e : Env} {F : List Addr}, Slots c W H σ e F → Disj F G → Slots c W' H' σ e F
  | _, _, _, .nil, _ => .nil
  | _, _, _, .off k, dj => .off (k.frame g dj)
  | _, _, _, .on h k d, dj => .on (h.frame g dj.left) (k.frame g dj.right) d
theorem Slots.length : ∀ {σ : L2.St} {e : Env} {F : List Addr}, Slots c W H σ e F → σ.length = e.length
  | _, _, _, .nil => rfl
  | _, _, _, .off k => congrArg (· + 1) k.length
  | _, _, _, .on _ k _ => congrArg (· + 1) k.length
/-- what is owned stays apart from what else is owned -/
theorem Gr.disj {F F' G : List Addr} (g : Gr W H F W' H' F') (hG : ∀ a ∈ G, H a ≠ none) (d : Disj F G) : Disj F' G := fun a h hg => by
  rcases g.own a h with z | z
  · exact d a z hg
  · exact hG a hg z
/-- a slot's value -/
theorem Slots.get : ∀ {σ : L2.St} {e : Env} {F : List Addr} {i : Nat} {o : O}, Slots c W H σ e F → e[i]? = some (some o) → ∃ v G, σ[i]? = some (some v) ∧ Rep c W H v o G ∧ (∀ a ∈ G, a ∈ F)
  | _, _, _, 0, _, .off _, h => by cases (Option.some.inj (show some none = some (some _) from h))
  | _, _, _, 0, _, .on r k _, h => by
    have := Option.some.inj (Option.some.inj (show some (some _) = some (some _) from h))
    subst this
    exact ⟨_, _, rfl, r, fun a ha => List.mem_append_left _ ha⟩
  | _, _, _, i + 1, _, .off k, h => k.get (i := i) (by simpa using h)
  | _, _, _, i + 1, _, .on r k _, h => by
    obtain ⟨v, G, h1, h2, h3⟩ := k.get (i := i) (by simpa using h)
    exact ⟨v, G, by simpa using h1, h2, fun a ha => List.mem_append_right _ (h3 a ha)⟩
/-- a slot is stored -/
theorem Slots.set : ∀ {σ : L2.St} {e : Env} {F G : List Addr} {v : V} {o : O} (i : Nat), Slots c W H σ e F → Rep c W H v o G → Disj G F → i < e.length →
    ∃ F', Slots c W H (σ.set i (some v)) (e.set i (some o)) F' ∧ ∀ a ∈ F', a ∈ F ∨ a ∈ G
  | _, _, _, _, _, _, 0, .off k, r, d, _ => ⟨_, .on r k d, fun a h => (List.mem_append.mp h).symm⟩
  | _, _, _, _, _, _, 0, .on (F := F1) (G := G1) _ k _, r, d, _ => ⟨_, .on r k d.right', fun a h => (List.mem_append.mp h).elim .inr fun h => .inl (List.mem_append_right _ h)⟩
  | _, _, _, _, _, _, i + 1, .off k, r, d, h => by
    obtain ⟨F', k', s⟩ := Slots.set i k r d (by simpa using h)
    exact ⟨F', .off k', s⟩
  | _, _, _, G, _, _, i + 1, .on (F := F1) (G := G1) r1 k dj, r, d, h => by
    obtain ⟨F', k', s⟩ := Slots.set i k r d.right' (by simpa using h)
    refine ⟨F1 ++ F', .on r1 k' fun a h1 h2 => ?_, fun a h => ?_⟩
    · rcases s a h2 with z | z
      · exact dj a h1 z
      · exact d a z (List.mem_append_left _ h1)
    · rcases List.mem_append.mp h with h | h
      · exact .inl (List.mem_append_left _ h)
      · exact (s a h).imp (fun z => List.mem_append_right _ z) id
/-- a slot is forgotten -/
theorem Slots.drop1 : ∀ {σ : L2.St} {e : Env} {F : List Addr} (i : Nat) (s : Option V), Slots c W H σ e F → ∃ F', Slots c W H (σ.set i s) (e.set i none) F' ∧ ∀ a ∈ F', a ∈ F
  | _, _, _, _, _, .nil => ⟨[], .nil, fun a h => h⟩
  | _, _, _, 0, s, .off k => ⟨_, .off k, fun a h => h⟩
  | _, _, _, 0, s, .on _ k _ => ⟨_, .off k, fun a h => List.mem_append_right _ h⟩
  | _, _, _, i + 1, s, .off k => by
    obtain ⟨F', k', z⟩ := Slots.drop1 i s k
    exact ⟨F', .off k', z⟩
  | _, _, _, i + 1, s, .on (F := F1) r k dj => by
    obtain ⟨F', k', z⟩ := Slots.drop1 i s k
    exact ⟨F1 ++ F', .on r k' fun a h1 h2 => dj a h1 (z a h2), fun a h => (List.mem_append.mp h).elim (fun h => List.mem_append_left _ h) fun h => List.mem_append_right _ (z a h)⟩
end

/-! ### frozen for good -/
mutual
def O.fz : O → D
  | .val d => d
  | .lst os => .lst (fzL os)
  | .dct kvs => .dct (fzK kvs)
  | .dcT kvs => .dcT (fzT kvs)
  | .obj k fs => .obj k (fzF fs)
def fzL : List O → List D
  | [] => []
  | o :: os => o.fz :: fzL os
def fzK : List (Key × O) → List (Key × D)
  | [] => []
  | (k, o) :: os => (k, o.fz) :: fzK os
def fzT : List (List Key × O) → List (List Key × D)
  | [] => []
  | (k, o) :: os => (k, o.fz) :: fzT os
def fzF : List (Str × O) → List (Str × D)
  | [] => []
  | (k, o) :: os => (k, o.fz) :: fzF os
end
theorem fzL_map : ∀ os : List O, fzL os = os.map O.fz
  | [] => by simp [fzL]
  | o :: os => by simp [fzL, fzL_map os]
theorem fzK_map : ∀ os : List (Key × O), fzK os = os.map fun p => (p.1, p.2.fz)
  | [] => by simp [fzK]
  | (k, o) :: os => by simp [fzK, fzK_map os]
theorem fzT_map : ∀ os : List (List Key × O), fzT os = os.map fun p => (p.1, p.2.fz)
  | [] => by simp [fzT]
  | (k, o) :: os => by simp [fzT, fzT_map os]
theorem fzF_map : ∀ os : List (Str × O), fzF os = os.map fun p => (p.1, p.2.fz)
  | [] => by simp [fzF]
  | (k, o) :: os => by simp [fzF, fzF_map os]
/-- W with what stands at F in H -/
def plus (W H : Hp) (F : List Addr) : Hp := fun a => if a ∈ F then H a else W a
theorem plus_in {W H : Hp} {F : List Addr} {a : Addr} (h : a ∈ F) : plus W H F a = H a := if_pos h
theorem plus_out {W H : Hp} {F : List Addr} {a : Addr} (h : a ∉ F) : plus W H F a = W a := if_neg h
section
variable {c : Cf} {W H : Hp} {F : List Addr}
theorem plus_same (h : ∀ a ∈ F, W a = none) : Same W (plus W H F) := fun a o e => by
  rw [plus_out fun z => by rw [h a z] at e; cases e]; exact e
theorem plus_le (e : Le W H) : Le (plus W H F) H := fun a o h => by
  by_cases z : a ∈ F
  · rw [plus_in z] at h; exact ⟨o, h, .refl o⟩
  · rw [plus_out z] at h; exact e a o h
theorem Gr.plus {G : List Addr} (e : Le W H) (h : ∀ a ∈ F, W a = none) (s : ∀ a ∈ F, a ∈ G) : Gr W H G (plus W H F) H G where
  w := plus_same h
  le := plus_le e
  new := fun a o q => by
    by_cases z : a ∈ F
    · exact .inr (.inl (s a z))
    · rw [plus_out z] at q; exact .inl q
  kept := fun _ _ q _ => q
  there := fun _ q => q
  own := fun _ q => .inl q
mutual
theorem Rep.fz {W' : Hp} (w : Same W W') : ∀ {v : V} {o : O} {F : List Addr}, Rep c W H v o F → (∀ a ∈ F, W' a = H a) → Dat c W' v o.fz
  | _, _, _, .val d, _ => by rw [O.fz]; exact d.mono (.of_same w)
  | _, _, _, .lst h _ k _, e => by
    rw [O.fz]
    exact .lst (SqL.of ((e _ List.mem_cons_self).trans h)) (RepL.fz w k fun x hx => e x (List.mem_cons_of_mem _ hx))
  | _, _, _, .dct h _ n k _, e => by
    rw [O.fz, fzK_map]
    refine .dct (.inl ((e _ List.mem_cons_self).trans h)) (by rw [List.map_map]; exact n) ?_
    have := RepL.fz w k fun x hx => e x (List.mem_cons_of_mem _ hx)
    rw [fzL_map, List.map_map] at this
    rw [List.map_map]; exact this
  | _, _, _, .dcT h _ n k _, e => by
    rw [O.fz, fzT_map]
    refine .dcT (.inl ((e _ List.mem_cons_self).trans h)) (by rw [List.map_map]; exact n) ?_
    have := RepL.fz w k fun x hx => e x (List.mem_cons_of_mem _ hx)
    rw [fzL_map, List.map_map] at this
    rw [List.map_map]; exact this
  | _, _, _, .obj h _ n k _, e => by
    rw [O.fz, fzF_map]
    refine .obj ((e _ List.mem_cons_self).trans h) (by rw [List.map_map]; exact n) ?_
    have := RepL.fz w k fun x hx => e x (List.mem_cons_of_mem _ hx)
    rw [fzL_map, List.map_map] at this
    rw [List.map_map]; exact this
theorem RepL.fz {W' : Hp} (w : Same W W') : ∀ {vs : List V} {os : List O} {F : List Addr}, RepL c W H vs os F → (∀ a ∈ F, W' a = H a) → DatL c W' vs (fzL os)
  | _, _, _, .nil, _ => by rw [fzL]; exact .nil
  | _, _, _, .cons r k _, e => by
    rw [fzL]
    exact .cons (Rep.fz w r fun x hx => e x (List.mem_append_left _ hx)) (RepL.fz w k fun x hx => e x (List.mem_append_right _ hx))
end
/-- all of an owned thing is frozen -/
theorem Rep.freeze {v : V} {o : O} {F : List Addr} (e : Le W H) (r : Rep c W H v o F) : ∃ W', Gr W H F W' H [] ∧ Dat c W' v o.fz :=
  ⟨_, (Gr.plus e (fun a h => (r.dom a h).2) fun _ h => h).less fun _ z => absurd z List.not_mem_nil, r.fz (plus_same fun a h => (r.dom a h).2) fun a h => plus_in h⟩
theorem RepL.freeze {vs : List V} {os : List O} {F : List Addr} (e : Le W H) (r : RepL c W H vs os F) : ∃ W', Gr W H F W' H [] ∧ DatL c W' vs (fzL os) :=
  ⟨_, (Gr.plus e (fun a h => (r.dom a h).2) fun _ h => h).less fun _ z => absurd z List.not_mem_nil, r.fz (plus_same fun a h => (r.dom a h).2) fun a h => plus_in h⟩
end
end Z

set_option maxRecDepth 100000
set_option maxHeartbeats 2000000
/-! Z.core: places, results, transformers out of denotations -/
namespace Z
open PySem L2

inductive Stp where
  | ix (n : Nat) | at (f : Str) | ky (k : Key)
def look1 {κ : Type} [DecidableEq κ] (k : κ) : List (κ × O) → Option O
  | [] => none
  | (k', o) :: r => if k' = k then some o else look1 k r
def put1 {κ : Type} [DecidableEq κ] (k : κ) (o : O) : List (κ × O) → List (κ × O)
  | [] => []
  | (k', o') :: r => if k' = k then (k', o) :: r else (k', o') :: put1 k o r
def O.step : O → Stp → Option O
  | .lst os, .ix n => os[n]?
  | .dct kvs, .ky k => look1 k kvs
  | .obj _ fs, .at f => look1 f fs
  | _, _ => none
def O.put1 : O → Stp → O → O
  | .lst os, .ix n, o => .lst (os.set n o)
  | .dct kvs, .ky k, o => .dct (Z.put1 k o kvs)
  | .obj c fs, .at f, o => .obj c (Z.put1 f o fs)
  | o', _, _ => o'
def O.get (o : O) : List Stp → Option O
  | [] => some o
  | s :: p => (o.step s).bind fun o' => o'.get p
def O.put (o : O) : List Stp → O → O
  | [], o' => o'
  | s :: p, o' => match o.step s with
    | some o1 => o.put1 s (o1.put p o')
    | none => o

def lookV {κ : Type} [DecidableEq κ] (k : κ) : List (κ × V) → Option V
  | [] => none
  | (k', o) :: r => if k' = k then some o else lookV k r
/-- from v along p one comes to w -/
inductive At (H : Hp) : V → List Stp → V → Prop
  | nil {v : V} : At H v [] v
  | ix {a : Addr} {vs : List V} {n : Nat} {w u : V} {p : List Stp} : H a = some (.lst vs) → vs[n]? = some w → At H w p u → At H (.ref a) (.ix n :: p) u
  | ky {a : Addr} {kvs : List (Key × V)} {k : Key} {w u : V} {p : List Stp} : H a = some (.dK kvs) → lookV k kvs = some w → At H w p u → At H (.ref a) (.ky k :: p) u
  | at {a C dx : Addr} {fs : List (Str × V)} {f : Str} {w u : V} {p : List Stp} : H a = some (.ins C dx fs) → lookV f fs = some w → At H w p u → At H (.ref a) (.at f :: p) u
theorem At.same {H H' : Hp} (s : Same H H') : ∀ {v w : V} {p : List Stp}, At H v p w → At H' v p w
  | _, _, _, .nil => .nil
  | _, _, _, .ix h e k => .ix (s _ _ h) e (k.same s)
  | _, _, _, .ky h e k => .ky (s _ _ h) e (k.same s)
  | _, _, _, .at h e k => .at (s _ _ h) e (k.same s)
theorem At.snoc {H : Hp} {w u : V} {s : Stp} : ∀ {v : V} {p : List Stp}, At H v p w → At H w [s] u → At H v (p ++ [s]) u
  | _, _, .nil, h => h
  | _, _, .ix h e k, z => .ix h e (k.snoc z)
  | _, _, .ky h e k, z => .ky h e (k.snoc z)
  | _, _, .at h e k, z => .at h e (k.snoc z)

section
variable {c : Cf} {W H W' H' : Hp}
mutual
theorem Rep.agree (w : Same W W') : ∀ {v : V} {o : O} {F : List Addr}, Rep c W H v o F → (∀ a ∈ F, H' a = H a ∧ W' a = none) → Rep c W' H' v o F
  | _, _, _, .val d, _ => .val (d.mono (.of_same w))
  | _, _, _, .lst h _ k n, e => .lst ((e _ List.mem_cons_self).1.trans h) (e _ List.mem_cons_self).2 (RepL.agree w k fun x hx => e x (List.mem_cons_of_mem _ hx)) n
  | _, _, _, .dct h _ z k n, e => .dct ((e _ List.mem_cons_self).1.trans h) (e _ List.mem_cons_self).2 z (RepL.agree w k fun x hx => e x (List.mem_cons_of_mem _ hx)) n
  | _, _, _, .dcT h _ z k n, e => .dcT ((e _ List.mem_cons_self).1.trans h) (e _ List.mem_cons_self).2 z (RepL.agree w k fun x hx => e x (List.mem_cons_of_mem _ hx)) n
  | _, _, _, .obj h _ z k n, e => .obj ((e _ List.mem_cons_self).1.trans h) (e _ List.mem_cons_self).2 z (RepL.agree w k fun x hx => e x (List.mem_cons_of_mem _ hx)) n
theorem RepL.agree (w : Same W W') : ∀ {vs : List V} {os : List O} {F : List Addr}, RepL c W H vs os F → (∀ a ∈ F, H' a = H a ∧ W' a = none) → RepL c W' H' vs os F
  | _, _, _, .nil, _ => .nil
  | _, _, _, .cons r k d, e => .cons (Rep.agree w r fun x hx => e x (List.mem_append_left _ hx)) (RepL.agree w k fun x hx => e x (List.mem_append_right _ hx)) d
end
theorem Slots.agree (w : Same W W') : ∀ {σ : L2.St} {e : Env} {F : List Addr}, Slots c W H σ e F → (∀ a ∈ F, H' a = H a ∧ W' a = none) → Slots c W' H' σ e F
  | _, _, _, .nil, _ => .nil
  | _, _, _, .off k, e => .off (k.agree w e)
  | _, _, _, .on r k d, e => .on (r.agree w fun x hx => e x (List.mem_append_left _ hx)) (k.agree w fun x hx => e x (List.mem_append_right _ hx)) d

/-! ### a part of a list of owned things, exchanged -/
theorem RepL.hole : ∀ {vs : List V} {os : List O} {F : List Addr} {n : Nat} {o : O}, RepL c W H vs os F → os[n]? = some o →
    ∃ v G R, vs[n]? = some v ∧ Rep c W H v o G ∧ (∀ a ∈ G, a ∈ F) ∧ (∀ a ∈ R, a ∈ F) ∧ Disj G R ∧
      ∀ (W' H' : Hp) (v' : V) (o' : O) (G' : List Addr), Same W W' → (∀ a ∈ R, H' a = H a ∧ W' a = none) → Rep c W' H' v' o' G' → Disj G' R → ∃ F', RepL c W' H' (vs.set n v') (os.set n o') F' ∧ (∀ a ∈ F', a ∈ R ∨ a ∈ G')
  | _, _, _, 0, _, .cons (F := F1) (G := G1) r k d, h => by
    have := Option.some.inj (show some _ = some _ from h)
    subst this
    refine ⟨_, F1, G1, rfl, r, fun a z => List.mem_append_left _ z, fun a z => List.mem_append_right _ z, d, fun W' H' v' o' G' w e r' d' => ?_⟩
    exact ⟨G' ++ G1, .cons r' (k.agree w e) d', fun a z => (List.mem_append.mp z).symm⟩
  | _, _, _, n + 1, _, .cons (F := F1) (G := G1) r k d, h => by
    obtain ⟨v, G, R, h1, h2, h3, h4, h5, h6⟩ := RepL.hole k (n := n) (by simpa using h)
    refine ⟨v, G, F1 ++ R, by simpa using h1, h2, fun a z => List.mem_append_right _ (h3 a z), fun a z => (List.mem_append.mp z).elim (fun z => List.mem_append_left _ z) fun z => List.mem_append_right _ (h4 a z),
      fun a z z' => (List.mem_append.mp z').elim (fun z' => d a z' (h3 a z)) (h5 a z), fun W' H' v' o' G' w e r' d' => ?_⟩
    obtain ⟨F', k', s⟩ := h6 W' H' v' o' G' w (fun a z => e a (List.mem_append_right _ z)) r' d'.right'
    refine ⟨F1 ++ F', .cons (r.agree w fun a z => e a (List.mem_append_left _ z)) k' fun a z z' => ?_, fun a z => ?_⟩
    · rcases s a z' with y | y
      · exact d a z (h4 a y)
      · exact d' a y (List.mem_append_left _ z)
    · rcases List.mem_append.mp z with z | z
      · exact .inl (List.mem_append_left _ z)
      · exact (s a z).imp (List.mem_append_right _) id

theorem look1_ix {κ : Type} [DecidableEq κ] {k : κ} : ∀ {os : List (κ × O)} {o : O}, look1 k os = some o → ∃ n, (os.map (·.2))[n]? = some o ∧ (∀ o', (put1 k o' os).map (·.2) = (os.map (·.2)).set n o') ∧ (∀ o', (put1 k o' os).map (·.1) = os.map (·.1)) ∧
    ∀ (vs : List (κ × V)), vs.map (·.1) = os.map (·.1) → lookV k vs = (vs.map (·.2))[n]?
  | [], _, h => by cases h
  | (k', o1) :: r, o, h => by
    unfold look1 at h
    by_cases e : k' = k
    · rw [if_pos e] at h
      cases h
      refine ⟨0, rfl, fun o' => ?_, fun o' => ?_, fun vs hv => ?_⟩
      · unfold put1; rw [if_pos e]; rfl
      · unfold put1; rw [if_pos e]; rfl
      · cases vs with
        | nil => cases hv
        | cons p vs =>
          have e1 : p.1 = k' := (List.cons.inj hv).1
          unfold lookV
          rw [show p = (p.1, p.2) from rfl]
          dsimp only
          rw [if_pos (e1.trans e)]
          rfl
    · rw [if_neg e] at h
      obtain ⟨n, h1, h2, h3, h4⟩ := look1_ix h
      refine ⟨n + 1, by simpa using h1, fun o' => ?_, fun o' => ?_, fun vs hv => ?_⟩
      · unfold put1; rw [if_neg e]
        show o1 :: _ = _
        rw [h2]; rfl
      · unfold put1; rw [if_neg e]
        show k' :: _ = _
        rw [h3]; rfl
      · cases vs with
        | nil => cases hv
        | cons p vs =>
          have e1 : p.1 = k' := (List.cons.inj hv).1
          have e2 := h4 vs (List.cons.inj hv).2
          unfold lookV
          rw [show p = (p.1, p.2) from rfl]
          dsimp only
          rw [if_neg (by rw [e1]; exact e), e2]
          simp
/-- one step into an owned thing -/
theorem Rep.hole1 {v : V} {o o1 : O} {F : List Addr} {s : Stp} (r : Rep c W H v o F) (h : o.step s = some o1) :
    ∃ w G R, At H v [s] w ∧ Rep c W H w o1 G ∧ (∀ a ∈ G, a ∈ F) ∧ (∀ a ∈ R, a ∈ F) ∧ Disj G R ∧
      ∀ (W' H' : Hp) (o' : O) (G' : List Addr), Same W W' → (∀ a ∈ R, H' a = H a ∧ W' a = none) → Rep c W' H' w o' G' → Disj G' R → ∃ F', Rep c W' H' v (o.put1 s o') F' ∧ (∀ a ∈ F', a ∈ R ∨ a ∈ G') := by
  cases r with
  | val d => cases s <;> cases h
  | lst ha hw k n =>
    cases s with
    | ix i =>
      obtain ⟨w, G, R, h1, h2, h3, h4, h5, h6⟩ := RepL.hole k h
      rename_i a vs os F'
      refine ⟨w, G, a :: R, .ix ha h1 .nil, h2, fun x z => List.mem_cons_of_mem _ (h3 x z), fun x z => (List.mem_cons.mp z).elim (fun z => z ▸ List.mem_cons_self) fun z => List.mem_cons_of_mem _ (h4 x z), fun x z z' => ?_, fun W' H' o' G' sw e r' d' => ?_⟩
      · rcases List.mem_cons.mp z' with z' | z'
        · exact n (z' ▸ h3 x z)
        · exact h5 x z z'
      · obtain ⟨F2, k', s2⟩ := h6 W' H' w o' G' sw (fun x z => e x (List.mem_cons_of_mem _ z)) r' fun x z z' => d' x z (List.mem_cons_of_mem _ z')
        have ev : vs.set i w = vs := List.ext_getElem? fun j => by
          by_cases hj : i = j
          · subst hj
            rw [List.getElem?_set_self (List.getElem?_eq_some_iff.mp h1).1, h1]
          · rw [List.getElem?_set_ne hj]
        rw [ev] at k'
        refine ⟨a :: F2, .lst ((e a List.mem_cons_self).1.trans ha) (e a List.mem_cons_self).2 k' fun z => ?_, fun x z => ?_⟩
        · rcases s2 a z with y | y
          · exact n (h4 a y)
          · exact d' a y List.mem_cons_self
        · rcases List.mem_cons.mp z with z | z
          · exact .inl (z ▸ List.mem_cons_self)
          · exact (s2 x z).imp (List.mem_cons_of_mem _) id
    | «at» f => cases h
    | ky q => cases h
  | dct ha hw hk k n =>
    cases s with
    | ky q =>
      rename_i a kvs os F'
      obtain ⟨i, l1, l2, l3, l4⟩ := look1_ix (show look1 q os = some o1 from h)
      obtain ⟨w, G, R, h1, h2, h3, h4, h5, h6⟩ := RepL.hole k l1
      have hl := l4 kvs hk
      rw [h1] at hl
      refine ⟨w, G, a :: R, .ky ha hl .nil, h2, fun x z => List.mem_cons_of_mem _ (h3 x z), fun x z => (List.mem_cons.mp z).elim (fun z => z ▸ List.mem_cons_self) fun z => List.mem_cons_of_mem _ (h4 x z), fun x z z' => ?_, fun W' H' o' G' sw e r' d' => ?_⟩
      · rcases List.mem_cons.mp z' with z' | z'
        · exact n (z' ▸ h3 x z)
        · exact h5 x z z'
      · obtain ⟨F2, k', s2⟩ := h6 W' H' w o' G' sw (fun x z => e x (List.mem_cons_of_mem _ z)) r' fun x z z' => d' x z (List.mem_cons_of_mem _ z')
        have ev : (kvs.map (·.2)).set i w = kvs.map (·.2) := List.ext_getElem? fun j => by
          by_cases hj : i = j
          · subst hj
            rw [List.getElem?_set_self (List.getElem?_eq_some_iff.mp h1).1, h1]
          · rw [List.getElem?_set_ne hj]
        rw [ev, ← l2] at k'
        refine ⟨a :: F2, .dct ((e a List.mem_cons_self).1.trans ha) (e a List.mem_cons_self).2 (hk.trans (l3 o').symm) k' fun z => ?_, fun x z => ?_⟩
        · rcases s2 a z with y | y
          · exact n (h4 a y)
          · exact d' a y List.mem_cons_self
        · rcases List.mem_cons.mp z with z | z
          · exact .inl (z ▸ List.mem_cons_self)
          · exact (s2 x z).imp (List.mem_cons_of_mem _) id
    | «at» f => cases h
    | ix q => cases h
  | dcT ha hw hk k n => cases s <;> cases h
  | obj ha hw hk k n =>
    cases s with
    | «at» q =>
      rename_i a dx kk kvs os F'
      obtain ⟨i, l1, l2, l3, l4⟩ := look1_ix (show look1 q os = some o1 from h)
      obtain ⟨w, G, R, h1, h2, h3, h4, h5, h6⟩ := RepL.hole k l1
      have hl := l4 kvs hk
      rw [h1] at hl
      refine ⟨w, G, a :: R, .at ha hl .nil, h2, fun x z => List.mem_cons_of_mem _ (h3 x z), fun x z => (List.mem_cons.mp z).elim (fun z => z ▸ List.mem_cons_self) fun z => List.mem_cons_of_mem _ (h4 x z), fun x z z' => ?_, fun W' H' o' G' sw e r' d' => ?_⟩
      · rcases List.mem_cons.mp z' with z' | z'
        · exact n (z' ▸ h3 x z)
        · exact h5 x z z'
      · obtain ⟨F2, k', s2⟩ := h6 W' H' w o' G' sw (fun x z => e x (List.mem_cons_of_mem _ z)) r' fun x z z' => d' x z (List.mem_cons_of_mem _ z')
        have ev : (kvs.map (·.2)).set i w = kvs.map (·.2) := List.ext_getElem? fun j => by
          by_cases hj : i = j
          · subst hj
            rw [List.getElem?_set_self (List.getElem?_eq_some_iff.mp h1).1, h1]
          · rw [List.getElem?_set_ne hj]
        rw [ev, ← l2] at k'
        refine ⟨a :: F2, .obj ((e a List.mem_cons_self).1.trans ha) (e a List.mem_cons_self).2 (hk.trans (l3 o').symm) k' fun z => ?_, fun x z => ?_⟩
        · rcases s2 a z with y | y
          · exact n (h4 a y)
          · exact d' a y List.mem_cons_self
        · rcases List.mem_cons.mp z with z | z
          · exact .inl (z ▸ List.mem_cons_self)
          · exact (s2 x z).imp (List.mem_cons_of_mem _) id
    | ix f => cases h
    | ky q => cases h
theorem At.inj {v w w' : V} {p : List Stp} (a : At H v p w) (b : At H v p w') : w = w' := by
  induction a with
  | nil => cases b; rfl
  | ix h e _ ih =>
    cases b with
    | ix h' e' k' => rw [h] at h'; cases h'; rw [e] at e'; cases e'; exact ih k'
  | ky h e _ ih =>
    cases b with
    | ky h' e' k' => rw [h] at h'; cases h'; rw [e] at e'; cases e'; exact ih k'
  | «at» h e _ ih =>
    cases b with
    | «at» h' e' k' => rw [h] at h'; cases h'; rw [e] at e'; cases e'; exact ih k'
/-- any number of steps into an owned thing -/
theorem Rep.hole : ∀ {p : List Stp} {v w : V} {o o1 : O} {F : List Addr}, Rep c W H v o F → At H v p w → o.get p = some o1 →
    ∃ G R, Rep c W H w o1 G ∧ (∀ a ∈ G, a ∈ F) ∧ (∀ a ∈ R, a ∈ F) ∧ Disj G R ∧
      ∀ (W' H' : Hp) (o' : O) (G' : List Addr), Same W W' → (∀ a ∈ R, H' a = H a ∧ W' a = none) → Rep c W' H' w o' G' → Disj G' R → ∃ F', Rep c W' H' v (o.put p o') F' ∧ (∀ a ∈ F', a ∈ R ∨ a ∈ G')
  | [], v, w, o, o1, F, r, a, h => by
    cases a
    cases h
    exact ⟨F, [], r, fun _ z => z, fun _ z => absurd z List.not_mem_nil, Disj.nil_right, fun W' H' o' G' _ _ r' _ => ⟨G', r', fun _ z => .inr z⟩⟩
  | s :: p, v, w, o, o1, F, r, a, h => by
    unfold O.get at h
    cases e : o.step s with
    | none => rw [e] at h; cases h
    | some o2 =>
      rw [e] at h
      obtain ⟨w2, G, R, h1, h2, h3, h4, h5, h6⟩ := r.hole1 e
      have a2 : At H w2 p w := by
        cases a with
        | ix ha hb k => cases h1 with | ix ha' hb' k' => rw [ha] at ha'; cases ha'; rw [hb] at hb'; cases hb'; cases k'; exact k
        | ky ha hb k => cases h1 with | ky ha' hb' k' => rw [ha] at ha'; cases ha'; rw [hb] at hb'; cases hb'; cases k'; exact k
        | «at» ha hb k => cases h1 with | «at» ha' hb' k' => rw [ha] at ha'; cases ha'; rw [hb] at hb'; cases hb'; cases k'; exact k
      obtain ⟨G2, R2, k1, k2, k3, k4, k5⟩ := Rep.hole h2 a2 (show o2.get p = some o1 from h)
      refine ⟨G2, R ++ R2, k1, fun x z => h3 x (k2 x z), fun x z => (List.mem_append.mp z).elim (h4 x) fun z => h3 x (k3 x z), fun x z z' => ?_, fun W' H' o' G' sw ag r' d' => ?_⟩
      · rcases List.mem_append.mp z' with z' | z'
        · exact h5 x (k2 x z) z'
        · exact k4 x z z'
      · obtain ⟨F1, r1, s1⟩ := k5 W' H' o' G' sw (fun x z => ag x (List.mem_append_right _ z)) r' d'.right'
        obtain ⟨F2, r2, s2⟩ := h6 W' H' _ F1 sw (fun x z => ag x (List.mem_append_left _ z)) r1 fun x z z' => by
          rcases s1 x z with y | y
          · exact h5 x (k3 x y) z'
          · exact d' x y (List.mem_append_left _ z')
        refine ⟨F2, ?_, fun x z => ?_⟩
        · unfold O.put
          rw [e]
          exact r2
        · rcases s2 x z with y | y
          · exact .inl (List.mem_append_left _ y)
          · exact (s1 x y).imp (List.mem_append_right _) id
/-- a slot's part, exchanged -/
theorem Slots.hole : ∀ {σ : L2.St} {e : Env} {F : List Addr} {i : Nat} {v0 w : V} {o o1 : O} {p : List Stp}, Slots c W H σ e F → e[i]? = some (some o) → σ[i]? = some (some v0) → At H v0 p w → o.get p = some o1 →
    ∃ G R, Rep c W H w o1 G ∧ (∀ a ∈ G, a ∈ F) ∧ (∀ a ∈ R, a ∈ F) ∧ Disj G R ∧
      ∀ (W' H' : Hp) (o' : O) (G' : List Addr), Same W W' → (∀ a ∈ R, H' a = H a ∧ W' a = none) → Rep c W' H' w o' G' → Disj G' R → ∃ F', Slots c W' H' σ (e.set i (some (o.put p o'))) F' ∧ (∀ a ∈ F', a ∈ R ∨ a ∈ G')
  | _, _, _, 0, _, _, _, _, _, .off k, h, _, _, _ => by cases (Option.some.inj (show some none = some (some _) from h))
  | _, _, _, 0, _, _, _, _, _, .on (F := F1) (G := G1) r k d, h, hs, a, g => by
    have e1 := Option.some.inj (Option.some.inj (show some (some _) = some (some _) from h))
    have e2 := Option.some.inj (Option.some.inj (show some (some _) = some (some _) from hs))
    subst e1 e2
    obtain ⟨G, R, h1, h2, h3, h4, h5⟩ := r.hole a g
    refine ⟨G, R ++ G1, h1, fun x z => List.mem_append_left _ (h2 x z), fun x z => (List.mem_append.mp z).elim (fun z => List.mem_append_left _ (h3 x z)) (List.mem_append_right _), fun x z z' => ?_, fun W' H' o' G' sw ag r' d' => ?_⟩
    · rcases List.mem_append.mp z' with z' | z'
      · exact h4 x z z'
      · exact d x (h2 x z) z'
    · obtain ⟨F', r2, s2⟩ := h5 W' H' o' G' sw (fun x z => ag x (List.mem_append_left _ z)) r' d'.left'
      refine ⟨F' ++ G1, .on r2 (k.agree sw fun x z => ag x (List.mem_append_right _ z)) fun x z z' => ?_, fun x z => ?_⟩
      · rcases s2 x z with y | y
        · exact d x (h3 x y) z'
        · exact d' x y (List.mem_append_right _ z')
      · rcases List.mem_append.mp z with z | z
        · exact (s2 x z).imp (List.mem_append_left _) id
        · exact .inl (List.mem_append_right _ z)
  | _, _, _, i + 1, _, _, _, _, _, .off k, h, hs, a, g => by
    obtain ⟨G, R, h1, h2, h3, h4, h5⟩ := k.hole (i := i) (by simpa using h) (by simpa using hs) a g
    refine ⟨G, R, h1, h2, h3, h4, fun W' H' o' G' sw ag r' d' => ?_⟩
    obtain ⟨F', r2, s2⟩ := h5 W' H' o' G' sw ag r' d'
    exact ⟨F', .off r2, s2⟩
  | _, _, _, i + 1, _, _, _, _, _, .on (F := F1) (G := G1) r k d, h, hs, a, g => by
    obtain ⟨G, R, h1, h2, h3, h4, h5⟩ := k.hole (i := i) (by simpa using h) (by simpa using hs) a g
    refine ⟨G, F1 ++ R, h1, fun x z => List.mem_append_right _ (h2 x z), fun x z => (List.mem_append.mp z).elim (List.mem_append_left _) fun z => List.mem_append_right _ (h3 x z), fun x z z' => ?_, fun W' H' o' G' sw ag r' d' => ?_⟩
    · rcases List.mem_append.mp z' with z' | z'
      · exact d x z' (h2 x z)
      · exact h4 x z z'
    · obtain ⟨F', r2, s2⟩ := h5 W' H' o' G' sw (fun x z => ag x (List.mem_append_right _ z)) r' d'.right'
      refine ⟨F1 ++ F', .on (r.agree sw fun x z => ag x (List.mem_append_left _ z)) r2 fun x z z' => ?_, fun x z => ?_⟩
      · rcases s2 x z' with y | y
        · exact d x z (h3 x y)
        · exact d' x y (List.mem_append_left _ z)
      · rcases List.mem_append.mp z with z | z
        · exact .inl (List.mem_append_left _ z)
        · exact (s2 x z).imp (List.mem_append_right _) id
end

/-! ### what an expression comes to -/
/-- a thing by itself, or a place in a slot -/
inductive RV where
  | tmp (o : O)
  | pl (i : Nat) (p : List Stp)
def Env.at (e : Env) (i : Nat) : Option O := match e[i]? with
  | some (some o) => some o
  | _ => none
def RV.get (e : Env) : RV → Option O
  | .tmp o => some o
  | .pl i p => (e.at i).bind (·.get p)
def Env.put (e : Env) (i : Nat) (p : List Stp) (o : O) : Env := match e.at i with
  | some o0 => e.set i (some (o0.put p o))
  | none => e
/-- taken out of its place: from then on frozen there -/
def RV.take (e : Env) : RV → Option (O × Env)
  | .tmp o => some (o, e)
  | .pl i p => ((RV.pl i p).get e).map fun o => (.val o.fz, e.put i p (.val o.fz))
structure Exn where
  c : Nat
  fs : List (Str × D)
inductive Res (α : Type) where
  | ok (a : α) (e : Env)
  | err (x : Exn) (e : Env)
  | stuck
theorem Env.at_some {e : Env} {i : Nat} {o : O} (h : e.at i = some o) : e[i]? = some (some o) := by
  unfold Env.at at h
  split at h
  · rename_i o' h'; cases h; exact h'
  · cases h
theorem Env.at_of {e : Env} {i : Nat} {o : O} (h : e[i]? = some (some o)) : e.at i = some o := by
  unfold Env.at; rw [h]

section
variable (c : Cf)
def RVr (W H : Hp) (σ : L2.St) (v : V) : RV → List Addr → Prop
  | .tmp o, F => Rep c W H v o F
  | .pl i p, F => F = [] ∧ ∃ v0, σ[i]? = some (some v0) ∧ At H v0 p v
def ExRep (W : Hp) (x : Exn) (cls : Value) (d : Option Addr) (H : Hp) : Prop :=
  cls = .ref (c.cls x.c) ∧ ∃ dd fs, d = some dd ∧ W dd = some (.xd fs) ∧ fs.map (·.1) = x.fs.map (·.1) ∧ DatL c W (fs.map (·.2)) (x.fs.map (·.2))
/-- from W, H with F owned in the slots σ: what a result asks -/
def Pst {α β : Type} (XW : WX) (b : Bool) (rel : L2.St → Hp → Hp → β → α → List Addr → Prop) (W H : Hp) (σ : L2.St) (F : List Addr) (r : Res α) (Q : β → Hp → Prop) : Prop :=
  match r with
  | .ok a e => ∀ (W' H' : Hp) (v : β) (F' Fo : List Addr), Gr W H F W' H' (F' ++ Fo) → (b = true → Same H H') → Slots c W' H' σ e F' → rel σ W' H' v a Fo → Disj F' Fo → Q v H'
  | .err x e => ∀ (W' H' : Hp) (F' : List Addr) (cls : Value) (d : Option Addr), Gr W H F W' H' F' → Slots c W' H' σ e F' → ExRep c W' x cls d H' → XW cls d σ H'
  | .stuck => False
/-- the transformer of a denotation -/
def Tr {α β : Type} (XW : WX) (b : Bool) (rel : L2.St → Hp → Hp → β → α → List Addr → Prop) (m : Env → Res α) : L2.St → Hp → (β → Hp → Prop) → Prop := fun σ H Q =>
  ∃ (W : Hp) (e : Env) (F : List Addr), Le W H ∧ Slots c W H σ e F ∧ Pst c XW b rel W H σ F (m e) Q
abbrev rRV : L2.St → Hp → Hp → V → RV → List Addr → Prop := fun σ W H v rv F => RVr c W H σ v rv F
/-- of an expression; of a test -/
abbrev T (XW : WX) (b : Bool) (m : Env → Res RV) : TE := Tr c XW b (rRV c) m
abbrev rBl : L2.St → Hp → Hp → Bool → Bool → List Addr → Prop := fun _ _ _ v a F => v = a ∧ F = []
abbrev TB (XW : WX) (b : Bool) (m : Env → Res Bool) : TT := Tr c XW b rBl m
/-- of an argument list -/
inductive RVs (W H : Hp) (σ : L2.St) : List V → List RV → List Addr → Prop
  | nil : RVs W H σ [] [] []
  | cons {v : V} {vs : List V} {rv : RV} {rvs : List RV} {F G : List Addr} : RVr c W H σ v rv F → RVs W H σ vs rvs G → Disj F G → RVs W H σ (v :: vs) (rv :: rvs) (F ++ G)
abbrev rRVs : L2.St → Hp → Hp → List V → List RV → List Addr → Prop := fun σ W H v rv F => RVs c W H σ v rv F
abbrev TAr (XW : WX) (b : Bool) (m : Env → Res (List RV)) : TA := Tr c XW b (rRVs c) m
end
def Res.bind {α β : Type} (r : Res α) (k : α → Env → Res β) : Res β := match r with
  | .ok a e => k a e
  | .err x e => .err x e
  | .stuck => .stuck
section
variable {c : Cf} {XW : WX} {W H W1 H1 : Hp} {σ : L2.St} {e : Env} {F F1 G : List Addr} {α β γ δ : Type} {b b1 b2 : Bool} {rel : L2.St → Hp → Hp → β → α → List Addr → Prop} {rel1 : L2.St → Hp → Hp → δ → γ → List Addr → Prop}
theorem Pst.after {r : Res α} {Q : β → Hp → Prop} (p : Pst c XW b rel W H σ F r Q) (g : Gr W H F W1 H1 F1) (hb : b = true → Same H H1 ∧ b2 = true) : Pst c XW b2 rel W1 H1 σ F1 r Q := by
  cases r with
  | ok a e => exact fun W' H' v F' Fo g' s' k r d => p W' H' v F' Fo (g.trans g') (fun z => (hb z).1.trans (s' (hb z).2)) k r d
  | err x e => exact fun W' H' F' cls d g' k r => p W' H' F' cls d (g.trans g') k r
  | stuck => exact p
theorem Pst.more {r : Res α} {Q : β → Hp → Prop} (p : Pst c XW b rel W H σ G r Q) (s : ∀ a ∈ F, a ∈ G) : Pst c XW b rel W H σ F r Q := by
  cases r with
  | ok a e => exact fun W' H' v F' Fo g' s' k r d => p W' H' v F' Fo (g'.more s) s' k r d
  | err x e => exact fun W' H' F' cls d g' k r => p W' H' F' cls d (g'.more s) k r
  | stuck => exact p
/-- one part is run, then the rest; G is owned beside -/
theorem Tr.then {ma : Env → Res γ} {k : γ → Env → Res α} {Q : β → Hp → Prop} {K : δ → Hp → Prop} (le : Le W H) (s : Slots c W H σ e F) (dG : Disj F G) (hG : ∀ a ∈ G, H a ≠ none ∧ W a = none)
    (post : Pst c XW b rel W H σ (F ++ G) ((ma e).bind k) Q) (hb : b = true → b1 = true ∧ b2 = true)
    (hk : ∀ a e1 W1 H1 v F1 Fo, ma e = .ok a e1 → Gr W H F W1 H1 (F1 ++ Fo) → (b1 = true → Same H H1) → Slots c W1 H1 σ e1 F1 → rel1 σ W1 H1 v a Fo → Disj F1 Fo → Disj (F1 ++ Fo) G → (∀ a ∈ G, H1 a ≠ none ∧ W1 a = none) →
      Pst c XW b2 rel W1 H1 σ ((F1 ++ Fo) ++ G) (k a e1) Q → K v H1) : Tr c XW b1 rel1 ma σ H K := by
  refine ⟨W, e, F, le, s, ?_⟩
  cases q : ma e with
  | stuck => rw [q] at post; exact post
  | err x e1 =>
    rw [q] at post
    exact fun W' H' F' cls d g k r => post W' H' F' cls d (g.more fun a z => List.mem_append_left _ z) k r
  | ok a e1 =>
    rw [q] at post
    intro W1 H1 v F1 Fo g sm k r d
    have d1 : Disj (F1 ++ Fo) G := g.disj (fun a z => (hG a z).1) dG
    refine hk a e1 W1 H1 v F1 Fo q g sm k r d d1 (fun a z => ⟨g.there a (hG a z).1, g.out (hG a z).1 (hG a z).2 fun y => dG a y z⟩) ?_
    exact Pst.after post (g.frame G) fun z => ⟨sm (hb z).1, (hb z).2⟩
/-- the value at the end: T's temporaries at Gt, the rest stays -/
theorem Pst.val {o : O} {e : Env} {Q : VK} {v : V} {Gt Fo : List Addr} (p : Pst c XW b (rRV c) W H σ G (.ok (.tmp o) e) Q) (s : Slots c W H σ e F) (sG : ∀ a ∈ F, a ∈ G) (g : Gr W H Gt W1 H1 Fo) (dt : Disj F Gt) (st : ∀ a ∈ Gt, a ∈ G)
    (sm : b = true → Same H H1) (r : Rep c W1 H1 v o Fo) : Q v H1 := by
  refine p W1 H1 v F Fo ?_ sm (s.frame g dt) r (g.disj (fun a z => (s.dom a z).1) dt.symm).symm
  have g2 := (g.frame F).more (G := G) fun a z => (List.mem_append.mp z).elim (st a) (sG a)
  exact g2.less fun a z => (List.mem_append.mp z).elim (List.mem_append_right _) (List.mem_append_left _)
end
theorem pe_imp {X : Cx} {e : Expr} {t t' : TE} (h : PE X e t) (k : ∀ σ H Q, t' σ H Q → t σ H Q) : PE X e t' := ⟨fun pins s σ H Q I hw => h.run pins s σ H Q I (k σ H Q hw)⟩
theorem pt_imp {X : Cx} {e : Expr} {t t' : TT} (h : PT X e t) (k : ∀ σ H Q, t' σ H Q → t σ H Q) : PT X e t' := ⟨fun pins s σ H Q I hw => h.run pins s σ H Q I (k σ H Q hw)⟩
theorem pw_imp {X : Cx} {e : Expr} {t t' : TT} (h : PW X e t) (k : ∀ σ H Q, t' σ H Q → t σ H Q) : PW X e t' := ⟨fun wh pins s σ H Q I hw => h.run wh pins s σ H Q I (k σ H Q hw)⟩
theorem pa_imp {X : Cx} {es : List Expr} {t t' : TA} (h : PA X es t) (k : ∀ σ H Q, t' σ H Q → t σ H Q) : PA X es t' := ⟨fun pos pins s σ H Q I hw => h.run pos pins s σ H Q I (k σ H Q hw)⟩
theorem ps_imp {X : Cx} {st : Stmt} {t t' : TS} (h : PS X st t) (k : ∀ D σ H, t' D σ H → t D σ H) : PS X st t' := ⟨fun pins s σ H D I hw => h.run pins s σ H D I (k D σ H hw)⟩
theorem pss_imp {X : Cx} {st : List Stmt} {t t' : TS} (h : PSs X st t) (k : ∀ D σ H, t' D σ H → t D σ H) : PSs X st t' := ⟨fun pins s σ H D I hw => h.run pins s σ H D I (k D σ H hw)⟩

section
variable {c : Cf} {W H W' H' : Hp} {σ : L2.St} {e : Env} {F : List Addr}
/-- what a result is worth where one reads it -/
theorem RVr.rep {v : V} {rv : RV} {Fo : List Addr} {o : O} (r : RVr c W H σ v rv Fo) (s : Slots c W H σ e F) (h : rv.get e = some o) : ∃ G, Rep c W H v o G ∧ ∀ a ∈ G, a ∈ F ∨ a ∈ Fo := by
  cases rv with
  | tmp o' => cases h; exact ⟨Fo, r, fun _ z => .inr z⟩
  | pl i p =>
    obtain ⟨_, v0, h0, ha⟩ := r
    have h : (e.at i).bind (fun x => x.get p) = some o := h
    cases q : e.at i with
    | none => rw [q] at h; cases h
    | some o0 =>
      rw [q] at h
      obtain ⟨G, R, h1, h2, _⟩ := s.hole (Env.at_some q) h0 ha h
      exact ⟨G, h1, fun a z => .inl (h2 a z)⟩
/-- a result, taken -/
theorem RVr.take {v : V} {rv : RV} {Fo : List Addr} {o : O} {e' : Env} (le : Le W H) (r : RVr c W H σ v rv Fo) (s : Slots c W H σ e F) (d : Disj F Fo) (h : rv.take e = some (o, e')) :
    ∃ W' F' Fo', Gr W H (F ++ Fo) W' H (F' ++ Fo') ∧ Slots c W' H σ e' F' ∧ Rep c W' H v o Fo' ∧ Disj F' Fo' := by
  cases rv with
  | tmp o' => cases h; exact ⟨W, F, Fo, .refl le, s, r, d⟩
  | pl i p =>
    obtain ⟨e1, v0, h0, ha⟩ := r
    subst e1
    have h : ((RV.pl i p).get e).map (fun o => (O.val o.fz, e.put i p (.val o.fz))) = some (o, e') := h
    cases q : (RV.pl i p).get e with
    | none => rw [q] at h; cases h
    | some o1 =>
      rw [q] at h
      have h := Option.some.inj h
      have q : (e.at i).bind (fun x => x.get p) = some o1 := q
      cases q0 : e.at i with
      | none => rw [q0] at q; cases q
      | some o0 =>
        rw [q0] at q
        obtain ⟨G, R, h1, h2, h3, h4, h5⟩ := s.hole (Env.at_some q0) h0 ha q
        have dm := h1.dom
        have g : Gr W H F (plus W H G) H F := Gr.plus le (fun a z => (dm a z).2) h2
        have dt : Dat c (plus W H G) v o1.fz := h1.fz (plus_same fun a z => (dm a z).2) fun a z => plus_in z
        obtain ⟨F', k1, k2⟩ := h5 (plus W H G) H (.val o1.fz) [] (plus_same fun a z => (dm a z).2) (fun a z => ⟨rfl, by rw [plus_out fun y => h4 a y z]; exact (s.dom a (h3 a z)).2⟩) (.val dt) Disj.nil_left
        have e2 : e' = e.set i (some (o0.put p (.val o1.fz))) := by
          have := congrArg Prod.snd h
          dsimp only at this
          rw [← this]
          unfold Env.put
          rw [q0]
        have e3 : o = .val o1.fz := (congrArg Prod.fst h).symm
        subst e2 e3
        refine ⟨_, F', [], ?_, k1, .val dt, Disj.nil_right⟩
        rw [List.append_nil, List.append_nil]
        exact g.less fun a z => (k2 a z).elim (h3 a) fun z => absurd z List.not_mem_nil
/-- nothing owned is touched: slots stay -/
theorem Slots.grow {Fo : List Addr} (g : Gr W H [] W' H' Fo) (s : Slots c W H σ e F) : Slots c W' H' σ e F ∧ Disj F Fo := by
  refine ⟨s.frame g Disj.nil_right, fun a h h' => ?_⟩
  rcases g.own a h' with z | z
  · exact absurd z List.not_mem_nil
  · exact (s.dom a h).1 z
theorem RVr.frame {v : V} {rv : RV} {Fo G G' : List Addr} (g : Gr W H G W' H' G') (r : RVr c W H σ v rv Fo) (d : Disj Fo G) (st : ∀ i p, rv = .pl i p → p = [] ∨ Same H H') : RVr c W' H' σ v rv Fo := by
  cases rv with
  | tmp o => exact Rep.frame g r d
  | pl i p =>
    obtain ⟨e1, v0, h0, ha⟩ := r
    refine ⟨e1, v0, h0, ?_⟩
    rcases st i p rfl with z | z
    · subst z; cases ha; exact .nil
    · exact ha.same z
end
end Z

set_option maxRecDepth 100000
set_option maxHeartbeats 2000000
/-! Z.values: what operations make of data -/
namespace Z
open PySem L2

theorem sOk_len {s : Str} (h : sOk s = true) : s.length ≤ sizeLine := by
  unfold sOk at h
  rw [Bool.and_eq_true] at h
  exact of_decide_eq_true h.1
theorem sOk_cps {s : Str} (h : sOk s = true) : PyData.strOk s = true := by
  unfold sOk at h
  rw [Bool.and_eq_true] at h
  exact h.2

/-! ### data as the library's plain data -/
mutual
def D.py : D → Option PyData
  | .non => some .none
  | .bl b => some (.bool b)
  | .int i => some (.int i)
  | .str s => some (.str s)
  | .tup ds => (pyL ds).map .tuple
  | .lst ds => (pyL ds).map .list
  | .dct _ => none
  | .dcT _ => none
  | .obj _ _ => none
  | .fn _ => none
  | .ty _ => none
  | .ctp ds => (pyL ds).map .tuple
  | .cl _ => none
  | .exn _ _ => none
def pyL : List D → Option (List PyData)
  | [] => some []
  | d :: ds => (D.py d).bind fun p => (pyL ds).map (p :: ·)
end
section
variable {c : Cf} {H : Hp}
mutual
theorem Dat.dp : ∀ {v : V} {d : D} {p : PyData}, Dat c H v d → d.py = some p → Dp c.K H v p
  | _, _, _, .non, h => by unfold D.py at h; cases h; exact .non
  | _, _, _, .bl b, h => by unfold D.py at h; cases h; exact .bl b
  | _, _, _, .int i, h => by unfold D.py at h; cases h; exact .int i
  | _, _, _, .str s _, h => by unfold D.py at h; cases h; exact .str s
  | _, _, _, .tup (ds := ds) hs k, h => by
    unfold D.py at h
    cases q : pyL ds with
    | none => rw [q] at h; cases h
    | some ps => rw [q] at h; cases h; exact .tup (SqT.of hs) (DatL.dp k q)
  | _, _, _, .lst (ds := ds) hs k, h => by
    unfold D.py at h
    cases q : pyL ds with
    | none => rw [q] at h; cases h
    | some ps => rw [q] at h; cases h; exact .lst hs (DatL.dp k q)
  | _, _, _, .dct .., h => by unfold D.py at h; cases h
  | _, _, _, .dcT .., h => by unfold D.py at h; cases h
  | _, _, _, .obj .., h => by unfold D.py at h; cases h
  | _, _, _, .fn .., h => by unfold D.py at h; cases h
  | _, _, _, .ty .., h => by unfold D.py at h; cases h
  | _, _, _, .ctp (ds := ds) hs k, h => by
    unfold D.py at h
    cases q : pyL ds with
    | none => rw [q] at h; cases h
    | some ps => rw [q] at h; cases h; exact .tup hs (DatL.dp k q)
  | _, _, _, .cl .., h => by unfold D.py at h; cases h
  | _, _, _, .exn .., h => by unfold D.py at h; cases h
theorem DatL.dp : ∀ {vs : List V} {ds : List D} {ps : List PyData}, DatL c H vs ds → pyL ds = some ps → DpAll c.K H vs ps
  | _, _, _, .nil, h => by unfold pyL at h; cases h; exact .nil
  | _, _, _, .cons (d := d) (ds := ds) a k, h => by
    unfold pyL at h
    cases q : d.py with
    | none => rw [q] at h; cases h
    | some p =>
      rw [q] at h
      cases r : pyL ds with
      | none => rw [r] at h; cases h
      | some ps => rw [r] at h; cases h; exact .cons (Dat.dp a q) (DatL.dp k r)
end
end
/-- what is owned, looked at in the heap as it stands -/
theorem Rep.dat {c : Cf} {W H : Hp} {v : V} {o : O} {F : List Addr} (e : Le W H) (r : Rep c W H v o F) : Dat c H v o.fz := by
  obtain ⟨W', g, d⟩ := r.freeze e
  exact d.mono g.le

/-! ### scalars -/
def sv : D → Option V
  | .non => some .non
  | .bl b => some (.bl b)
  | .int i => some (.int i)
  | .str s => if sOk s = true then some (.str s) else none
  | .ty n => some (.ty n)
  | _ => none
theorem sv_str {s : Str} : sv (.str s) = if sOk s = true then some (.str s) else none := rfl
theorem sv_dat {c : Cf} {W : Hp} {d : D} {v : V} (h : sv d = some v) : Dat c W v d := by
  cases d with
  | non => cases h; exact .non
  | bl b => cases h; exact .bl b
  | int i => cases h; exact .int i
  | str s =>
    rw [sv_str] at h
    split at h
    · rename_i z; cases h; exact .str s z
    · cases h
  | ty n => cases h; exact .ty n
  | _ => cases h
theorem dat_sv {c : Cf} {W : Hp} {d : D} {v w : V} (h : Dat c W w d) (e : sv d = some v) : w = v := by
  cases h <;> first
    | (cases e; done)
    | (rw [sv_str] at e; split at e <;> first | (cases e; rfl) | cases e)
    | (cases e; rfl)

/-! ### what two values come to -/
/-- small whole numbers, said so that the kernel never counts down a great number -/
def smallI (n : Nat) : Int → Bool
  | .ofNat m => Nat.ble m n
  | .negSucc m => Nat.blt m n
theorem smallI_eq (n : Nat) (i : Int) : smallI n i = decide (-(n : Int) ≤ i ∧ i ≤ n) := by
  rw [Bool.eq_iff_iff, decide_eq_true_iff]
  cases i with
  | ofNat m => simp only [smallI, Nat.ble_eq, Int.ofNat_eq_natCast]; omega
  | negSucc m => simp only [smallI, Nat.blt_eq]; omega
def mulOk (i j : Int) : Bool := smallI 18446744073709551615 i || smallI 18446744073709551615 j
theorem mulOk_eq (i j : Int) : mulOk i j = (decide (-(2 ^ 64) < i ∧ i < 2 ^ 64) || decide (-(2 ^ 64) < j ∧ j < 2 ^ 64)) := by
  unfold mulOk
  rw [smallI_eq, smallI_eq]
  congr 1 <;> (rw [Bool.eq_iff_iff, decide_eq_true_iff, decide_eq_true_iff]; omega)
def powOk (i j : Int) : Bool := smallI 18446744073709551615 i && match j with
  | .ofNat n => Nat.ble n 1000000
  | _ => false
theorem powOk_eq (i j : Int) : powOk i j = decide (0 ≤ j ∧ j ≤ 1000000 ∧ i.natAbs < 2 ^ 64) := by
  unfold powOk
  rw [smallI_eq, Bool.eq_iff_iff, decide_eq_true_iff, Bool.and_eq_true, decide_eq_true_iff]
  cases j with
  | ofNat m => simp only [Nat.ble_eq, Int.ofNat_eq_natCast]; omega
  | negSucc m => simp only [Bool.false_eq_true, and_false, false_iff]; omega
def divOk : Int → Bool
  | .ofNat (n + 1) => Nat.ble n 1073741822
  | _ => false
theorem divOk_eq (j : Int) : divOk j = decide (0 < j ∧ j < 1073741824) := by
  rw [Bool.eq_iff_iff, decide_eq_true_iff]
  match j with
  | .ofNat 0 => simp [divOk]
  | .ofNat (n + 1) => simp only [divOk, Nat.ble_eq, Int.ofNat_eq_natCast]; omega
  | .negSucc n => simp only [divOk, Bool.false_eq_true, false_iff]; omega
namespace D
def add : D → D → Option D
  | .int i, .int j => some (.int (i + j))
  | .str s, .str t => if s.length + t.length ≤ sizeLine then some (.str (s ++ t)) else none
  | _, _ => none
def sub : D → D → Option D
  | .int i, .int j => some (.int (i - j))
  | _, _ => none
def mul : D → D → Option D
  | .int i, .int j => if mulOk i j = true then some (.int (i * j)) else none
  | _, _ => none
def fdiv : D → D → Option D
  | .int i, .int j => if divOk j = true then some (.int (i / j)) else none
  | _, _ => none
def mod : D → D → Option D
  | .int i, .int j => if 0 < j then some (.int (i % j)) else none
  | _, _ => none
def pow : D → D → Option D
  | .int i, .int j => if powOk i j = true then some (.int (i ^ j.toNat)) else none
  | _, _ => none
def shl : D → D → Option D
  | .int i, .int j => if powOk i j = true then some (.int (i * 2 ^ j.toNat)) else none
  | _, _ => none
def shr : D → D → Option D
  | .int i, .int j => if 0 ≤ j then some (.int (i / 2 ^ j.toNat)) else none
  | _, _ => none
def band : D → D → Option D
  | .int i, .int j => some (.int (Builtin.bitAnd i j))
  | _, _ => none
def lt : D → D → Option D
  | .int i, .int j => some (.bl (decide (i < j)))
  | .str s, .str t => some (.bl (decide (s.cps.toList < t.cps.toList)))
  | _, _ => none
def le : D → D → Option D
  | .int i, .int j => some (.bl (decide (i ≤ j)))
  | _, _ => none
def gt : D → D → Option D
  | .int i, .int j => some (.bl (decide (j < i)))
  | _, _ => none
def ge : D → D → Option D
  | .int i, .int j => some (.bl (decide (j ≤ i)))
  | _, _ => none
/-- == of plain data -/
def eqb (a b : D) : Option Bool := match a.py, b.py with
  | some p, some q => if (SeqAt.shaped p && SeqAt.shaped q) = true then some (PyData.eqv p q) else none
  | _, _ => none
def eq (a b : D) : Option D := (eqb a b).map .bl
def ne (a b : D) : Option D := (eqb a b).map fun k => .bl (!k)
def isN : D → D → Option D
  | .non, .non => some (.bl true)
  | _, .non => some (.bl false)
  | _, _ => none
def isNotN : D → D → Option D
  | .non, .non => some (.bl false)
  | _, .non => some (.bl true)
  | _, _ => none
end D

section
variable (c : Cf)
/-- the rule r of two values is worth f, a scalar -/
def Sc2 (r : R2) (f : D → D → Option D) : Prop := ∀ (H : Hp) (x y : V) (dx dy d : D) (v : V) (Q : VK), Dat c H x dx → Dat c H y dy → f dx dy = some d → sv d = some v → Q v H → r x y H Q
end
section
variable {c : Cf}
theorem sc_I0 {g : Int → Int → Int} {f : D → D → Option D} (hf : ∀ a b d, f a b = some d → ∃ i j, a = .int i ∧ b = .int j ∧ d = .int (g i j)) : Sc2 c (rI0 fun i j => .int (g i j)) f := fun H x y dx dy d v Q hx hy e ev q => by
  obtain ⟨i, j, rfl, rfl, rfl⟩ := hf _ _ _ e
  cases hx; cases hy; cases ev
  exact ⟨i, j, rfl, rfl, q⟩
theorem sc_I {C : Int → Int → Prop} {g : Int → Int → Int} {f : D → D → Option D} (hf : ∀ a b d, f a b = some d → ∃ i j, a = .int i ∧ b = .int j ∧ C i j ∧ d = .int (g i j)) : Sc2 c (rI C fun i j => .int (g i j)) f := fun H x y dx dy d v Q hx hy e ev q => by
  obtain ⟨i, j, rfl, rfl, hc, rfl⟩ := hf _ _ _ e
  cases hx; cases hy; cases ev
  exact ⟨i, j, rfl, rfl, hc, q⟩
theorem sc_B0 {g : Int → Int → Bool} {f : D → D → Option D} (hf : ∀ a b d, f a b = some d → ∃ i j, a = .int i ∧ b = .int j ∧ d = .bl (g i j)) : Sc2 c (rI0 fun i j => .bl (g i j)) f := fun H x y dx dy d v Q hx hy e ev q => by
  obtain ⟨i, j, rfl, rfl, rfl⟩ := hf _ _ _ e
  cases hx; cases hy; cases ev
  exact ⟨i, j, rfl, rfl, q⟩
def rAddS : R2 := fun x y H Q => ∃ i j, x = .str i ∧ y = .str j ∧ i.length + j.length ≤ sizeLine ∧ Q (.str (i ++ j)) H
theorem sc_add : Sc2 c (fun x y H Q => rI0 (fun i j => .int (i + j)) x y H Q ∨ rAddS x y H Q) D.add := fun H x y dx dy d v Q hx hy e ev q => by
  unfold D.add at e
  split at e
  · cases e; cases hx; cases hy; cases ev
    exact .inl ⟨_, _, rfl, rfl, q⟩
  · split at e
    · cases e; cases hx; cases hy
      rw [sv_str] at ev
      split at ev
      · cases ev
        exact .inr ⟨_, _, rfl, rfl, by assumption, q⟩
      · cases ev
    · cases e
  · cases e
theorem sc_sub : Sc2 c (rI0 fun i j => .int (i - j)) D.sub := sc_I0 fun a b d h => by
  unfold D.sub at h
  split at h
  · cases h; exact ⟨_, _, rfl, rfl, rfl⟩
  · cases h
theorem mulOk_of {i j : Int} (h : mulOk i j = true) : CMul i j := by
  rw [mulOk_eq, Bool.or_eq_true] at h
  exact h.imp of_decide_eq_true of_decide_eq_true
theorem sc_mul : Sc2 c (rI CMul fun i j => .int (i * j)) D.mul := sc_I fun a b d h => by
  unfold D.mul at h
  split at h
  · split at h
    · cases h; exact ⟨_, _, rfl, rfl, mulOk_of (by assumption), rfl⟩
    · cases h
  · cases h
theorem sc_fdiv : Sc2 c (rI CDiv fun i j => .int (i / j)) D.fdiv := sc_I fun a b d h => by
  unfold D.fdiv at h
  split at h
  · split at h
    · rename_i hd
      rw [divOk_eq] at hd
      cases h; exact ⟨_, _, rfl, rfl, of_decide_eq_true (p := 0 < _ ∧ _ < 1073741824) hd, rfl⟩
    · cases h
  · cases h
theorem sc_mod : Sc2 c (rI (fun _ j => 0 < j) fun i j => .int (i % j)) D.mod := sc_I fun a b d h => by
  unfold D.mod at h
  split at h
  · split at h
    · cases h; exact ⟨_, _, rfl, rfl, (by assumption), rfl⟩
    · cases h
  · cases h
theorem powOk_of {i j : Int} (h : powOk i j = true) : CPow i j := by
  rw [powOk_eq] at h
  exact of_decide_eq_true (p := 0 ≤ j ∧ j ≤ 1000000 ∧ i.natAbs < 2 ^ 64) h
theorem sc_pow : Sc2 c (rI CPow fun i j => .int (i ^ j.toNat)) D.pow := sc_I fun a b d h => by
  unfold D.pow at h
  split at h
  · split at h
    · cases h; exact ⟨_, _, rfl, rfl, powOk_of (by assumption), rfl⟩
    · cases h
  · cases h
theorem sc_shl : Sc2 c (rI CPow fun i j => .int (i * 2 ^ j.toNat)) D.shl := sc_I fun a b d h => by
  unfold D.shl at h
  split at h
  · split at h
    · cases h; exact ⟨_, _, rfl, rfl, powOk_of (by assumption), rfl⟩
    · cases h
  · cases h
theorem sc_shr : Sc2 c (rI (fun _ j => 0 ≤ j) fun i j => .int (i / 2 ^ j.toNat)) D.shr := sc_I fun a b d h => by
  unfold D.shr at h
  split at h
  · split at h
    · cases h; exact ⟨_, _, rfl, rfl, (by assumption), rfl⟩
    · cases h
  · cases h
theorem sc_and : Sc2 c (rI0 fun i j => .int (Builtin.bitAnd i j)) D.band := sc_I0 fun a b d h => by
  unfold D.band at h
  split at h
  · cases h; exact ⟨_, _, rfl, rfl, rfl⟩
  · cases h
def rLtS : R2 := fun x y H Q => ∃ i j, x = .str i ∧ y = .str j ∧ Q (.bl (decide (i.cps.toList < j.cps.toList))) H
theorem sc_lt : Sc2 c (fun x y H Q => rI0 (fun i j => .bl (decide (i < j))) x y H Q ∨ rLtS x y H Q) D.lt := fun H x y dx dy d v Q hx hy e ev q => by
  unfold D.lt at e
  split at e
  · cases e; cases hx; cases hy; cases ev
    exact .inl ⟨_, _, rfl, rfl, q⟩
  · cases e; cases hx; cases hy; cases ev
    exact .inr ⟨_, _, rfl, rfl, q⟩
  · cases e
theorem sc_le : Sc2 c (rI0 fun i j => .bl (decide (i ≤ j))) D.le := sc_B0 fun a b d h => by
  unfold D.le at h
  split at h
  · cases h; exact ⟨_, _, rfl, rfl, rfl⟩
  · cases h
theorem sc_gt : Sc2 c (rI0 fun i j => .bl (decide (j < i))) D.gt := sc_B0 fun a b d h => by
  unfold D.gt at h
  split at h
  · cases h; exact ⟨_, _, rfl, rfl, rfl⟩
  · cases h
theorem sc_ge : Sc2 c (rI0 fun i j => .bl (decide (j ≤ i))) D.ge := sc_B0 fun a b d h => by
  unfold D.ge at h
  split at h
  · cases h; exact ⟨_, _, rfl, rfl, rfl⟩
  · cases h
theorem eqb_of {a b : D} {k : Bool} (h : D.eqb a b = some k) : ∃ p q, a.py = some p ∧ b.py = some q ∧ SeqAt.shaped p = true ∧ SeqAt.shaped q = true ∧ k = PyData.eqv p q := by
  unfold D.eqb at h
  split at h
  · rename_i p q hp hq
    split at h
    · rename_i z
      rw [Bool.and_eq_true] at z
      cases h
      exact ⟨p, q, hp, hq, z.1, z.2, rfl⟩
    · cases h
  · cases h
theorem sc_eq : Sc2 c (rEqD c.K) D.eq := fun H x y dx dy d v Q hx hy e ev q => by
  unfold D.eq at e
  cases z : D.eqb dx dy with
  | none => rw [z] at e; cases e
  | some k =>
    rw [z] at e; cases e; cases ev
    obtain ⟨p, r, hp, hq, sp, sq, rfl⟩ := eqb_of z
    exact ⟨p, r, hx.dp hp, hy.dp hq, sp, sq, q⟩
theorem sc_ne : Sc2 c (rNeD c.K) D.ne := fun H x y dx dy d v Q hx hy e ev q => by
  unfold D.ne at e
  cases z : D.eqb dx dy with
  | none => rw [z] at e; cases e
  | some k =>
    rw [z] at e; cases e; cases ev
    obtain ⟨p, r, hp, hq, sp, sq, rfl⟩ := eqb_of z
    exact ⟨p, r, hx.dp hp, hy.dp hq, sp, sq, q⟩
theorem sc_isN : Sc2 c (fun x y H Q => y = .non ∧ Q (.bl (decide (x = .non))) H) D.isN := fun H x y dx dy d v Q hx hy e ev q => by
  unfold D.isN at e
  split at e
  · cases e; cases hx; cases hy; cases ev; exact ⟨rfl, q⟩
  · rename_i hn
    cases e; cases hy; cases ev
    refine ⟨rfl, ?_⟩
    have : x ≠ .non := fun z => by subst z; cases hx; exact hn rfl
    rw [decide_eq_false this]; exact q
  · cases e
theorem sc_isNotN : Sc2 c (fun x y H Q => y = .non ∧ Q (.bl (!decide (x = .non))) H) D.isNotN := fun H x y dx dy d v Q hx hy e ev q => by
  unfold D.isNotN at e
  split at e
  · cases e; cases hx; cases hy; cases ev; exact ⟨rfl, q⟩
  · rename_i hn
    cases e; cases hy; cases ev
    refine ⟨rfl, ?_⟩
    have : x ≠ .non := fun z => by subst z; cases hx; exact hn rfl
    rw [decide_eq_false this]; exact q
  · cases e
end

/-! ### in, not in -/
namespace D
def keyOf : D → Option Key
  | .int i => some (.inl i)
  | .str s => some (.inr s)
  | _ => none
def keysOf : List D → Option (List Key)
  | [] => some []
  | d :: ds => (keyOf d).bind fun k => (keysOf ds).map (k :: ·)
def hasK {κ : Type} [DecidableEq κ] (k : κ) (kvs : List (κ × D)) : Bool := kvs.any fun p => decide (p.1 = k)
/-- a flat value -/
def fl : D → Option V
  | .non => some .non
  | .bl b => some (.bl b)
  | .int i => some (.int i)
  | .str s => some (.str s)
  | _ => none
def flL : List D → Option (List V)
  | [] => some []
  | d :: ds => (fl d).bind fun p => (flL ds).map (p :: ·)
/-- x in y -/
def inb (x y : D) : Option Bool := match y with
  | .str t => match x with
    | .str s => some (!(Builtin.Str.occurrences t s 0 t.length 1).isEmpty)
    | _ => none
  | .lst ds => match x.py, pyL ds with
    | some p, some ps => if (SeqAt.shaped p && SeqAt.shaped (.list ps)) = true then some (ps.any fun z => PyData.eqv z p) else none
    | _, _ => none
  | .tup ds => match fl x, flL ds with
    | some v, some vs => some (inV v vs)
    | _, _ => none
  | .dct kvs => (keyOf x).map fun k => hasK k kvs
  | .dcT kvs => match x with
    | .tup ds => (keysOf ds).map fun k => hasK k kvs
    | _ => none
  | _ => none
def isIn (x y : D) : Option D := (inb x y).map .bl
def notIn (x y : D) : Option D := (inb x y).map fun k => .bl (!k)
end D
def rInS (neg : Bool) : R2 := fun x y H Q => ∃ i j, x = .str i ∧ y = .str j ∧ Q (.bl (if neg then !(!(Builtin.Str.occurrences j i 0 j.length 1).isEmpty) else !(Builtin.Str.occurrences j i 0 j.length 1).isEmpty)) H
def rInDc (neg : Bool) : R2 := fun x y H Q => ∃ a o, y = .ref a ∧ DGet H a x o ∧ Q (.bl (if neg then !o.isSome else o.isSome)) H
section
variable {c : Cf}
theorem hasK_val {κ : Type} [DecidableEq κ] {k : κ} : ∀ {kvs : List (κ × V)} {ds : List (κ × D)}, kvs.map (·.1) = ds.map (·.1) → (valV kvs k).isSome = D.hasK k ds
  | [], [], _ => rfl
  | [], _ :: _, h => by cases h
  | _ :: _, [], h => by cases h
  | p :: kvs, q :: ds, h => by
    have h1 : p.1 = q.1 := (List.cons.inj h).1
    have ih := hasK_val (k := k) (List.cons.inj h).2
    unfold D.hasK at ih ⊢
    rw [List.any_cons, ← ih, ← valV_any, ← valV_any, List.any_cons, h1]
theorem keyOf_dat {H : Hp} {x : V} {d : D} {k : Key} (h : Dat c H x d) (e : D.keyOf d = some k) : x = kV k := by
  cases d with
  | int i => cases e; cases h; rfl
  | str s => cases e; cases h; rfl
  | _ => cases e
theorem keysOf_dat {H : Hp} : ∀ {xs : List V} {ds : List D} {ks : List Key}, DatL c H xs ds → D.keysOf ds = some ks → xs = ks.map kV
  | _, _, _, .nil, h => by unfold D.keysOf at h; cases h; rfl
  | _, _, _, .cons (d := d) (ds := ds) a k, h => by
    unfold D.keysOf at h
    cases q : D.keyOf d with
    | none => rw [q] at h; cases h
    | some p =>
      rw [q] at h
      cases r : D.keysOf ds with
      | none => rw [r] at h; cases h
      | some ps => rw [r] at h; cases h; rw [keyOf_dat a q, keysOf_dat k r]; rfl
theorem fl_dat {H : Hp} {x : V} {d : D} {v : V} (h : Dat c H x d) (e : D.fl d = some v) : x = v ∧ flatV v = true := by
  cases d with
  | non => cases e; cases h; exact ⟨rfl, rfl⟩
  | bl b => cases e; cases h; exact ⟨rfl, rfl⟩
  | int i => cases e; cases h; exact ⟨rfl, rfl⟩
  | str s => cases e; cases h; exact ⟨rfl, rfl⟩
  | _ => cases e
theorem flL_dat {H : Hp} : ∀ {xs : List V} {ds : List D} {vs : List V}, DatL c H xs ds → D.flL ds = some vs → xs = vs ∧ vs.all flatV = true
  | _, _, _, .nil, h => by unfold D.flL at h; cases h; exact ⟨rfl, rfl⟩
  | _, _, _, .cons (d := d) (ds := ds) a k, h => by
    unfold D.flL at h
    cases q : D.fl d with
    | none => rw [q] at h; cases h
    | some p =>
      rw [q] at h
      cases r : D.flL ds with
      | none => rw [r] at h; cases h
      | some ps =>
        rw [r] at h; cases h
        obtain ⟨e1, f1⟩ := fl_dat a q
        obtain ⟨e2, f2⟩ := flL_dat k r
        rw [e1, e2]
        exact ⟨rfl, by rw [List.all_cons, f1, f2]; rfl⟩
/-- in | not in, by what the right side is -/
def rInA (K : PySem.W.Frag) (neg : Bool) : R2 := fun x y H Q => rInS neg x y H Q ∨ (if neg then rNotInD K x y H Q else rInD K x y H Q) ∨ rIn K neg x y H Q ∨ rInDc neg x y H Q
theorem inA {H : Hp} {x y : V} {dx dy : D} {k : Bool} (neg : Bool) (Q : VK) (hx : Dat c H x dx) (hy : Dat c H y dy) (e : D.inb dx dy = some k) (q : Q (.bl (if neg then !k else k)) H) : rInA c.K neg x y H Q := by
  unfold D.inb at e
  split at e
  · -- text
    split at e
    · cases e; cases hx; cases hy
      exact .inl ⟨_, _, rfl, rfl, q⟩
    · cases e
  · -- list
    split at e
    · rename_i p ps hp hps
      split at e
      · rename_i z
        rw [Bool.and_eq_true] at z
        cases e
        cases hy with
        | lst hs kk =>
          refine .inr (.inl ?_)
          cases neg with
          | true => exact ⟨p, ps, hx.dp hp, .lst hs (kk.dp hps), z.1, z.2, q⟩
          | false => exact ⟨p, ps, hx.dp hp, .lst hs (kk.dp hps), z.1, z.2, q⟩
      · cases e
    · cases e
  · -- tuple
    split at e
    · rename_i v vs hv hvs
      cases e
      cases hy with
      | tup hs kk =>
        obtain ⟨e1, f1⟩ := fl_dat hx hv
        obtain ⟨e2, f2⟩ := flL_dat kk hvs
        subst e1 e2
        exact .inr (.inr (.inl ⟨_, _, rfl, .inr (SqT.of hs), f1, f2, q⟩))
    · cases e
  · -- dict
    rename_i kvs
    cases hk : D.keyOf dx with
    | none => rw [hk] at e; cases e
    | some key =>
      rw [hk] at e; cases e
      cases hy with
      | dct hr hn kk =>
        have := keyOf_dat hx hk
        subst this
        refine .inr (.inr (.inr ⟨_, _, rfl, .inl ⟨_, key, hr, rfl, rfl⟩, ?_⟩))
        rw [hasK_val hn]; exact q
  · -- dict, tuples
    split at e
    · rename_i ds
      cases hk : D.keysOf ds with
      | none => rw [hk] at e; cases e
      | some key =>
        rw [hk] at e; cases e
        cases hy with
        | dcT hr hn kk =>
          cases hx with
          | tup hs kx =>
            have := keysOf_dat kx hk
            subst this
            refine .inr (.inr (.inr ⟨_, _, rfl, .inr ⟨_, key, _, hr, rfl, hs, rfl⟩, ?_⟩))
            rw [hasK_val hn]; exact q
    · cases e
  · cases e
theorem sc_in : Sc2 c (rInA c.K false) D.isIn := fun H x y dx dy d v Q hx hy e ev q => by
  unfold D.isIn at e
  cases z : D.inb dx dy with
  | none => rw [z] at e; cases e
  | some k => rw [z] at e; cases e; cases ev; exact inA false Q hx hy z q
theorem sc_notIn : Sc2 c (rInA c.K true) D.notIn := fun H x y dx dy d v Q hx hy e ev q => by
  unfold D.notIn at e
  cases z : D.inb dx dy with
  | none => rw [z] at e; cases e
  | some k => rw [z] at e; cases e; cases ev; exact inA true Q hx hy z q
end
section
variable {X : Cx}
theorem op_inDc (hu : X.A.units + 64 < cLine) : OpR X (compareOp .In) (rInDc false) := by
  intro pins s σ H x y v u Q I rx ry h
  obtain ⟨a, o, rfl, g, q⟩ := h
  cases ry
  exact d_in (by omega) I g rx fun s' I' => ⟨.bl _, H, I', rfl, q⟩
theorem op_notInDc (hu : X.A.units + 64 < cLine) : OpR X (compareOp .NotIn) (rInDc true) := by
  intro pins s σ H x y v u Q I rx ry h
  obtain ⟨a, o, rfl, g, q⟩ := h
  cases ry
  exact d_notIn (by omega) I g rx fun s' I' => ⟨.bl _, H, I', rfl, q⟩
theorem op_inA (hu : X.A.units + 65 < cLine) : OpR X (compareOp .In) (rInA X.K false) :=
  OpR.or op_in_str (OpR.or (op_inD hu) (OpR.or op_in_seq (op_inDc (by omega))))
theorem op_notInA (hu : X.A.units + 65 < cLine) : OpR X (compareOp .NotIn) (rInA X.K true) :=
  OpR.or op_notin_str (OpR.or (op_notInD hu) (OpR.or op_notIn_seq (op_notInDc (by omega))))
theorem op_addA : OpR X (binaryOp .Add) (fun x y H Q => rI0 (fun i j => .int (i + j)) x y H Q ∨ rAddS x y H Q) := OpR.or op_add op_add_str
theorem op_ltA : OpR X (compareOp .Lt) (fun x y H Q => rI0 (fun i j => .bl (decide (i < j))) x y H Q ∨ rLtS x y H Q) := OpR.or op_lt op_lt_str
end
end Z

set_option maxRecDepth 100000
set_option maxHeartbeats 2000000
/-! Z.expr: expressions out of denotations -/
namespace Z
open PySem L2

abbrev rv (d : D) : RV := .tmp (.val d)
/-- the data that stands behind a result -/
def RV.fz (r : RV) (e : Env) : Option D := (r.get e).map O.fz
def Res.of {α : Type} (e : Env) : Option α → Res α
  | some a => .ok a e
  | none => .stuck
/-- a scalar, or nothing -/
def scal (d : Option D) : Option RV := d.bind fun d => if (sv d).isSome then some (rv d) else none

/-! ### the denotations -/
def nameD (i : Nat) : Env → Res RV := fun e => match e.at i with
  | some (.val d) => .ok (rv d) e
  | some _ => .ok (.pl i []) e
  | none => .stuck
def mvD (i : Nat) : Env → Res RV := fun e => match e.at i with
  | some o => .ok (.tmp o) (e.set i none)
  | none => .stuck
def conD (d : D) : Env → Res RV := fun e => .ok (rv d) e
def op2D (f : D → D → Option D) (ma mb : Env → Res RV) : Env → Res RV := fun e => (ma e).bind fun a e1 => (mb e1).bind fun b e2 => Res.of e2 ((a.fz e2).bind fun x => (b.fz e2).bind fun y => scal (f x y))
def op1D (f : D → Option D) (ma : Env → Res RV) : Env → Res RV := fun e => (ma e).bind fun a e1 => Res.of e1 ((a.fz e1).bind fun x => scal (f x))
def boolOf : D → Option Bool
  | .bl b => some b
  | _ => none
def RV.bool (r : RV) : Option Bool := match r with
  | .tmp (.val (.bl b)) => some b
  | _ => none
def testD (ma : Env → Res RV) : Env → Res Bool := fun e => (ma e).bind fun a e1 => Res.of e1 a.bool
def andD (ma mb : Env → Res Bool) : Env → Res Bool := fun e => (ma e).bind fun a e1 => if a = true then mb e1 else .ok false e1
def orD (ma mb : Env → Res Bool) : Env → Res Bool := fun e => (ma e).bind fun a e1 => if a = true then .ok true e1 else mb e1
def notD (ma : Env → Res Bool) : Env → Res Bool := fun e => (ma e).bind fun a e1 => .ok (!a) e1
def ifD (mc : Env → Res Bool) (ma mb : Env → Res RV) : Env → Res RV := fun e => (mc e).bind fun b e1 => if b = true then ma e1 else mb e1
def andV (ma mb : Env → Res RV) : Env → Res RV := fun e => (ma e).bind fun a e1 => (Res.of e1 a.bool).bind fun k e1 => if k = true then mb e1 else .ok (rv (.bl false)) e1
def orV (ma mb : Env → Res RV) : Env → Res RV := fun e => (ma e).bind fun a e1 => (Res.of e1 a.bool).bind fun k e1 => if k = true then .ok (rv (.bl true)) e1 else mb e1
def notV (ma : Env → Res RV) : Env → Res RV := fun e => (ma e).bind fun a e1 => (Res.of e1 a.bool).bind fun k e1 => .ok (rv (.bl (!k))) e1
/-- a op b op' c -/
def chainD (f g : D → D → Option D) (ma mb mc : Env → Res RV) : Env → Res RV := fun e => (ma e).bind fun a e1 => (mb e1).bind fun b e2 =>
  (Res.of e2 (((a.fz e2).bind fun x => (b.fz e2).bind fun y => scal (f x y)).bind RV.bool)).bind fun k e2 => if k = true then (mc e2).bind fun d e3 => Res.of e3 ((b.fz e3).bind fun y => (d.fz e3).bind fun z => scal (g y z)) else .ok (rv (.bl false)) e2

/-! ### the rules -/
section
variable {X : Cx} {c : Cf} {XW : WX} {W H W1 H1 W2 H2 : Hp} {σ : L2.St} {e e1 e2 : Env} {F G F1 F2 : List Addr} {b b1 b2 b3 : Bool}

/-- what a result is worth when it is read later; b: what came between touched nothing -/
theorem RVr.later {v : V} {a : RV} {Fa : List Addr} (r : RVr c W1 H1 σ v a Fa) (g : Gr W1 H1 F1 W2 H2 F2) (d : Disj Fa F1) (st : Same H1 H2 ∨ ∀ i p, a = .pl i p → p = []) : RVr c W2 H2 σ v a Fa :=
  r.frame g d fun i p q => st.elim .inr fun z => .inl (z i p q)
theorem RVr.dat {v : V} {a : RV} {Fa : List Addr} {d : D} (le : Le W H) (r : RVr c W H σ v a Fa) (s : Slots c W H σ e F) (h : a.fz e = some d) : Dat c H v d := by
  unfold RV.fz at h
  cases q : a.get e with
  | none => rw [q] at h; cases h
  | some o =>
    rw [q] at h; cases h
    obtain ⟨G, rp, _⟩ := r.rep s q
    exact rp.dat le
theorem scal_of {d : Option D} {r : RV} (h : scal d = some r) : ∃ d' v, d = some d' ∧ sv d' = some v ∧ r = rv d' := by
  unfold scal at h
  cases d with
  | none => cases h
  | some d' =>
    have h : (if (sv d').isSome = true then some (rv d') else none) = some r := h
    split at h
    · rename_i z
      obtain ⟨v, hv⟩ := Option.isSome_iff_exists.mp z
      cases h
      exact ⟨d', v, rfl, hv, rfl⟩
    · cases h
theorem Res.of_ok {α β : Type} {rel : L2.St → Hp → Hp → β → α → List Addr → Prop} {Q : β → Hp → Prop} {r : Option α} (p : Pst c XW b rel W H σ F (Res.of e r) Q) : ∃ a, r = some a ∧ Pst c XW b rel W H σ F (.ok a e) Q := by
  cases r with
  | none => exact (show False from p).elim
  | some a => exact ⟨a, rfl, p⟩
/-- a scalar at the end -/
theorem Pst.scalar {d : D} {v : V} {Q : VK} (le : Le W H) (p : Pst c XW b (rRV c) W H σ G (.ok (rv d) e) Q) (s : Slots c W H σ e F) (sG : ∀ a ∈ F, a ∈ G) (h : sv d = some v) : Q v H :=
  Pst.val (Gt := []) (Fo := []) p s sG (Gr.refl le) Disj.nil_right (fun _ z => absurd z List.not_mem_nil) (fun _ => Same.refl _) (.val (sv_dat h))

theorem d_name {i : Nat} {x : Str} {pos : Pos} (h : PE X (.Name x pos) (tVar i)) : PE X (.Name x pos) (T c XW true (nameD i)) := pe_imp h fun σ H Q ⟨W, e, F, le, s, p⟩ => by
  unfold nameD at p
  cases q : e.at i with
  | none => rw [q] at p; exact p.elim
  | some o =>
    rw [q] at p
    obtain ⟨v, G, h1, h2, h3⟩ := s.get (Env.at_some q)
    have done : ∀ (a : RV), RVr c W H σ v a [] → Pst c XW true (rRV c) W H σ F (.ok a e) Q → tVar i σ H Q := fun a r p =>
      ⟨v, h1, p W H v F [] (by rw [List.append_nil]; exact .refl le) (fun _ => Same.refl _) s r Disj.nil_right⟩
    cases o with
    | val d => cases h2; rename_i hd; exact done (rv d) (.val hd) p
    | lst os => exact done (.pl i []) ⟨rfl, v, h1, .nil⟩ p
    | dct os => exact done (.pl i []) ⟨rfl, v, h1, .nil⟩ p
    | dcT os => exact done (.pl i []) ⟨rfl, v, h1, .nil⟩ p
    | obj k os => exact done (.pl i []) ⟨rfl, v, h1, .nil⟩ p
theorem d_con {ex : Expr} {d : D} {v : V} (h : PE X ex (tC v)) (hd : ∀ W, Dat c W v d) : PE X ex (T c XW true (conD d)) := pe_imp h fun σ H Q ⟨W, e, F, le, s, p⟩ =>
  p W H v F [] (by rw [List.append_nil]; exact .refl le) (fun _ => Same.refl _) s (.val (hd W)) Disj.nil_right
theorem d_int {i j pos} : PE X (.Constant (.int i) j pos) (T c XW true (conD (.int i))) := d_con pe_int fun _ => .int i
theorem d_bl {k j pos} : PE X (.Constant (.bool k) j pos) (T c XW true (conD (.bl k))) := d_con pe_bl fun _ => .bl k
theorem d_non {j pos} : PE X (.Constant .none j pos) (T c XW true (conD .non)) := d_con pe_non fun _ => .non
theorem d_str {s : Str} {j pos} (h : sOk s = true := by decide +kernel) : PE X (.Constant (.str s) j pos) (T c XW true (conD (.str s))) := d_con pe_str fun _ => .str s h

/-- two parts, then a scalar: the core -/
theorem op2_run {r : R2} {f : D → D → Option D} {ma mb : Env → Res RV} {Q : VK} (hs : Sc2 c r f) (hb : b = true → b1 = true ∧ b2 = true)
    (hp : b2 = true ∨ ∀ e i p e', ma e = .ok (.pl i p) e' → p = []) : T c XW b (op2D f ma mb) σ H Q → tOp r (T c XW b1 ma) (T c XW b2 mb) σ H Q := fun ⟨W, e, F, le, s, p⟩ => by
  unfold op2D at p
  refine Tr.then (G := []) (b2 := b2) le s Disj.nil_right (fun _ z => absurd z List.not_mem_nil) (by rw [List.append_nil]; exact p) hb fun a e1 W1 H1 x F1 Fa qa g1 sm1 s1 r1 d1 _ _ p1 => ?_
  refine Tr.then (G := Fa) (b2 := true) g1.le s1 d1 (fun y hy => ?_) (by rw [List.append_nil] at p1; exact p1) (fun z => ⟨z, rfl⟩) fun b' e2 W2 H2 y F2 Fb qb g2 sm2 s2 r2 d2 d3 hG p2 => ?_
  · cases a with
    | tmp o => exact Rep.dom r1 y hy
    | pl i p => rw [r1.1] at hy; exact absurd hy List.not_mem_nil
  obtain ⟨o, ho, p3⟩ := Res.of_ok p2
  have r1' := r1.later g2 d1.symm (hp.elim (fun z => .inl (sm2 z)) fun z => .inr fun i p q => z e i p e1 (by rw [← q]; exact qa))
  cases q1 : a.fz e2 with
  | none => rw [q1] at ho; cases ho
  | some dx =>
    cases q2 : b'.fz e2 with
    | none => rw [q1, q2] at ho; cases ho
    | some dy =>
      rw [q1, q2] at ho
      obtain ⟨d, v, hf, hv, rfl⟩ := scal_of (show scal (f dx dy) = some o from ho)
      exact hs H2 x y dx dy d v Q (r1'.dat g2.le s2 q1) (r2.dat g2.le s2 q2) hf hv (Pst.scalar g2.le p3 s2 (fun y hy => List.mem_append_left _ (List.mem_append_left _ hy)) hv)
theorem flat_pl {ma : Env → Res RV} (h : ∀ e i p e', ma e = .ok (.pl i p) e' → p = []) : b = true ∨ ∀ e i p e', ma e = .ok (.pl i p) e' → p = [] := .inr h
variable {x y z : Expr} {ma mb mc : Env → Res RV} {pos : Pos}
theorem d_bin {op : Operator} {r : R2} {f : D → D → Option D} (ho : OpR X (binaryOp op) r) (hs : Sc2 c r f) (ha : PE X x (T c XW b1 ma)) (hb : PE X y (T c XW b2 mb)) (hp : b2 = true := by rfl) :
    PE X (.BinOp x op y pos) (T c XW (b1 && b2) (op2D f ma mb)) := pe_imp (pe_op ho ha hb) fun σ H Q => op2_run hs (fun z => by simpa using z) (.inl hp)
theorem d_cmp {op : CmpOp} {r : R2} {f : D → D → Option D} (ho : OpR X (compareOp op) r) (hs : Sc2 c r f) (ha : PE X x (T c XW b1 ma)) (hb : PE X y (T c XW b2 mb)) (hm : behindInMarks op y = false) (hp : b2 = true := by rfl) :
    PE X (.Compare x [op] [y] pos) (T c XW (b1 && b2) (op2D f ma mb)) := pe_imp (pe_cmpR ho ha hb hm) fun σ H Q => op2_run hs (fun z => by simpa using z) (.inl hp)
/-- no path into a place comes out -/
def NP (ma : Env → Res RV) : Prop := ∀ e i p e', ma e = .ok (.pl i p) e' → p = []
theorem np_name {i : Nat} : NP (nameD i) := fun e j p e' h => by
  unfold nameD at h
  split at h <;> first | cases h; rfl | cases h
theorem np_of {α : Type} {ma : Env → Res α} {k : α → Env → Option D} : NP (fun e => (ma e).bind fun a e1 => Res.of e1 (scal (k a e1))) := fun e j p e' h => by
  have h : ((ma e).bind fun a e1 => Res.of e1 (scal (k a e1))) = .ok (.pl j p) e' := h
  cases q : ma e with
  | stuck => rw [q] at h; cases h
  | err x e1 => rw [q] at h; cases h
  | ok a e1 =>
    rw [q] at h
    have h : Res.of e1 (scal (k a e1)) = .ok (.pl j p) e' := h
    cases z : scal (k a e1) with
    | none => rw [z] at h; cases h
    | some r =>
      rw [z] at h
      obtain ⟨d, v, _, _, e3⟩ := scal_of z
      subst e3
      cases h
theorem d_binE {op : Operator} {r : R2} {f : D → D → Option D} (ho : OpR X (binaryOp op) r) (hs : Sc2 c r f) (ha : PE X x (T c XW b1 ma)) (hb : PE X y (T c XW b2 mb)) (hp : NP ma) :
    PE X (.BinOp x op y pos) (T c XW false (op2D f ma mb)) := pe_imp (pe_op ho ha hb) fun σ H Q => op2_run hs (fun z => by cases z) (.inr hp)
theorem d_cmpE {op : CmpOp} {r : R2} {f : D → D → Option D} (ho : OpR X (compareOp op) r) (hs : Sc2 c r f) (ha : PE X x (T c XW b1 ma)) (hb : PE X y (T c XW b2 mb)) (hm : behindInMarks op y = false) (hp : NP ma) :
    PE X (.Compare x [op] [y] pos) (T c XW false (op2D f ma mb)) := pe_imp (pe_cmpR ho ha hb hm) fun σ H Q => op2_run hs (fun z => by cases z) (.inr hp)

/-! ### tests -/
theorem nilG {F : List Addr} : ∀ a ∈ ([] : List Addr), H a ≠ none ∧ W a = none := fun _ z => absurd z List.not_mem_nil
theorem Tr.then0 {α β γ δ : Type} {rel : L2.St → Hp → Hp → β → α → List Addr → Prop} {rel1 : L2.St → Hp → Hp → δ → γ → List Addr → Prop} {ma : Env → Res γ} {k : γ → Env → Res α} {Q : β → Hp → Prop} {K : δ → Hp → Prop} (le : Le W H) (s : Slots c W H σ e F)
    (post : Pst c XW b rel W H σ F ((ma e).bind k) Q) (hb : b = true → b1 = true ∧ b2 = true)
    (hk : ∀ a e1 W1 H1 v F1 Fo, ma e = .ok a e1 → Gr W H F W1 H1 (F1 ++ Fo) → (b1 = true → Same H H1) → Slots c W1 H1 σ e1 F1 → rel1 σ W1 H1 v a Fo → Disj F1 Fo →
      Pst c XW b2 rel W1 H1 σ (F1 ++ Fo) (k a e1) Q → K v H1) : Tr c XW b1 rel1 ma σ H K :=
  Tr.then (G := []) (b2 := b2) le s Disj.nil_right (fun _ z => absurd z List.not_mem_nil) (by rw [List.append_nil]; exact post) hb fun a e1 W1 H1 v F1 Fo q g sm s1 r d _ _ p => hk a e1 W1 H1 v F1 Fo q g sm s1 r d (by rw [List.append_nil] at p; exact p)
theorem RV.bool_of {a : RV} {k : Bool} (h : a.bool = some k) : a = rv (.bl k) := by
  unfold RV.bool at h
  split at h
  · cases h; rfl
  · cases h
theorem rv_bl {v : V} {k : Bool} {Fo : List Addr} (r : RVr c W H σ v (rv (.bl k)) Fo) : v = .bl k ∧ Fo = [] := by
  have r : Rep c W H v (.val (.bl k)) Fo := r
  cases r with
  | val h => cases h; exact ⟨rfl, rfl⟩
theorem test_run {Q : Bool → Hp → Prop} {ma : Env → Res RV} : TB c XW b (testD ma) σ H Q → T c XW b ma σ H (fun x H' => ∃ k, x = .bl k ∧ Q k H') := fun ⟨W, e, F, le, s, p⟩ => by
  unfold testD at p
  refine Tr.then0 (b2 := true) le s p (fun z => ⟨z, rfl⟩) fun a e1 W1 H1 x F1 Fa _ g sm s1 r d p1 => ?_
  obtain ⟨k, hk, p2⟩ := Res.of_ok p1
  have := RV.bool_of hk
  subst this
  obtain ⟨ev, ef⟩ := rv_bl r
  subst ef
  exact ⟨k, ev, p2 W1 H1 k F1 [] (Gr.refl g.le) (fun _ => Same.refl _) s1 ⟨rfl, rfl⟩ Disj.nil_right⟩
/-- any expression that gives a bool, as a test -/
theorem t_val (ha : PE X x (T c XW b ma)) (he : ∀ whole, isTrue x X.env whole = (do let v ← whole; standAt x.pos; holding [v] (truthy v)) := by intro _; rfl) : PT X x (TB c XW b (testD ma)) := pt_imp (pt_val ha he) fun σ H Q h => test_run h
theorem t_cmp {op : CmpOp} {r : R2} {f : D → D → Option D} (ho : OpR X (compareOp op) r) (hs : Sc2 c r f) (ha : PE X x (T c XW b1 ma)) (hb : PE X y (T c XW b2 mb)) (hm : behindInMarks op y = false) (hp : b2 = true := by rfl) :
    PT X (.Compare x [op] [y] pos) (TB c XW (b1 && b2) (testD (op2D f ma mb))) := pt_imp (pt_cmpR ho ha hb hm) fun σ H Q h => op2_run hs (fun z => by simpa using z) (.inl hp) (test_run h)
theorem t_cmpE {op : CmpOp} {r : R2} {f : D → D → Option D} (ho : OpR X (compareOp op) r) (hs : Sc2 c r f) (ha : PE X x (T c XW b1 ma)) (hb : PE X y (T c XW b2 mb)) (hm : behindInMarks op y = false) (hp : NP ma) :
    PT X (.Compare x [op] [y] pos) (TB c XW false (testD (op2D f ma mb))) := pt_imp (pt_cmpR ho ha hb hm) fun σ H Q h => op2_run hs (fun z => by cases z) (.inr hp) (test_run h)
variable {ta tb : Env → Res Bool} {rest : List Expr}
theorem and_run {Q : Bool → Hp → Prop} : TB c XW (b1 && b2) (andD ta tb) σ H Q → tAnd (TB c XW b1 ta) (TB c XW b2 tb) σ H Q := fun ⟨W, e, F, le, s, p⟩ => by
  unfold andD at p
  refine Tr.then0 (b2 := b2) le s p (fun z => by simpa using z) fun a e1 W1 H1 x F1 Fa _ g sm s1 r d p1 => ?_
  obtain ⟨ev, ef⟩ := r
  subst ev ef
  rw [List.append_nil] at p1
  cases x with
  | true => exact ⟨W1, e1, F1, g.le, s1, p1⟩
  | false => exact p1 W1 H1 false F1 [] (by rw [List.append_nil]; exact Gr.refl g.le) (fun _ => Same.refl _) s1 ⟨rfl, rfl⟩ Disj.nil_right
theorem or_run {Q : Bool → Hp → Prop} : TB c XW (b1 && b2) (orD ta tb) σ H Q → tOr (TB c XW b1 ta) (TB c XW b2 tb) σ H Q := fun ⟨W, e, F, le, s, p⟩ => by
  unfold orD at p
  refine Tr.then0 (b2 := b2) le s p (fun z => by simpa using z) fun a e1 W1 H1 x F1 Fa _ g sm s1 r d p1 => ?_
  obtain ⟨ev, ef⟩ := r
  subst ev ef
  rw [List.append_nil] at p1
  cases x with
  | false => exact ⟨W1, e1, F1, g.le, s1, p1⟩
  | true => exact p1 W1 H1 true F1 [] (by rw [List.append_nil]; exact Gr.refl g.le) (fun _ => Same.refl _) s1 ⟨rfl, rfl⟩ Disj.nil_right
theorem t_and (ha : PT X x (TB c XW b1 ta)) (hb : PW X (.BoolOp .And (y :: rest) pos) (TB c XW b2 tb)) : PW X (.BoolOp .And (x :: y :: rest) pos) (TB c XW (b1 && b2) (andD ta tb)) := pw_imp (pw_and ha hb) fun σ H Q => and_run
theorem t_or (ha : PT X x (TB c XW b1 ta)) (hb : PW X (.BoolOp .Or (y :: rest) pos) (TB c XW b2 tb)) : PW X (.BoolOp .Or (x :: y :: rest) pos) (TB c XW (b1 && b2) (orD ta tb)) := pw_imp (pw_or ha hb) fun σ H Q => or_run
theorem t_and1 (ha : PT X x (TB c XW b1 ta)) : PW X (.BoolOp .And [x] pos) (TB c XW b1 ta) := pw_and1 ha
theorem t_or1 (ha : PT X x (TB c XW b1 ta)) : PW X (.BoolOp .Or [x] pos) (TB c XW b1 ta) := pw_or1 ha
theorem t_w (ha : PW X x (TB c XW b1 ta)) : PT X x (TB c XW b1 ta) := ha.pt
theorem t_not (ha : PT X x (TB c XW b1 ta)) : PT X (.UnaryOp .Not x pos) (TB c XW b1 (notD ta)) := pt_imp (pt_not ha) fun σ H Q ⟨W, e, F, le, s, p⟩ => by
  unfold notD at p
  refine Tr.then0 (b2 := true) le s p (fun z => ⟨z, rfl⟩) fun a e1 W1 H1 x F1 Fa _ g sm s1 r d p1 => ?_
  obtain ⟨ev, ef⟩ := r
  subst ev ef
  exact p1 W1 H1 (!x) F1 [] (Gr.refl g.le) (fun _ => Same.refl _) s1 ⟨rfl, rfl⟩ Disj.nil_right
theorem d_if {q : Expr} {tc : Env → Res Bool} (hc : PT X q (TB c XW b1 tc)) (ha : PE X x (T c XW b2 ma)) (hb : PE X y (T c XW b3 mb)) : PE X (.IfExp q x y pos) (T c XW (b1 && (b2 && b3)) (ifD tc ma mb)) := pe_imp (pe_ifExp hc ha hb) fun σ H Q ⟨W, e, F, le, s, p⟩ => by
  unfold ifD at p
  refine Tr.then0 (b2 := b2 && b3) le s p (fun z => by simpa using z) fun a e1 W1 H1 x F1 Fa _ g sm s1 r d p1 => ?_
  obtain ⟨ev, ef⟩ := r
  subst ev ef
  rw [List.append_nil] at p1
  have hb : (b2 && b3) = true → b2 = true ∧ b3 = true := fun z => by simpa using z
  cases x with
  | true => exact ⟨W1, e1, F1, g.le, s1, Pst.after p1 (Gr.refl g.le) fun z => ⟨Same.refl _, (hb z).1⟩⟩
  | false => exact ⟨W1, e1, F1, g.le, s1, Pst.after p1 (Gr.refl g.le) fun z => ⟨Same.refl _, (hb z).2⟩⟩
/-! ### bools as values -/
theorem boolV_run {K : V → Hp → Prop} {k : Bool → Env → Res RV} {Q : VK} (le : Le W H) (s : Slots c W H σ e F) (p : Pst c XW b (rRV c) W H σ F ((ma e).bind fun a e1 => (Res.of e1 a.bool).bind k) Q) (hb : b = true → b1 = true ∧ b2 = true)
    (hk : ∀ kk e1 W1 H1 F1, Gr W H F W1 H1 F1 → Slots c W1 H1 σ e1 F1 → Pst c XW b2 (rRV c) W1 H1 σ F1 (k kk e1) Q → K (.bl kk) H1) : T c XW b1 ma σ H K := by
  refine Tr.then0 (b2 := b2) le s p hb fun a e1 W1 H1 x F1 Fa _ g sm s1 r d p1 => ?_
  cases q : a.bool with
  | none => rw [q] at p1; exact p1.elim
  | some kk =>
    rw [q] at p1
    have := RV.bool_of q
    subst this
    obtain ⟨ev, ef⟩ := rv_bl r
    subst ev ef
    rw [List.append_nil] at p1 g
    exact hk kk e1 W1 H1 F1 g s1 p1
theorem Pst.bl {k : Bool} {Q : VK} (le : Le W H) (p : Pst c XW b (rRV c) W H σ F (.ok (rv (.bl k)) e) Q) (s : Slots c W H σ e F) : Q (.bl k) H :=
  Pst.scalar le p s (fun _ z => z) rfl
theorem d_and (ha : PE X x (T c XW b1 ma)) (hb : PE X (.BoolOp .And (y :: rest) pos) (T c XW b2 mb)) : PE X (.BoolOp .And (x :: y :: rest) pos) (T c XW (b1 && b2) (andV ma mb)) := pe_imp (pe_and ha hb) fun σ H Q ⟨W, e, F, le, s, p⟩ => by
  unfold andV at p
  refine boolV_run (b2 := b2) le s p (fun z => by simpa using z) fun k e1 W1 H1 F1 g s1 p1 => ⟨k, rfl, ?_⟩
  cases k with
  | true => exact ⟨W1, e1, F1, g.le, s1, p1⟩
  | false => exact Pst.bl g.le p1 s1
theorem d_or (ha : PE X x (T c XW b1 ma)) (hb : PE X (.BoolOp .Or (y :: rest) pos) (T c XW b2 mb)) : PE X (.BoolOp .Or (x :: y :: rest) pos) (T c XW (b1 && b2) (orV ma mb)) := pe_imp (pe_or ha hb) fun σ H Q ⟨W, e, F, le, s, p⟩ => by
  unfold orV at p
  refine boolV_run (b2 := b2) le s p (fun z => by simpa using z) fun k e1 W1 H1 F1 g s1 p1 => ⟨k, rfl, ?_⟩
  cases k with
  | false => exact ⟨W1, e1, F1, g.le, s1, p1⟩
  | true => exact Pst.bl g.le p1 s1
theorem d_one {op : BoolOp} (ha : PE X x (T c XW b1 ma)) : PE X (.BoolOp op [x] pos) (T c XW b1 ma) := pe_one ha
theorem d_not (ha : PE X x (T c XW b1 ma)) : PE X (.UnaryOp .Not x pos) (T c XW b1 (notV ma)) := pe_imp (pe_not ha) fun σ H Q ⟨W, e, F, le, s, p⟩ => by
  unfold notV at p
  refine boolV_run (b2 := true) le s p (fun z => ⟨z, rfl⟩) fun k e1 W1 H1 F1 g s1 p1 => ⟨k, rfl, ?_⟩
  exact Pst.bl g.le p1 s1
/-! ### chains -/
theorem chain_run {r r' : R2} {f g : D → D → Option D} {Q : VK} (hs : Sc2 c r f) (hs' : Sc2 c r' g) (hb2 : b2 = true) (hb3 : b3 = true) : T c XW b1 (chainD f g ma mb mc) σ H Q → tChain r r' (T c XW b1 ma) (T c XW b2 mb) (T c XW b3 mc) σ H Q := fun ⟨W, e, F, le, s, p⟩ => by
  unfold chainD at p
  refine Tr.then0 (b2 := true) le s p (fun z => ⟨z, rfl⟩) fun a e1 W1 H1 x F1 Fa qa g1 sm1 s1 r1 d1 p1 => ?_
  refine Tr.then (G := Fa) (b2 := true) g1.le s1 d1 (fun y hy => ?_) p1 (fun z => ⟨hb2, rfl⟩) fun b' e2 W2 H2 y F2 Fb qb g2 sm2 s2 r2 d2 d3 hG p2 => ?_
  · cases a with
    | tmp o => exact Rep.dom r1 y hy
    | pl i p => rw [r1.1] at hy; exact absurd hy List.not_mem_nil
  have r1' := r1.later g2 d1.symm (.inl (sm2 hb2))
  cases q1 : a.fz e2 with
  | none => rw [q1] at p2; exact p2.elim
  | some dx =>
    cases q2 : b'.fz e2 with
    | none => rw [q1, q2] at p2; exact p2.elim
    | some dy =>
      rw [q1, q2] at p2
      have p2 : Pst c XW true (rRV c) W2 H2 σ (F2 ++ Fb ++ Fa) ((Res.of e2 ((scal (f dx dy)).bind RV.bool)).bind fun k e2 => if k = true then (mc e2).bind fun d e3 => Res.of e3 ((b'.fz e3).bind fun y => (d.fz e3).bind fun z => scal (g y z)) else .ok (rv (.bl false)) e2) Q := p2
      cases q3 : scal (f dx dy) with
      | none => rw [q3] at p2; exact p2.elim
      | some o =>
        rw [q3] at p2
        obtain ⟨d, v, hf, hv, rfl⟩ := scal_of q3
        cases q4 : (rv d).bool with
        | none => rw [show ((some (rv d)).bind RV.bool) = (rv d).bool from rfl, q4] at p2; exact p2.elim
        | some k =>
          rw [show ((some (rv d)).bind RV.bool) = (rv d).bool from rfl, q4] at p2
          have ed := RV.bool_of q4
          have ed : d = .bl k := by injection ed with e1; injection e1
          subst ed
          cases hv
          refine hs H2 x y dx dy (.bl k) (.bl k) _ (r1'.dat g2.le s2 q1) (r2.dat g2.le s2 q2) hf rfl ⟨k, rfl, ?_⟩
          cases k with
          | false => exact Pst.scalar g2.le p2 s2 (fun y hy => List.mem_append_left _ (List.mem_append_left _ hy)) rfl
          | true =>
            have p2 : Pst c XW true (rRV c) W2 H2 σ (F2 ++ (Fb ++ Fa)) ((mc e2).bind fun d e3 => Res.of e3 ((b'.fz e3).bind fun y => (d.fz e3).bind fun z => scal (g y z))) Q := by rw [← List.append_assoc]; exact p2
            refine Tr.then (G := Fb ++ Fa) (b2 := true) g2.le s2 (Disj.app' d2 d3.left) (fun y hy => ?_) p2 (fun z => ⟨hb3, rfl⟩) fun b'' e3 W3 H3 z F3 Fc qc g3 sm3 s3 r3 d4 d5 hG3 p3 => ?_
            · rcases List.mem_append.mp hy with hy | hy
              · cases b' with
                | tmp o => exact Rep.dom r2 y hy
                | pl i p => rw [r2.1] at hy; exact absurd hy List.not_mem_nil
              · exact hG y hy
            obtain ⟨o, ho, p4⟩ := Res.of_ok p3
            have r2' := r2.later g3 d2.symm (.inl (sm3 hb3))
            cases q5 : b'.fz e3 with
            | none => rw [q5] at ho; cases ho
            | some dy' =>
              cases q6 : b''.fz e3 with
              | none => rw [q5, q6] at ho; cases ho
              | some dz =>
                rw [q5, q6] at ho
                obtain ⟨d', v', hf', hv', rfl⟩ := scal_of (show scal (g dy' dz) = some o from ho)
                exact hs' H3 y z dy' dz d' v' Q (r2'.dat g3.le s3 q5) (r3.dat g3.le s3 q6) hf' hv' (Pst.scalar g3.le p4 s3 (fun y hy => List.mem_append_left _ (List.mem_append_left _ hy)) hv')
theorem d_chain {z : Expr} {op op' : CmpOp} {r r' : R2} {f g : D → D → Option D} (ho : OpR X (compareOp op) r) (hs : Sc2 c r f) (ho' : OpR X (compareOp op') r') (hs' : Sc2 c r' g) (ha : PE X x (T c XW b1 ma)) (hb : PE X y (T c XW b2 mb)) (hc : PE X z (T c XW b3 mc))
    (hm : lastMarks [op, op'] [y, z] = false := by with_unfolding_all rfl) (h2 : b2 = true := by rfl) (h3 : b3 = true := by rfl) : PE X (.Compare x [op, op'] [y, z] pos) (T c XW b1 (chainD f g ma mb mc)) := pe_imp (pe_chain ho ho' ha hb hc hm) fun σ H Q => chain_run hs hs' h2 h3
theorem t_chain {z : Expr} {op op' : CmpOp} {r r' : R2} {f g : D → D → Option D} (ho : OpR X (compareOp op) r) (hs : Sc2 c r f) (ho' : OpR X (compareOp op') r') (hs' : Sc2 c r' g) (ha : PE X x (T c XW b1 ma)) (hb : PE X y (T c XW b2 mb)) (hc : PE X z (T c XW b3 mc))
    (hm : lastMarks [op, op'] [y, z] = false := by with_unfolding_all rfl) (h2 : b2 = true := by rfl) (h3 : b3 = true := by rfl) : PT X (.Compare x [op, op'] [y, z] pos) (TB c XW b1 (testD (chainD f g ma mb mc))) := pt_imp (pt_chain ho ho' ha hb hc hm) fun σ H Q h => chain_run hs hs' h2 h3 (test_run h)
end
end Z

set_option maxRecDepth 100000
set_option maxHeartbeats 2000000
/-! Z.more: subscripts, attributes, displays, arguments, calls of builtins -/
namespace Z
open PySem L2 PySem.Spec PyProof.Rows

section
variable {X : Cx} {c : Cf} {XW : WX} {W H W1 H1 W2 H2 : Hp} {σ : L2.St} {e e1 e2 : Env} {F G F1 F2 : List Addr} {b b1 b2 b3 : Bool}
theorem RVr.dom {v : V} {a : RV} {Fa : List Addr} (r : RVr c W H σ v a Fa) : ∀ y ∈ Fa, H y ≠ none ∧ W y = none := fun y hy => by
  cases a with
  | tmp o => exact Rep.dom r y hy
  | pl i p => rw [r.1] at hy; exact absurd hy List.not_mem_nil
theorem RepL.length : ∀ {vs : List V} {os : List O} {F : List Addr}, RepL c W H vs os F → vs.length = os.length
  | _, _, _, .nil => rfl
  | _, _, _, .cons _ k _ => congrArg (· + 1) (RepL.length k)
/-- two parts, then what is made of both -/
theorem two_run {r : R2} {k : RV → RV → Env → Res RV} {ma mb : Env → Res RV} {Q : VK} (hb : b = true → b1 = true ∧ b2 = true) (hp : b2 = true ∨ NP ma)
    (fin : ∀ W H e F Fa Fb x y a a', Le W H → Slots c W H σ e F → RVr c W H σ x a Fa → RVr c W H σ y a' Fb → Disj F Fa → Disj F Fb → Disj Fa Fb → Pst c XW true (rRV c) W H σ (F ++ (Fa ++ Fb)) (k a a' e) Q → r x y H Q) :
    T c XW b (fun e => (ma e).bind fun a e1 => (mb e1).bind fun a' e2 => k a a' e2) σ H Q → tOp r (T c XW b1 ma) (T c XW b2 mb) σ H Q := fun ⟨W, e, F, le, s, p⟩ => by
  refine Tr.then0 (b2 := b2) le s p hb fun a e1 W1 H1 x F1 Fa qa g1 sm1 s1 r1 d1 p1 => ?_
  refine Tr.then (G := Fa) (b2 := true) g1.le s1 d1 (fun y hy => r1.dom y hy) p1 (fun z => ⟨z, rfl⟩) fun b' e2 W2 H2 y F2 Fb qb g2 sm2 s2 r2 d2 d3 hG p2 => ?_
  have r1' := r1.later g2 d1.symm (hp.elim (fun z => .inl (sm2 z)) fun z => .inr fun i p q => z e i p e1 (by rw [← q]; exact qa))
  refine fin W2 H2 e2 F2 Fa Fb x y a b' g2.le s2 r1' r2 d3.left d2 d3.right.symm (Pst.more p2 fun z hz => ?_)
  rcases List.mem_append.mp hz with hz | hz
  · exact List.mem_append_left _ (List.mem_append_left _ hz)
  · rcases List.mem_append.mp hz with hz | hz
    · exact List.mem_append_right _ hz
    · exact List.mem_append_left _ (List.mem_append_right _ hz)
/-- one part, then what is made of it -/
theorem one_run {K : V → Hp → Prop} {k : RV → Env → Res RV} {ma : Env → Res RV} {Q : VK}
    (fin : ∀ W H e F Fa x a, Le W H → Slots c W H σ e F → RVr c W H σ x a Fa → Disj F Fa → Pst c XW true (rRV c) W H σ (F ++ Fa) (k a e) Q → K x H) :
    T c XW b (fun e => (ma e).bind fun a e1 => k a e1) σ H Q → T c XW b ma σ H K := fun ⟨W, e, F, le, s, p⟩ =>
  Tr.then0 (b2 := true) le s p (fun z => ⟨z, rfl⟩) fun a e1 W1 H1 x F1 Fa qa g1 sm1 s1 r1 d1 p1 => fin W1 H1 e1 F1 Fa x a g1.le s1 r1 d1 p1
/-- a result that stands already -/
theorem Pst.there {a : RV} {v : V} {Q : VK} {Fo : List Addr} (le : Le W H) (p : Pst c XW b (rRV c) W H σ G (.ok a e) Q) (s : Slots c W H σ e F) (sG : ∀ x ∈ F, x ∈ G) (r : RVr c W H σ v a Fo) (sF : ∀ x ∈ Fo, x ∈ G) (d : Disj F Fo) : Q v H :=
  p W H v F Fo ((Gr.refl le).less fun x hx => (List.mem_append.mp hx).elim (sG x) (sF x)) (fun _ => Same.refl _) s r d

/-! ### subscripts -/
def RV.sub (s : Stp) (o : O) : RV → RV
  | .tmp _ => .tmp o
  | .pl i p => .pl i (p ++ [s])
/-- a part: what never changes by its worth, what is owned by its place -/
def RV.part (a : RV) (s : Stp) : O → RV
  | .val d => rv d
  | o => a.sub s o
def lookD {κ : Type} [DecidableEq κ] (k : κ) : List (κ × D) → Option D
  | [] => none
  | (k', o) :: r => if k' = k then some o else lookD k r
def ixR (a : RV) (o : O) (k : D) : Option RV := match o with
  | .val (.lst ds) => match k with
    | .int j => (atI ds j).map rv
    | _ => none
  | .val (.tup ds) => match k with
    | .int j => (atI ds j).map rv
    | _ => none
  | .val (.str s) => match k with
    | .int j => (atI s.cps.toList j).map fun c => rv (.str ⟨#[c]⟩)
    | _ => none
  | .val (.dct kvs) => (D.keyOf k).bind fun k => (lookD k kvs).map rv
  | .lst os => match k with
    | .int j => (ixN os.length j).bind fun n => (os[n]?).map fun o => a.part (.ix n) o
    | _ => none
  | .dct kvs => (D.keyOf k).bind fun k => (look1 k kvs).map fun o => a.part (.ky k) o
  | _ => none
def ixD (ma mb : Env → Res RV) : Env → Res RV := fun e => (ma e).bind fun a e1 => (mb e1).bind fun a' e2 => Res.of e2 ((a.get e2).bind fun o => (a'.fz e2).bind fun k => ixR a o k)
def rIxDc : R2 := fun x y H Q => ∃ a v, x = .ref a ∧ DGet H a y (some v) ∧ Q v H
theorem ix_dict (hu : X.A.units + 64 < cLine) : IxR X rIxDc := by
  intro value slice pins s σ H x y v u Q I rx ry h hs
  obtain ⟨a, w, rfl, g, q⟩ := h
  obtain rfl : v = Value.ref a := rx
  exact tail_any (dict_typeIs I g) PySem.F.slot_dict_getitem.lookup (d_getItem (by omega) I g ry fun w' s3 I3 rw' => ⟨w, H, I3, rw', q⟩) hs
def rIxA (K : PySem.W.Frag) : R2 := fun x y H Q => rIx K x y H Q ∨ rIxDc x y H Q
theorem ix_all (hu : X.A.units + 64 < cLine) : IxR X (rIxA X.K) := ix_seq.or (ix_dict hu)
theorem DatL.at {vs : List V} {ds : List D} {j : Int} {d : D} (h : DatL c W vs ds) (e : atI ds j = some d) : ∃ v, atI vs j = some v ∧ Dat c W v d := by
  unfold atI at e ⊢
  rw [h.length]
  cases q : ixN ds.length j with
  | none => rw [q] at e; cases e
  | some n =>
    rw [q] at e
    exact h.get e
theorem sOk_sign {s : Str} {ch : Nat} (h : sOk s = true) (hc : ch ∈ s.cps.toList) : sOk (⟨#[ch]⟩ : Str) = true := by
  have h2 := sOk_cps h
  have h3 : ch < 0x110000 := by
    have z : s.cps.all (fun x => decide (x < 0x110000)) = true := h2
    rw [← Array.all_toList, List.all_eq_true] at z
    exact of_decide_eq_true (z ch hc)
  unfold sOk
  rw [Bool.and_eq_true]
  refine ⟨decide_eq_true (by show 1 ≤ sizeLine; rw [sizeLine_eq]; decide), ?_⟩
  show (#[ch] : Array Nat).all (fun x => decide (x < 0x110000)) = true
  rw [← Array.all_toList]
  simp [h3]
theorem lookV_val {κ : Type} [DecidableEq κ] {k : κ} : ∀ {kvs : List (κ × V)}, lookV k kvs = valV kvs k
  | [] => rfl
  | p :: r => by
    unfold lookV
    rw [show p = (p.1, p.2) from rfl]
    dsimp only
    by_cases h : p.1 = k
    · rw [if_pos h, valV_pos (p := (p.1, p.2)) h]
    · rw [if_neg h, valV_neg (p := (p.1, p.2)) h, lookV_val]
theorem lookD_val {κ : Type} [DecidableEq κ] {k : κ} {d : D} : ∀ {kvs : List (κ × V)} {ds : List (κ × D)}, kvs.map (·.1) = ds.map (·.1) → DatL c W (kvs.map (·.2)) (ds.map (·.2)) → lookD k ds = some d → ∃ v, valV kvs k = some v ∧ Dat c W v d
  | [], [], _, _, h => by cases h
  | [], _ :: _, h, _, _ => by cases h
  | _ :: _, [], h, _, _ => by cases h
  | p :: kvs, q :: ds, h, hd, hl => by
    have h1 : p.1 = q.1 := (List.cons.inj h).1
    unfold lookD at hl
    rw [show q = (q.1, q.2) from rfl] at hl
    dsimp only at hl
    cases hd with
    | cons hd1 hd2 =>
      by_cases z : q.1 = k
      · rw [if_pos z] at hl; cases hl
        exact ⟨p.2, valV_pos (h1.trans z), hd1⟩
      · rw [if_neg z] at hl
        obtain ⟨v, h2, h3⟩ := lookD_val (List.cons.inj h).2 hd2 hl
        exact ⟨v, by rw [valV_neg (fun y => z (h1.symm.trans y))]; exact h2, h3⟩
/-- a part of a thing: by its worth or by its place -/
theorem part_run {v w : V} {a : RV} {o o1 : O} {Fa : List Addr} {st : Stp} {Q : VK} (le : Le W H) (s : Slots c W H σ e F) (r : RVr c W H σ v a Fa) (d : Disj F Fa) (hg : a.get e = some o) (hs : o.step st = some o1) (ha : At H v [st] w)
    (p : Pst c XW b (rRV c) W H σ (F ++ (Fa ++ G)) (.ok (a.part st o1) e) Q) : Q w H := by
  have key : ∀ {Fo : List Addr}, RVr c W H σ w (a.part st o1) Fo → (∀ x ∈ Fo, x ∈ Fa) → Q w H := fun {Fo} r' sF =>
    Pst.there le p s (fun x hx => List.mem_append_left _ hx) r' (fun x hx => List.mem_append_right _ (List.mem_append_left _ (sF x hx))) fun x hx hx' => d x hx (sF x hx')
  cases a with
  | tmp o' =>
    cases hg
    obtain ⟨w', G', R, h1, h2, h3, h4, h5, _⟩ := Rep.hole1 r hs
    have := At.inj h1 ha
    subst this
    cases o1 with
    | val d' => cases h2; rename_i hd; exact key (Fo := []) (.val hd) fun _ z => absurd z List.not_mem_nil
    | lst os => exact key (Fo := G') h2 h3
    | dct os => exact key (Fo := G') h2 h3
    | dcT os => exact key (Fo := G') h2 h3
    | obj k os => exact key (Fo := G') h2 h3
  | pl i p' =>
    obtain ⟨ef, v0, h0, hat⟩ := r
    subst ef
    have hg : (e.at i).bind (fun x => x.get p') = some o := hg
    cases q : e.at i with
    | none => rw [q] at hg; cases hg
    | some o0 =>
      rw [q] at hg
      obtain ⟨G', R, h1, h2, _⟩ := s.hole (Env.at_some q) h0 hat hg
      obtain ⟨w', G2, R2, k1, k2, k3, _⟩ := Rep.hole1 h1 hs
      have := At.inj k1 ha
      subst this
      have hp : At H v0 (p' ++ [st]) w' := hat.snoc k1
      cases o1 with
      | val d' => cases k2 with | val hd => exact key (Fo := []) (.val hd) fun _ z => absurd z List.not_mem_nil
      | lst os => exact key (Fo := []) ⟨rfl, v0, h0, hp⟩ fun _ z => z
      | dct os => exact key (Fo := []) ⟨rfl, v0, h0, hp⟩ fun _ z => z
      | dcT os => exact key (Fo := []) ⟨rfl, v0, h0, hp⟩ fun _ z => z
      | obj k os => exact key (Fo := []) ⟨rfl, v0, h0, hp⟩ fun _ z => z
theorem ix_run {ma mb : Env → Res RV} {Q : VK} (hb : b = true → b1 = true ∧ b2 = true) (hp : b2 = true ∨ NP ma) : T c XW b (ixD ma mb) σ H Q → tOp (rIxA c.K) (T c XW b1 ma) (T c XW b2 mb) σ H Q :=
  two_run hb hp fun W H e F Fa Fb x y a a' le s ra rb da db dab p => by
    obtain ⟨t, ht, p⟩ := Res.of_ok p
    cases qa : a.get e with
    | none => rw [qa] at ht; cases ht
    | some o =>
      cases qk : a'.fz e with
      | none => rw [qa, qk] at ht; cases ht
      | some k =>
        rw [qa, qk] at ht
        have ht : ixR a o k = some t := ht
        have hk := rb.dat le s qk
        obtain ⟨Go, ro, _⟩ := ra.rep s qa
        have val : ∀ {d : D} {w : V}, t = rv d → Dat c W w d → Q w H := fun {d w} et hd => by
          subst et
          exact Pst.there (Fo := []) le p s (fun x hx => List.mem_append_left _ hx) (.val hd) (fun _ z => absurd z List.not_mem_nil) Disj.nil_right
        cases o with
        | val dd =>
          cases ro with
          | val hd0 =>
          cases dd with
          | lst ds =>
            cases k with
            | int j =>
              cases hk
              cases hd0 with
              | lst hs kk =>
                have ht : (atI ds j).map rv = some t := ht
                cases q : atI ds j with
                | none => rw [q] at ht; cases ht
                | some d =>
                  rw [q] at ht
                  obtain ⟨w, hw, hd⟩ := kk.at q
                  exact .inl (.inl ⟨_, _, _, w, rfl, rfl, le.sqL hs, hw, val (Option.some.inj ht).symm hd⟩)
            | _ => cases ht
          | tup ds =>
            cases k with
            | int j =>
              cases hk
              cases hd0 with
              | tup hs kk =>
                have ht : (atI ds j).map rv = some t := ht
                cases q : atI ds j with
                | none => rw [q] at ht; cases ht
                | some d =>
                  rw [q] at ht
                  obtain ⟨w, hw, hd⟩ := kk.at q
                  exact .inl (.inr (.inl ⟨_, _, _, w, rfl, rfl, SqT.of (le.tup hs), hw, val (Option.some.inj ht).symm hd⟩))
            | _ => cases ht
          | str t' =>
            cases k with
            | int j =>
              cases hk
              cases hd0 with
              | str _ hz =>
                have ht : (atI t'.cps.toList j).map (fun c => rv (.str ⟨#[c]⟩)) = some t := ht
                cases q : atI t'.cps.toList j with
                | none => rw [q] at ht; cases ht
                | some ch =>
                  rw [q] at ht
                  have hm : ch ∈ t'.cps.toList := by
                    obtain ⟨n, _, h2, _⟩ := atI_get q
                    exact List.mem_of_getElem? h2
                  exact .inl (.inr (.inr ⟨_, _, ch, rfl, rfl, sOk_len hz, q, val (Option.some.inj ht).symm (.str _ (sOk_sign hz hm))⟩))
            | _ => cases ht
          | dct kvs =>
            have ht : ((D.keyOf k).bind fun k => (lookD k kvs).map rv) = some t := ht
            cases q : D.keyOf k with
            | none => rw [q] at ht; cases ht
            | some key =>
              rw [q] at ht
              have ht : (lookD key kvs).map rv = some t := ht
              cases q2 : lookD key kvs with
              | none => rw [q2] at ht; cases ht
              | some d =>
                rw [q2] at ht
                cases hd0 with
                | dct hr hn kk =>
                  have := keyOf_dat hk q
                  subst this
                  obtain ⟨w, hw, hd⟩ := lookD_val hn kk q2
                  exact .inr ⟨_, w, rfl, .inl ⟨_, key, le.rd hr (fun _ _ z => nomatch z), rfl, hw.symm⟩, val (Option.some.inj ht).symm hd⟩
          | _ => cases ht
        | lst os =>
          cases k with
          | int j =>
            cases hk
            have ht : ((ixN os.length j).bind fun n => (os[n]?).map fun o => a.part (.ix n) o) = some t := ht
            cases q : ixN os.length j with
            | none => rw [q] at ht; cases ht
            | some n =>
              rw [q] at ht
              have ht : (os[n]?).map (fun o => a.part (.ix n) o) = some t := ht
              cases q2 : os[n]? with
              | none => rw [q2] at ht; cases ht
              | some o1 =>
                rw [q2] at ht
                have ht := Option.some.inj ht
                subst ht
                obtain ⟨w, _, _, h1, _⟩ := Rep.hole1 (s := .ix n) ro (show (O.lst os).step (.ix n) = some o1 from q2)
                have h1' := h1
                cases h1 with
                | ix hh hw kk =>
                  cases kk
                  cases ro with
                  | lst hh' _ kl _ =>
                    rw [hh] at hh'; cases hh'
                    refine .inl (.inl ⟨_, _, _, w, rfl, rfl, SqL.of hh, ?_, part_run le s ra da qa (show (O.lst os).step (.ix n) = some o1 from q2) h1' p⟩)
                    unfold atI
                    rw [kl.length, q]
                    exact hw
          | _ => cases ht
        | dct kvs =>
          have ht : ((D.keyOf k).bind fun k => (look1 k kvs).map fun o => a.part (.ky k) o) = some t := ht
          cases q : D.keyOf k with
          | none => rw [q] at ht; cases ht
          | some key =>
            rw [q] at ht
            have ht : (look1 key kvs).map (fun o => a.part (.ky key) o) = some t := ht
            cases q2 : look1 key kvs with
            | none => rw [q2] at ht; cases ht
            | some o1 =>
              rw [q2] at ht
              have ht := Option.some.inj ht
              subst ht
              have := keyOf_dat hk q
              subst this
              obtain ⟨w, _, _, h1, _⟩ := Rep.hole1 (s := .ky key) ro (show (O.dct kvs).step (.ky key) = some o1 from q2)
              have h1' := h1
              cases h1 with
              | ky hh hw kk =>
                cases kk
                cases ro with
                | dct hh' _ _ kl _ =>
                  refine .inr ⟨_, w, rfl, .inl ⟨_, key, .inl hh, rfl, ?_⟩, part_run le s ra da qa (show (O.dct kvs).step (.ky key) = some o1 from q2) h1' p⟩
                  rw [← lookV_val]; exact hw.symm
        | _ => cases ht
variable {x y : Expr} {ma mb : Env → Res RV} {pos : Pos}
theorem d_ix (hu : X.A.units + 64 < cLine) (hK : X.K = c.K) (ha : PE X x (T c XW b1 ma)) (hb : PE X y (T c XW b2 mb)) (hs : PlainIx y := by exact fun _ _ => rfl) (hp : b2 = true := by rfl) : PE X (.Subscript x y pos) (T c XW (b1 && b2) (ixD ma mb)) :=
  pe_imp (pe_ix (ix_all hu) ha hb hs) fun σ H Q => by rw [hK]; exact ix_run (fun z => by simpa using z) (.inl hp)
theorem d_ixE (hu : X.A.units + 64 < cLine) (hK : X.K = c.K) (ha : PE X x (T c XW b1 ma)) (hb : PE X y (T c XW b2 mb)) (hp : NP ma) (hs : PlainIx y := by exact fun _ _ => rfl) : PE X (.Subscript x y pos) (T c XW false (ixD ma mb)) :=
  pe_imp (pe_ix (ix_all hu) ha hb hs) fun σ H Q => by rw [hK]; exact ix_run (fun z => by cases z) (.inr hp)
end
end Z

set_option maxRecDepth 100000
set_option maxHeartbeats 2000000
/-! Z.args: attributes, arguments, displays, calls of builtins -/
namespace Z
open PySem L2 PySem.Spec PyProof.Rows

/-! ### attributes -/
def attrR (ks : List Nat) (a : RV) (o : O) (f : Str) : Option RV := match o with
  | .val (.obj k fs) => if ks.contains k = true then (lookD f fs).map rv else none
  | .obj k fs => if ks.contains k = true then (look1 f fs).map fun o => a.part (.at f) o else none
  | _ => none
def attrD (ks : List Nat) (f : Str) (ma : Env → Res RV) : Env → Res RV := fun e => (ma e).bind fun a e1 => Res.of e1 ((a.get e1).bind fun o => attrR ks a o f)
/-- the data of a thing whose parts never change -/
def vals : List O → Option (List D)
  | [] => some []
  | .val d :: r => (vals r).map (d :: ·)
  | _ :: _ => none
def O.sh : O → Option D
  | .val d => some d
  | .lst os => (vals os).map .lst
  | _ => none
def RV.sh (r : RV) (e : Env) : Option D := (r.get e).bind O.sh
def fzs (e : Env) : List RV → Option (List D)
  | [] => some []
  | r :: rs => (r.fz e).bind fun d => (fzs e rs).map (d :: ·)
def shs (e : Env) : List RV → Option (List D)
  | [] => some []
  | r :: rs => (r.sh e).bind fun d => (shs e rs).map (d :: ·)
def takes (e : Env) : List RV → Option (List O × Env)
  | [] => some ([], e)
  | r :: rs => (r.take e).bind fun p => (takes p.2 rs).map fun q => (p.1 :: q.1, q.2)
def nilA : Env → Res (List RV) := fun e => .ok [] e
def consA (ma : Env → Res RV) (mr : Env → Res (List RV)) : Env → Res (List RV) := fun e => (ma e).bind fun a e1 => (mr e1).bind fun as e2 => .ok (a :: as) e2
def lstD (mas : Env → Res (List RV)) : Env → Res RV := fun e => (mas e).bind fun as e1 => match takes e1 as with
  | some (os, e2) => if os.length ≤ 100 then .ok (.tmp (.lst os)) e2 else .stuck
  | none => .stuck
def tupD (mas : Env → Res (List RV)) : Env → Res RV := fun e => (mas e).bind fun as e1 => match takes e1 as with
  | some (os, e2) => if os.length ≤ 100 then .ok (rv (.tup (fzL os))) e2 else .stuck
  | none => .stuck
/-- a call that gives a scalar; a new list; any data -/
def callD (f : List D → Option D) (mas : Env → Res (List RV)) : Env → Res RV := fun e => (mas e).bind fun as e1 => Res.of e1 ((fzs e1 as).bind fun ds => scal (f ds))
def newLD (f : List D → Option (List D)) (mas : Env → Res (List RV)) : Env → Res RV := fun e => (mas e).bind fun as e1 => Res.of e1 ((shs e1 as).bind fun ds => (f ds).map fun es => .tmp (.lst (es.map .val)))
def newVD (f : List D → Option D) (mas : Env → Res (List RV)) : Env → Res RV := fun e => (mas e).bind fun as e1 => Res.of e1 ((shs e1 as).bind fun ds => (f ds).map rv)

section
variable {X : Cx} {c : Cf} {XW : WX} {W H W1 H1 W2 H2 : Hp} {σ : L2.St} {e e1 e2 : Env} {F G F1 F2 : List Addr} {b b1 b2 b3 : Bool}
variable {x y : Expr} {ma mb : Env → Res RV} {pos : Pos}
theorem lookup_valV {f : Str} : ∀ {fs : List (Str × V)}, fs.lookup f = lookV f fs
  | [] => rfl
  | p :: r => by
    unfold lookV
    rw [show p = (p.1, p.2) from rfl, List.lookup_cons]
    dsimp only
    by_cases h : p.1 = f
    · rw [if_pos h, beq_iff_eq.mpr h.symm]
    · rw [if_neg h, beq_eq_false_iff_ne.mpr (fun z => h z.symm), lookup_valV]
theorem d_attr {f : Str} {ks : List Nat} (hK : X.K = c.K) (ha : PE X x (T c XW b1 ma)) (hc : ∀ k, ks.contains k = true → Cls X.K (c.cls k) ∧ NoAttr X.K (c.cls k) f)
    (hb : attributeBase x f X.env (eval x X.env) = eval x X.env := by rfl) : PE X (.Attribute x f pos) (T c XW b1 (attrD ks f ma)) := pe_imp (pe_fld ha hb) fun σ H Q h => by
  refine one_run (K := fun x H1 => ∃ a C dx fs v, x = .ref a ∧ H1 a = some (.ins C dx fs) ∧ Cls X.K C ∧ NoAttr X.K C f ∧ fs.lookup f = some v ∧ Q v H1) (fun W H e F Fa x a le s r d p => ?_) h
  obtain ⟨t, ht, p⟩ := Res.of_ok p
  cases qa : a.get e with
  | none => rw [qa] at ht; cases ht
  | some o =>
    rw [qa] at ht
    have ht : attrR ks a o f = some t := ht
    obtain ⟨Go, ro, _⟩ := r.rep s qa
    cases o with
    | val dd =>
      cases dd with
      | obj k fs =>
        have ht : (if ks.contains k = true then (lookD f fs).map rv else none) = some t := ht
        by_cases hk : ks.contains k = true
        · rw [if_pos hk] at ht
          cases q : lookD f fs with
          | none => rw [q] at ht; cases ht
          | some d' =>
            rw [q] at ht
            cases ro with
            | val hd =>
              cases hd with
              | obj hw hn kk =>
                obtain ⟨w, h2, h3⟩ := lookD_val hn kk q
                have et := (Option.some.inj ht).symm
                subst et
                refine ⟨_, _, _, _, w, rfl, le.ins hw, (hc k hk).1, (hc k hk).2, by rw [lookup_valV, lookV_val]; exact h2, ?_⟩
                exact Pst.there (Fo := []) le p s (fun x hx => List.mem_append_left _ hx) (.val h3) (fun _ z => absurd z List.not_mem_nil) Disj.nil_right
        · rw [if_neg hk] at ht; cases ht
      | _ => cases ht
    | obj k fs =>
      have ht : (if ks.contains k = true then (look1 f fs).map (fun o => a.part (.at f) o) else none) = some t := ht
      by_cases hk : ks.contains k = true
      · rw [if_pos hk] at ht
        cases q : look1 f fs with
        | none => rw [q] at ht; cases ht
        | some o1 =>
          rw [q] at ht
          have et := (Option.some.inj ht).symm
          subst et
          have hst : (O.obj k fs).step (.at f) = some o1 := q
          obtain ⟨w, _, _, h1, _⟩ := Rep.hole1 ro hst
          have h1' := h1
          cases h1 with
          | «at» hh hw kk =>
            cases kk
            cases ro with
            | obj hh' _ _ kl _ =>
              rw [hh] at hh'; cases hh'
              exact ⟨_, _, _, _, w, rfl, hh, (hc k hk).1, (hc k hk).2, by rw [lookup_valV]; exact hw, part_run (G := []) le s r d qa hst h1' (by rw [List.append_nil]; exact p)⟩
      · rw [if_neg hk] at ht; cases ht
    | _ => cases ht

/-! ### arguments -/
theorem RVs.dom {vs : List V} {as : List RV} {Fa : List Addr} (r : RVs c W H σ vs as Fa) : ∀ y ∈ Fa, H y ≠ none ∧ W y = none := by
  induction r with
  | nil => exact fun _ h => absurd h List.not_mem_nil
  | cons h _ _ ih => exact fun y hy => (List.mem_append.mp hy).elim (h.dom y) (ih y)
theorem a_nil : PA X [] (TAr c XW true nilA) := pa_imp pa_nil fun σ H Q ⟨W, e, F, le, s, p⟩ =>
  p W H [] F [] (by rw [List.append_nil]; exact Gr.refl le) (fun _ => Same.refl _) s .nil Disj.nil_right
theorem a_run {mr : Env → Res (List RV)} {Q : List V → Hp → Prop} (hb : b = true → b1 = true ∧ b2 = true) (hp : b2 = true ∨ NP ma) : TAr c XW b (consA ma mr) σ H Q → tCons (T c XW b1 ma) (TAr c XW b2 mr) σ H Q := fun ⟨W, e, F, le, s, p⟩ => by
  refine Tr.then0 (b2 := b2) le s p hb fun a e1 W1 H1 x F1 Fa qa g1 sm1 s1 r1 d1 p1 => ?_
  refine Tr.then (G := Fa) (b2 := true) g1.le s1 d1 (fun y hy => r1.dom y hy) p1 (fun z => ⟨z, rfl⟩) fun as e2 W2 H2 xs F2 Fb qb g2 sm2 s2 r2 d2 d3 hG p2 => ?_
  have r1' := r1.later g2 d1.symm (hp.elim (fun z => .inl (sm2 z)) fun z => .inr fun i p q => z e i p e1 (by rw [← q]; exact qa))
  refine p2 W2 H2 (x :: xs) F2 (Fa ++ Fb) ((Gr.refl g2.le).less fun z hz => ?_) (fun _ => Same.refl _) s2 (.cons r1' r2 d3.right.symm) (Disj.app' d3.left d2)
  rcases List.mem_append.mp hz with hz | hz
  · exact List.mem_append_left _ (List.mem_append_left _ hz)
  · rcases List.mem_append.mp hz with hz | hz
    · exact List.mem_append_right _ hz
    · exact List.mem_append_left _ (List.mem_append_right _ hz)
theorem a_cons {xs : List Expr} {mr : Env → Res (List RV)} (ha : PE X x (T c XW b1 ma)) (hr : PA X xs (TAr c XW b2 mr)) (hp : b2 = true := by rfl) (hs : starEach (x :: xs) X.env = (false, eval x X.env) :: starEach xs X.env := by rfl) : PA X (x :: xs) (TAr c XW (b1 && b2) (consA ma mr)) :=
  pa_imp (pa_cons ha hr hs) fun σ H Q => a_run (fun z => by simpa using z) (.inl hp)
theorem a_consE {xs : List Expr} {mr : Env → Res (List RV)} (ha : PE X x (T c XW b1 ma)) (hr : PA X xs (TAr c XW b2 mr)) (hp : NP ma) (hs : starEach (x :: xs) X.env = (false, eval x X.env) :: starEach xs X.env := by rfl) : PA X (x :: xs) (TAr c XW false (consA ma mr)) :=
  pa_imp (pa_cons ha hr hs) fun σ H Q => a_run (fun z => by cases z) (.inr hp)

theorem RVs.fzs {vs : List V} {as : List RV} {Fa : List Addr} (le : Le W H) (r : RVs c W H σ vs as Fa) (s : Slots c W H σ e F) : ∀ {ds : List D}, fzs e as = some ds → DatL c H vs ds := by
  induction r with
  | nil => intro ds h; cases h; exact .nil
  | @cons v vs a as F' G' h _ _ ih =>
    intro ds hd
    have hd : (a.fz e).bind (fun d => (Z.fzs e as).map (d :: ·)) = some ds := hd
    cases q : a.fz e with
    | none => rw [q] at hd; cases hd
    | some d =>
      rw [q] at hd
      have hd : (Z.fzs e as).map (d :: ·) = some ds := hd
      cases q2 : Z.fzs e as with
      | none => rw [q2] at hd; cases hd
      | some ds' => rw [q2] at hd; cases hd; exact .cons (h.dat le s q) (ih q2)
/-- the worth of a thing: itself perhaps owned, its parts not -/
inductive Sh (c : Cf) (W H : Hp) : V → D → Prop
  | val {v : V} {d : D} : Dat c W v d → Sh c W H v d
  | lst {a : Addr} {vs : List V} {ds : List D} : H a = some (.lst vs) → DatL c W vs ds → Sh c W H (.ref a) (.lst ds)
inductive ShL (c : Cf) (W H : Hp) : List V → List D → Prop
  | nil : ShL c W H [] []
  | cons {v : V} {vs : List V} {d : D} {ds : List D} : Sh c W H v d → ShL c W H vs ds → ShL c W H (v :: vs) (d :: ds)
theorem vals_dat {vs : List V} {os : List O} {F' : List Addr} (r : RepL c W H vs os F') : ∀ {ds : List D}, vals os = some ds → DatL c W vs ds ∧ F' = [] := by
  induction r using RepL.rec (motive_1 := fun _ _ _ _ => True) with
  | nil => intro ds h; cases h; exact ⟨.nil, rfl⟩
  | @cons v vs o os F1 G1 h k d ih1 ih2 =>
    intro ds hd
    cases o with
    | val d' =>
      have hd : (vals os).map (d' :: ·) = some ds := hd
      cases q : vals os with
      | none => rw [q] at hd; cases hd
      | some ds' =>
        rw [q] at hd; cases hd
        cases h with
        | val hv =>
          obtain ⟨h1, h2⟩ := ih2 q
          exact ⟨.cons hv h1, by rw [h2]; rfl⟩
    | _ => cases hd
  | _ => trivial
theorem RVr.sh {v : V} {a : RV} {Fa : List Addr} {d : D} (r : RVr c W H σ v a Fa) (s : Slots c W H σ e F) (h : a.sh e = some d) : Sh c W H v d := by
  unfold RV.sh at h
  cases q : a.get e with
  | none => rw [q] at h; cases h
  | some o =>
    rw [q] at h
    have h : o.sh = some d := h
    obtain ⟨G', rp, _⟩ := r.rep s q
    cases o with
    | val d' => cases h; cases rp with | val hd => exact .val hd
    | lst os =>
      have h : (vals os).map D.lst = some d := h
      cases q2 : vals os with
      | none => rw [q2] at h; cases h
      | some ds =>
        rw [q2] at h; cases h
        cases rp with
        | lst hh _ kl _ => exact .lst hh (vals_dat kl q2).1
    | _ => cases h
theorem RVs.shs {vs : List V} {as : List RV} {Fa : List Addr} (r : RVs c W H σ vs as Fa) (s : Slots c W H σ e F) : ∀ {ds : List D}, shs e as = some ds → ShL c W H vs ds := by
  induction r with
  | nil => intro ds h; cases h; exact .nil
  | @cons v vs a as F' G' h _ _ ih =>
    intro ds hd
    have hd : (a.sh e).bind (fun d => (Z.shs e as).map (d :: ·)) = some ds := hd
    cases q : a.sh e with
    | none => rw [q] at hd; cases hd
    | some d =>
      rw [q] at hd
      have hd : (Z.shs e as).map (d :: ·) = some ds := hd
      cases q2 : Z.shs e as with
      | none => rw [q2] at hd; cases hd
      | some ds' => rw [q2] at hd; cases hd; exact .cons (h.sh s q) (ih q2)
/-- all taken -/
theorem RVs.takes : ∀ {vs : List V} {as : List RV} {Fa : List Addr} {W H : Hp} {e e' : Env} {F : List Addr} {os : List O}, Le W H → RVs c W H σ vs as Fa → Slots c W H σ e F → Disj F Fa → takes e as = some (os, e') →
    ∃ W' F' Fo', Gr W H (F ++ Fa) W' H (F' ++ Fo') ∧ Slots c W' H σ e' F' ∧ RepL c W' H vs os Fo' ∧ Disj F' Fo'
  | _, _, _, W, H, e, e', F, os, le, .nil, s, d, h => by cases h; exact ⟨W, F, [], Gr.refl le, s, .nil, d⟩
  | _, _, _, W, H, e, e', F, os, le, .cons (vs := vs) (rv := a) (rvs := as) (F := F1) (G := G1) r rs dj, s, d, h => by
    have h : (a.take e).bind (fun p => (Z.takes p.2 as).map fun q => (p.1 :: q.1, q.2)) = some (os, e') := h
    cases q : a.take e with
    | none => rw [q] at h; cases h
    | some p =>
      rw [q] at h
      have h : (Z.takes p.2 as).map (fun q => (p.1 :: q.1, q.2)) = some (os, e') := h
      cases q2 : Z.takes p.2 as with
      | none => rw [q2] at h; cases h
      | some p2 =>
        rw [q2] at h
        have h := Option.some.inj h
        obtain ⟨W1, F2, Fo, g, s1, r1, d1⟩ := r.take le s d.left' (o := p.1) (e' := p.2) q
        have dG : Disj (F ++ F1) G1 := Disj.app d.right' dj
        have rs' : RVs c W1 H σ vs as G1 := by
          have fr : ∀ {vs : List V} {as : List RV} {E : List Addr}, RVs c W H σ vs as E → (∀ y ∈ E, y ∈ G1) → RVs c W1 H σ vs as E := fun h => by
            induction h with
            | nil => exact fun _ => .nil
            | cons h _ dd ih => exact fun sub => .cons (h.frame g (fun y hy => dG.symm y (sub y (List.mem_append_left _ hy))) fun _ _ _ => .inr (Same.refl _)) (ih fun y hy => sub y (List.mem_append_right _ hy)) dd
          exact fr rs fun _ z => z
        have d2 : Disj (F2 ++ Fo) G1 := g.disj (fun y hy => (rs.dom y hy).1) dG
        obtain ⟨W2, F3, Fo3, g2, s2, r2, d3⟩ := RVs.takes g.le rs' s1 d2.left (show Z.takes p.2 as = some (p2.1, p2.2) from q2)
        have e1 : os = p.1 :: p2.1 := (congrArg Prod.fst h).symm
        have e2 : e' = p2.2 := (congrArg Prod.snd h).symm
        subst e1 e2
        have hFo : ∀ y ∈ Fo, H y ≠ none ∧ W1 y = none := r1.dom
        have dFo : Disj (F2 ++ G1) Fo := Disj.app d1 d2.right.symm
        have d4 : Disj (F3 ++ Fo3) Fo := g2.disj (fun y hy => (hFo y hy).1) dFo
        refine ⟨W2, F3, Fo ++ Fo3, ?_, s2, .cons (r1.frame g2 dFo.symm) r2 d4.right.symm, Disj.app' d4.left d3⟩
        have gA := (g.frame G1).trans (W2 := W2) (H2 := H) (F2 := F3 ++ (Fo ++ Fo3)) ?_
        · exact gA.more fun y hy => by
            rcases List.mem_append.mp hy with hy | hy
            · rcases List.mem_append.mp hy with hy | hy
              · exact List.mem_append_left _ hy
              · exact List.mem_append_right _ (List.mem_append_left _ hy)
            · exact List.mem_append_right _ (List.mem_append_right _ hy)
        · have gB := (g2.frame Fo).more (G := F2 ++ Fo ++ G1) fun y hy => by
            rcases List.mem_append.mp hy with hy | hy
            · rcases List.mem_append.mp hy with hy | hy
              · exact List.mem_append_left _ (List.mem_append_left _ hy)
              · exact List.mem_append_right _ hy
            · exact List.mem_append_left _ (List.mem_append_right _ hy)
          exact gB.less fun y hy => by
            rcases List.mem_append.mp hy with hy | hy
            · exact List.mem_append_left _ (List.mem_append_left _ hy)
            · rcases List.mem_append.mp hy with hy | hy
              · exact List.mem_append_right _ hy
              · exact List.mem_append_left _ (List.mem_append_right _ hy)

/-! ### displays -/
/-- a new object, with what is owned within -/
theorem Gr.alloc {p : Addr} {o : HO} (le : Le W H) (hp : H p = none) : Gr W H F W (upd H p o) (p :: F) where
  w := Same.refl _
  le := le_upd le (le.free hp)
  new := fun _ _ h => .inl h
  kept := fun a u h _ => by rw [upd_ne (ne_of_none h hp)]; exact h
  there := fun a h => by
    by_cases z : a = p
    · rw [z, upd_same]; simp
    · rw [upd_ne z]; exact h
  own := fun a h => (List.mem_cons.mp h).elim (fun z => .inr (z ▸ hp)) .inl
/-- a new object that never changes -/
theorem Gr.allocV {p : Addr} {o : HO} (le : Le W H) (hp : H p = none) : Gr W H F (upd W p o) (upd H p o) F where
  w := same_upd (le.free hp)
  le := le_upd2 le
  new := fun a u h => by
    by_cases z : a = p
    · exact .inr (.inr (z ▸ hp))
    · rw [upd_ne z] at h; exact .inl h
  kept := fun a u h _ => by rw [upd_ne (ne_of_none h hp)]; exact h
  there := fun a h => by
    by_cases z : a = p
    · rw [z, upd_same]; simp
    · rw [upd_ne z]; exact h
  own := fun a h => .inl h
theorem same_alloc {p : Addr} {o : HO} (hp : H p = none) : Same H (upd H p o) := fun a u h => by rw [upd_ne (ne_of_none h hp)]; exact h
/-- arguments, then what is made of them -/
theorem args_run {K : List V → Hp → Prop} {k : List RV → Env → Res RV} {mas : Env → Res (List RV)} {Q : VK}
    (fin : ∀ W H e F Fa xs as, Le W H → Slots c W H σ e F → RVs c W H σ xs as Fa → Disj F Fa → Pst c XW true (rRV c) W H σ (F ++ Fa) (k as e) Q → K xs H) :
    T c XW b (fun e => (mas e).bind fun as e1 => k as e1) σ H Q → TAr c XW b mas σ H K := fun ⟨W, e, F, le, s, p⟩ =>
  Tr.then0 (b2 := true) le s p (fun z => ⟨z, rfl⟩) fun a e1 W1 H1 x F1 Fa qa g1 sm1 s1 r1 d1 p1 => fin W1 H1 e1 F1 Fa x a g1.le s1 r1 d1 p1
variable {xs : List Expr} {mas : Env → Res (List RV)}
theorem sz100 {n : Nat} (h : n ≤ 100) : n ≤ sizeLine := Nat.le_trans h (by rw [sizeLine_eq]; decide)
theorem d_lst (ha : PA X xs (TAr c XW b mas)) : PE X (.List xs pos) (T c XW b (lstD mas)) := pe_imp (pe_lst ha) fun σ H Q h => by
  refine args_run (K := fun xs H1 => xs.length ≤ sizeLine ∧ ∀ p, H1 p = none → Q (.ref p) (upd H1 p (.lst xs))) (fun W H e F Fa vs as le s r d p => ?_) h
  cases q : takes e as with
  | none => rw [q] at p; exact p.elim
  | some t =>
    obtain ⟨os, e2⟩ := t
    rw [q] at p
    have p : Pst c XW true (rRV c) W H σ (F ++ Fa) (if os.length ≤ 100 then Res.ok (.tmp (.lst os)) e2 else .stuck) Q := p
    by_cases hl : os.length ≤ 100
    · rw [if_pos hl] at p
      obtain ⟨W1, F1, Fo, g, s1, r1, d1⟩ := r.takes le s d q
      refine ⟨by rw [r1.length]; exact sz100 hl, fun a ha => ?_⟩
      have hW : W1 a = none := g.le.free ha
      have nF : ∀ y ∈ Fo, y ≠ a := fun y hy z => (r1.dom y hy).1 (z ▸ ha)
      have nF1 : ∀ y ∈ F1, y ≠ a := fun y hy z => (s1.dom y hy).1 (z ▸ ha)
      have g2 : Gr W1 H [] W1 (upd H a (.lst vs)) [a] := Gr.alloc (F := []) g.le ha
      have r2 : Rep c W1 (upd H a (.lst vs)) (.ref a) (.lst os) (a :: Fo) := .lst upd_same hW (r1.frame g2 Disj.nil_right) fun z => nF a z rfl
      refine p W1 (upd H a (.lst vs)) (.ref a) F1 (a :: Fo) ?_ (fun _ => same_alloc ha) (s1.frame g2 Disj.nil_right) r2 (fun y hy hz => (List.mem_cons.mp hz).elim (nF1 y hy) (d1 y hy))
      exact (g.trans (Gr.alloc (F := F1 ++ Fo) (o := .lst vs) g.le ha)).less fun y hy => by
        rcases List.mem_append.mp hy with hy | hy
        · exact List.mem_cons_of_mem _ (List.mem_append_left _ hy)
        · exact (List.mem_cons.mp hy).elim (fun z => z ▸ List.mem_cons_self) fun z => List.mem_cons_of_mem _ (List.mem_append_right _ z)
    · rw [if_neg hl] at p; exact p.elim
theorem d_tup {x1} (ha : PA X xs (TAr c XW b mas)) : PE X (.Tuple xs x1 pos) (T c XW b (tupD mas)) := pe_imp (pe_tup ha) fun σ H Q h => by
  refine args_run (K := fun xs H1 => xs.length ≤ sizeLine ∧ ∀ p, H1 p = none → Q (.ref p) (upd H1 p (.tup xs))) (fun W H e F Fa vs as le s r d p => ?_) h
  cases q : takes e as with
  | none => rw [q] at p; exact p.elim
  | some t =>
    obtain ⟨os, e2⟩ := t
    rw [q] at p
    have p : Pst c XW true (rRV c) W H σ (F ++ Fa) (if os.length ≤ 100 then Res.ok (rv (.tup (fzL os))) e2 else .stuck) Q := p
    by_cases hl : os.length ≤ 100
    · rw [if_pos hl] at p
      obtain ⟨W1, F1, Fo, g, s1, r1, d1⟩ := r.takes le s d q
      refine ⟨by rw [r1.length]; exact sz100 hl, fun a ha => ?_⟩
      obtain ⟨W2, g2, dl⟩ := r1.freeze g.le
      have s2 := s1.frame g2 d1
      have hW : W2 a = none := g2.le.free ha
      have g3 : Gr W2 H F1 (upd W2 a (.tup vs)) (upd H a (.tup vs)) F1 := Gr.allocV g2.le ha
      have g3' : Gr W2 H [] (upd W2 a (.tup vs)) (upd H a (.tup vs)) [] := Gr.allocV g2.le ha
      have gg : Gr W1 H (F1 ++ Fo) W2 H F1 := ((g2.frame F1).more fun y hy => (List.mem_append.mp hy).elim (fun z => List.mem_append_right _ z) (fun z => List.mem_append_left _ z)).less fun y hy => hy
      refine p (upd W2 a (.tup vs)) (upd H a (.tup vs)) (.ref a) F1 [] (by rw [List.append_nil]; exact (g.trans gg).trans g3) (fun _ => same_alloc ha) (s2.frame g3' Disj.nil_right) (.val (.tup upd_same (dl.mono (.of_same g3.w)))) Disj.nil_right
    · rw [if_neg hl] at p; exact p.elim

/-! ### calls of builtins -/
/-- the rule r of a list of values is worth f, a scalar; a new list -/
def ScL (c : Cf) (r : List V → Hp → VK → Prop) (f : List D → Option D) : Prop := ∀ (H : Hp) (vs : List V) (ds : List D) (d : D) (v : V) (Q : VK), DatL c H vs ds → f ds = some d → sv d = some v → Q v H → r vs H Q
def NwL (c : Cf) (r : List V → Hp → VK → Prop) (f : List D → Option (List D)) : Prop := ∀ (W H : Hp) (vs : List V) (ds es : List D) (Q : VK), Le W H → ShL c W H vs ds → f ds = some es → (∀ p xs, H p = none → DatL c W xs es → Q (.ref p) (upd H p (.lst xs))) → r vs H Q
/-- a new tuple, or one that stands -/
def NwT (c : Cf) (r : List V → Hp → VK → Prop) (f : List D → Option D) : Prop := ∀ (W H : Hp) (vs : List V) (ds : List D) (d : D) (Q : VK), Le W H → ShL c W H vs ds → f ds = some d → (∀ v W' H', Gr W H [] W' H' [] → Same H H' → Dat c W' v d → Q v H') → r vs H Q
theorem callS_run {r : List V → Hp → VK → Prop} {f : List D → Option D} {Q : VK} (hs : ScL c r f) : T c XW b (callD f mas) σ H Q → tCB r (TAr c XW b mas) σ H Q := fun h => by
  refine args_run (K := fun vs H1 => r vs H1 Q) (fun W H e F Fa vs as le s rr d p => ?_) h
  obtain ⟨t, ht, p⟩ := Res.of_ok p
  cases q : fzs e as with
  | none => rw [q] at ht; cases ht
  | some ds =>
    rw [q] at ht
    obtain ⟨d', v, hf, hv, et⟩ := scal_of (show scal (f ds) = some t from ht)
    subst et
    exact hs H vs ds d' v Q (rr.fzs le s q) hf hv (Pst.scalar le p s (fun y hy => List.mem_append_left _ hy) hv)
theorem vals_map : ∀ ds : List D, vals (ds.map O.val) = some ds
  | [] => rfl
  | d :: ds => by show (vals (ds.map O.val)).map (d :: ·) = _; rw [vals_map ds]; rfl
theorem repL_vals {vs : List V} {ds : List D} (h : DatL c W vs ds) : RepL c W H vs (ds.map O.val) [] := by
  induction h using DatL.rec (motive_1 := fun _ _ _ => True) with
  | nil => exact .nil
  | cons a _ _ ih => exact .cons (F := []) (.val a) ih Disj.nil_left
  | _ => trivial
theorem newL_run {r : List V → Hp → VK → Prop} {f : List D → Option (List D)} {Q : VK} (hs : NwL c r f) : T c XW b (newLD f mas) σ H Q → tCB r (TAr c XW b mas) σ H Q := fun h => by
  refine args_run (K := fun vs H1 => r vs H1 Q) (fun W H e F Fa vs as le s rr d p => ?_) h
  obtain ⟨t, ht, p⟩ := Res.of_ok p
  cases q : shs e as with
  | none => rw [q] at ht; cases ht
  | some ds =>
    rw [q] at ht
    have ht : (f ds).map (fun es => RV.tmp (.lst (es.map .val))) = some t := ht
    cases q2 : f ds with
    | none => rw [q2] at ht; cases ht
    | some es =>
      rw [q2] at ht
      have et := (Option.some.inj ht).symm
      subst et
      refine hs W H vs ds es Q le (rr.shs s q) q2 fun a xs ha hd => ?_
      have g2 : Gr W H [] W (upd H a (.lst xs)) [a] := Gr.alloc (F := []) le ha
      refine Pst.val (Gt := []) (Fo := [a]) p s (fun y hy => List.mem_append_left _ hy) g2 Disj.nil_right (fun _ z => absurd z List.not_mem_nil) (fun _ => same_alloc ha) ?_
      exact .lst upd_same (le.free ha) (repL_vals hd) List.not_mem_nil
theorem newT_run {r : List V → Hp → VK → Prop} {f : List D → Option D} {Q : VK} (hs : NwT c r f) : T c XW b (newVD f mas) σ H Q → tCB r (TAr c XW b mas) σ H Q := fun h => by
  refine args_run (K := fun vs H1 => r vs H1 Q) (fun W H e F Fa vs as le s rr d p => ?_) h
  obtain ⟨t, ht, p⟩ := Res.of_ok p
  cases q : shs e as with
  | none => rw [q] at ht; cases ht
  | some ds =>
    rw [q] at ht
    have ht : (f ds).map rv = some t := ht
    cases q2 : f ds with
    | none => rw [q2] at ht; cases ht
    | some d' =>
      rw [q2] at ht
      have et := (Option.some.inj ht).symm
      subst et
      exact hs W H vs ds d' Q le (rr.shs s q) q2 fun v W' H' g sm hd => Pst.val (Gt := []) (Fo := []) p s (fun y hy => List.mem_append_left _ hy) g Disj.nil_right (fun _ z => absurd z List.not_mem_nil) (fun _ => sm) (.val hd)
variable {fn : Str} {p0 : Pos} {id Tn : String} {r : List V → Hp → VK → Prop}
/-- f(e, ..), f a built-in function | class; h: pe_callB .. | pe_callTy .. -/
theorem d_callS {ex : Expr} {f : List D → Option D} (hs : ScL c r f) (h : PE X ex (tCB r (TAr c XW b mas))) : PE X ex (T c XW b (callD f mas)) := pe_imp h fun σ H Q => callS_run hs
theorem d_callL {ex : Expr} {f : List D → Option (List D)} (hs : NwL c r f) (h : PE X ex (tCB r (TAr c XW b mas))) : PE X ex (T c XW b (newLD f mas)) := pe_imp h fun σ H Q => newL_run hs
theorem d_callT {ex : Expr} {f : List D → Option D} (hs : NwT c r f) (h : PE X ex (tCB r (TAr c XW b mas))) : PE X ex (T c XW b (newVD f mas)) := pe_imp h fun σ H Q => newT_run hs
end
end Z

set_option maxRecDepth 100000
set_option maxHeartbeats 2000000
/-! Z.stmt: statements out of denotations -/
namespace Z
open PySem L2 PySem.Spec PyProof.Rows

inductive SRes where
  | nx (e : Env) | rt (o : O) (e : Env) | bk (e : Env) | ct (e : Env) | err (x : Exn) (e : Env) | stuck
/-- which slots hold what they held at the entry -/
def PinOk (pin : List Nat) (σ0 σ : L2.St) : Prop := ∀ i ∈ pin, σ[i]? = σ0[i]?
theorem PinOk.set {pin : List Nat} {σ0 σ : L2.St} {i : Nat} {s : Option V} (h : PinOk pin σ0 σ) (hi : pin.contains i = false) : PinOk pin σ0 (σ.set i s) := fun j hj => by
  have : i ≠ j := fun z => by
    subst z
    have : pin.contains i = true := by simpa using hj
    rw [hi] at this; cases this
  rw [List.getElem?_set_ne this]; exact h j hj
section
variable (c : Cf) (XW : WX) (pin : List Nat) (σ0 : L2.St)
def SPst (W H : Hp) (F : List Addr) (r : SRes) (D : Ends) : Prop := match r with
  | .nx e => ∀ (W' H' : Hp) (σ' : L2.St) (F' : List Addr), Gr W H F W' H' F' → Slots c W' H' σ' e F' → PinOk pin σ0 σ' → D.nx σ' H'
  | .bk e => ∀ (W' H' : Hp) (σ' : L2.St) (F' : List Addr), Gr W H F W' H' F' → Slots c W' H' σ' e F' → PinOk pin σ0 σ' → D.bk σ' H'
  | .ct e => ∀ (W' H' : Hp) (σ' : L2.St) (F' : List Addr), Gr W H F W' H' F' → Slots c W' H' σ' e F' → PinOk pin σ0 σ' → D.ct σ' H'
  | .rt o e => ∀ (W' H' : Hp) (σ' : L2.St) (v : V) (F' Fo : List Addr), Gr W H F W' H' (F' ++ Fo) → Slots c W' H' σ' e F' → PinOk pin σ0 σ' → Rep c W' H' v o Fo → Disj F' Fo → D.rt v H'
  | .err x e => ∀ (W' H' : Hp) (σ' : L2.St) (F' : List Addr) (cls : Value) (d : Option Addr), Gr W H F W' H' F' → Slots c W' H' σ' e F' → PinOk pin σ0 σ' → ExRep c W' x cls d H' → XW cls d σ' H'
  | .stuck => False
def S (m : Env → SRes) : TS := fun D σ H => ∃ (W : Hp) (e : Env) (F : List Addr), Le W H ∧ Slots c W H σ e F ∧ PinOk pin σ0 σ ∧ SPst c XW pin σ0 W H F (m e) D
end
def Res.s {α : Type} (r : Res α) (k : α → Env → SRes) : SRes := match r with
  | .ok a e => k a e
  | .err x e => .err x e
  | .stuck => .stuck

/-! ### denotations -/
def seqD (m1 m2 : Env → SRes) : Env → SRes := fun e => match m1 e with
  | .nx e' => m2 e'
  | r => r
def passD : Env → SRes := fun e => .nx e
def bkD : Env → SRes := fun e => .bk e
def ctD : Env → SRes := fun e => .ct e
def dropD (ma : Env → Res RV) : Env → SRes := fun e => (ma e).s fun _ e1 => .nx e1
def setD (i : Nat) (ma : Env → Res RV) : Env → SRes := fun e => (ma e).s fun a e1 => match a.take e1 with
  | some (o, e2) => .nx (e2.set i (some o))
  | none => .stuck
/-- given out: a local's thing is let go -/
def RV.out (pin : List Nat) (e : Env) : RV → Option (O × Env)
  | .pl i [] => if pin.contains i = true then RV.take e (.pl i []) else (e.at i).map fun o => (o, e.set i none)
  | r => r.take e
def rtD (pin : List Nat) (ma : Env → Res RV) : Env → SRes := fun e => (ma e).s fun a e1 => match a.out pin e1 with
  | some (o, e2) => .rt o e2
  | none => .stuck
def rtN : Env → SRes := fun e => .rt (.val .non) e
def ifS (mc : Env → Res Bool) (m1 m2 : Env → SRes) : Env → SRes := fun e => (mc e).s fun b e1 => if b = true then m1 e1 else m2 e1
/-- a while with so many turns at most -/
def whileD : Nat → (Env → Res Bool) → (Env → SRes) → Env → SRes
  | 0, _, _, _ => .stuck
  | n + 1, mc, mb, e => (mc e).s fun b e1 => if b = true then match mb e1 with
      | .nx e2 => whileD n mc mb e2
      | .ct e2 => whileD n mc mb e2
      | .bk e2 => .nx e2
      | .rt o e2 => .rt o e2
      | .err x e2 => .err x e2
      | .stuck => .stuck
    else .nx e1

section
variable {X : Cx} {c : Cf} {XW : WX} {pin : List Nat} {σ0 σ : L2.St} {W H W1 H1 W2 H2 : Hp} {e e1 e2 : Env} {F G F1 F2 : List Addr} {b b1 b2 b3 : Bool}
theorem SPst.after {r : SRes} {D : Ends} (p : SPst c XW pin σ0 W H F r D) (g : Gr W H F W1 H1 F1) : SPst c XW pin σ0 W1 H1 F1 r D := by
  cases r with
  | nx e => exact fun W' H' σ' F' g' s q => p W' H' σ' F' (g.trans g') s q
  | bk e => exact fun W' H' σ' F' g' s q => p W' H' σ' F' (g.trans g') s q
  | ct e => exact fun W' H' σ' F' g' s q => p W' H' σ' F' (g.trans g') s q
  | rt o e => exact fun W' H' σ' v F' Fo g' s q r d => p W' H' σ' v F' Fo (g.trans g') s q r d
  | err x e => exact fun W' H' σ' F' cls d g' s q r => p W' H' σ' F' cls d (g.trans g') s q r
  | stuck => exact p
theorem SPst.more {r : SRes} {D : Ends} (p : SPst c XW pin σ0 W H G r D) (s : ∀ a ∈ F, a ∈ G) : SPst c XW pin σ0 W H F r D := by
  cases r with
  | nx e => exact fun W' H' σ' F' g' sl q => p W' H' σ' F' (g'.more s) sl q
  | bk e => exact fun W' H' σ' F' g' sl q => p W' H' σ' F' (g'.more s) sl q
  | ct e => exact fun W' H' σ' F' g' sl q => p W' H' σ' F' (g'.more s) sl q
  | rt o e => exact fun W' H' σ' v F' Fo g' sl q r d => p W' H' σ' v F' Fo (g'.more s) sl q r d
  | err x e => exact fun W' H' σ' F' cls d g' sl q r => p W' H' σ' F' cls d (g'.more s) sl q r
  | stuck => exact p
theorem Slots.set' {G : List Addr} {v : V} {o : O} (i : Nat) (s : Slots c W H σ e F) (r : Rep c W H v o G) (d : Disj G F) : ∃ F', Slots c W H (σ.set i (some v)) (e.set i (some o)) F' ∧ ∀ a ∈ F', a ∈ F ∨ a ∈ G := by
  by_cases h : i < e.length
  · exact s.set i r d h
  · rw [List.set_eq_of_length_le (by rw [s.length]; omega), List.set_eq_of_length_le (by omega)]
    exact ⟨F, s, fun _ z => .inl z⟩
/-- an expression is run in a statement -/
theorem Tr.s {γ δ : Type} {rel1 : L2.St → Hp → Hp → δ → γ → List Addr → Prop} {ma : Env → Res γ} {k : γ → Env → SRes} {D : Ends} {K : δ → Hp → Prop} (le : Le W H) (s : Slots c W H σ e F) (pn : PinOk pin σ0 σ) (post : SPst c XW pin σ0 W H F ((ma e).s k) D)
    (hk : ∀ a e1 W1 H1 v F1 Fo, ma e = .ok a e1 → Gr W H F W1 H1 (F1 ++ Fo) → Slots c W1 H1 σ e1 F1 → rel1 σ W1 H1 v a Fo → Disj F1 Fo → SPst c XW pin σ0 W1 H1 (F1 ++ Fo) (k a e1) D → K v H1) : Tr c XW b1 rel1 ma σ H K := by
  refine ⟨W, e, F, le, s, ?_⟩
  cases q : ma e with
  | stuck => rw [q] at post; exact post
  | err x e1 =>
    rw [q] at post
    exact fun W' H' F' cls d g k r => post W' H' σ F' cls d g k pn r
  | ok a e1 =>
    rw [q] at post
    intro W1 H1 v F1 Fo g sm k r d
    exact hk a e1 W1 H1 v F1 Fo q g k r d (SPst.after post g)

variable {st : Stmt} {rest : List Stmt} {x : Expr} {m m1 m2 : Env → SRes} {ma mb : Env → Res RV} {tc : Env → Res Bool} {pos : Pos}
theorem s_nil : PSs X [] (S c XW pin σ0 passD) := pss_imp pss_nil fun D σ H ⟨W, e, F, le, s, pn, p⟩ => p W H σ F (Gr.refl le) s pn
theorem s_pass : PS X (.Pass pos) (S c XW pin σ0 passD) := ps_imp ps_pass fun D σ H ⟨W, e, F, le, s, pn, p⟩ => p W H σ F (Gr.refl le) s pn
theorem s_break : PS X (.Break pos) (S c XW pin σ0 bkD) := ps_imp ps_break fun D σ H ⟨W, e, F, le, s, pn, p⟩ => p W H σ F (Gr.refl le) s pn
theorem s_continue : PS X (.Continue pos) (S c XW pin σ0 ctD) := ps_imp ps_continue fun D σ H ⟨W, e, F, le, s, pn, p⟩ => p W H σ F (Gr.refl le) s pn
theorem s_one (h : PS X st (S c XW pin σ0 m)) : PSs X [st] (S c XW pin σ0 m) := pss_one h
theorem s_seq (h : PS X st (S c XW pin σ0 m1)) (h2 : PSs X rest (S c XW pin σ0 m2)) : PSs X (st :: rest) (S c XW pin σ0 (seqD m1 m2)) := pss_imp (pss_cons h h2) fun D σ H ⟨W, e, F, le, s, pn, p⟩ => by
  refine ⟨W, e, F, le, s, pn, ?_⟩
  unfold seqD at p
  cases q : m1 e with
  | nx e1 =>
    rw [q] at p
    exact fun W' H' σ' F' g s' pn' => ⟨W', e1, F', g.le, s', pn', SPst.after p g⟩
  | bk e1 => rw [q] at p; exact p
  | ct e1 => rw [q] at p; exact p
  | rt o e1 => rw [q] at p; exact p
  | err x e1 => rw [q] at p; exact p
  | stuck => rw [q] at p; exact p
theorem s_expr (ha : PE X x (T c XW b ma)) (hs : swapsWith x none pos.line X.env = pure false := by rfl) : PS X (.Expr x pos) (S c XW pin σ0 (dropD ma)) := ps_imp (ps_expr ha hs) fun D σ H ⟨W, e, F, le, s, pn, p⟩ =>
  Tr.s (b1 := b) le s pn p fun a e1 W1 H1 v F1 Fo _ g s1 r d p1 => p1 W1 H1 σ F1 ((Gr.refl g.le).less fun y hy => List.mem_append_left _ hy) s1 pn
theorem set_run {i : Nat} (hp : pin.contains i = false) {D : Ends} (h : S c XW pin σ0 (setD i ma) D σ H) : tAsg (T c XW b ma) (gName i) D σ H := by
  obtain ⟨W, e, F, le, s, pn, p⟩ := h
  refine Tr.s (b1 := b) le s pn p fun a e1 W1 H1 v F1 Fo _ g s1 r d p1 => ?_
  cases q : a.take e1 with
  | none => rw [q] at p1; exact p1.elim
  | some t =>
    obtain ⟨o, e2⟩ := t
    rw [q] at p1
    obtain ⟨W2, F2, Fo2, g2, s2, r2, d2⟩ := r.take g.le s1 d q
    obtain ⟨F3, s3, sub⟩ := s2.set' i r2 d2.symm
    exact p1 W2 H1 _ F3 (g2.less fun y hy => (sub y hy).elim (List.mem_append_left _) (List.mem_append_right _)) s3 (pn.set hp)
theorem s_set {i : Nat} {n : Str} {pos' : Pos} (hN : X.N.Nodup) (hi : X.N[i]? = some n) (hx : Loc X.env.scope n) (ha : PE X x (T c XW b ma)) (hp : pin.contains i = false := by rfl) (hs : swapsWith x (some (.Name n pos')) pos.line X.env = pure false := by rfl)
    (hf : X.fn n = true ∨ X.env.scope.names.lookup n = some .local := by first | exact .inl rfl | exact .inr rfl | assumption) : PS X (.Assign [.Name n pos'] x pos) (S c XW pin σ0 (setD i ma)) := ps_imp (ps_set hN hi hx ha hs hf) fun D σ H => set_run hp
theorem RVr.out {v : V} {a : RV} {Fo : List Addr} {o : O} (le : Le W H) (r : RVr c W H σ v a Fo) (s : Slots c W H σ e F) (d : Disj F Fo) (pn : PinOk pin σ0 σ) (h : a.out pin e = some (o, e1)) :
    ∃ W' F' Fo', Gr W H (F ++ Fo) W' H (F' ++ Fo') ∧ Slots c W' H σ e1 F' ∧ Rep c W' H v o Fo' ∧ Disj F' Fo' := by
  cases a with
  | tmp o' => exact r.take le s d h
  | pl i p =>
    cases p with
    | cons s1 p => exact r.take le s d h
    | nil =>
      have h : (if pin.contains i = true then RV.take e (.pl i []) else (e.at i).map fun o => (o, e.set i none)) = some (o, e1) := h
      by_cases hi : pin.contains i = true
      · rw [if_pos hi] at h; exact r.take le s d h
      · rw [if_neg hi] at h
        obtain ⟨ef, v0, h0, ha⟩ := r
        subst ef
        cases ha
        cases q : e.at i with
        | none => rw [q] at h; cases h
        | some o0 =>
          rw [q] at h
          cases h
          have sp : ∀ {σ : L2.St} {e : Env} {F : List Addr} {i : Nat}, Slots c W H σ e F → e[i]? = some (some o) → σ[i]? = some (some v) → ∃ F' Fo', Slots c W H σ (e.set i none) F' ∧ Rep c W H v o Fo' ∧ Disj F' Fo' ∧ (∀ a ∈ F', a ∈ F) ∧ (∀ a ∈ Fo', a ∈ F) := fun {σ e F i} s => by
            induction s generalizing i with
            | nil => intro h; cases h
            | @off st σ e F k ih =>
              intro h1 h2
              cases i with
              | zero => cases (Option.some.inj (show some none = some (some _) from h1))
              | succ i =>
                obtain ⟨F', Fo', k1, k2, k3, k4, k5⟩ := ih (i := i) (by simpa using h1) (by simpa using h2)
                exact ⟨F', Fo', .off k1, k2, k3, k4, k5⟩
            | @on v1 o1 σ e F G r k dj ih =>
              intro h1 h2
              cases i with
              | zero =>
                have z1 := Option.some.inj (Option.some.inj (show some (some _) = some (some _) from h1))
                have z2 := Option.some.inj (Option.some.inj (show some (some _) = some (some _) from h2))
                subst z1 z2
                exact ⟨G, F, .off k, r, dj.symm, fun a h => List.mem_append_right _ h, fun a h => List.mem_append_left _ h⟩
              | succ i =>
                obtain ⟨F', Fo', k1, k2, k3, k4, k5⟩ := ih (i := i) (by simpa using h1) (by simpa using h2)
                exact ⟨F ++ F', Fo', .on r k1 fun a h1 h2 => dj a h1 (k4 a h2), k2, Disj.app (fun a h1 h2 => dj a h1 (k5 a h2)) k3, fun a h => (List.mem_append.mp h).elim (List.mem_append_left _) fun z => List.mem_append_right _ (k4 a z), fun a h => List.mem_append_right _ (k5 a h)⟩
          obtain ⟨F', Fo', k1, k2, k3, k4, k5⟩ := sp s (Env.at_some q) h0
          refine ⟨W, F', Fo', ?_, k1, k2, k3⟩
          exact ((Gr.refl le).less fun y hy => (List.mem_append.mp hy).elim (k4 y) (k5 y)).more fun y hy => List.mem_append_left _ hy
theorem s_ret (ha : PE X x (T c XW b ma)) : PS X (.Return (some x) pos) (S c XW pin σ0 (rtD pin ma)) := ps_imp (ps_ret ha) fun D σ H ⟨W, e, F, le, s, pn, p⟩ =>
  Tr.s (b1 := b) le s pn p fun a e1 W1 H1 v F1 Fo _ g s1 r d p1 => by
    cases q : a.out pin e1 with
    | none => rw [q] at p1; exact p1.elim
    | some t =>
      obtain ⟨o, e2⟩ := t
      rw [q] at p1
      obtain ⟨W2, F2, Fo2, g2, s2, r2, d2⟩ := r.out g.le s1 d pn q
      exact p1 W2 H1 σ v F2 Fo2 g2 s2 pn r2 d2
theorem s_retN : PS X (.Return none pos) (S c XW pin σ0 rtN) := ps_imp ps_retN fun D σ H ⟨W, e, F, le, s, pn, p⟩ =>
  p W H σ .non F [] (by rw [List.append_nil]; exact Gr.refl le) s pn (.val .non) Disj.nil_right
theorem s_if {q : Expr} {s1 s2 : List Stmt} (hc : PT X q (TB c XW b tc)) (h1 : PSs X s1 (S c XW pin σ0 m1)) (h2 : PSs X s2 (S c XW pin σ0 m2)) : PS X (.If q s1 s2 pos) (S c XW pin σ0 (ifS tc m1 m2)) := ps_imp (ps_if hc h1 h2) fun D σ H ⟨W, e, F, le, s, pn, p⟩ =>
  Tr.s (b1 := b) le s pn p fun a e1 W1 H1 v F1 Fo _ g s1 r d p1 => by
    obtain ⟨ev, ef⟩ := r
    subst ev ef
    rw [List.append_nil] at p1
    cases v with
    | true => exact ⟨W1, e1, F1, g.le, s1, pn, p1⟩
    | false => exact ⟨W1, e1, F1, g.le, s1, pn, p1⟩
theorem s_while {q : Expr} {body : List Stmt} (n : Nat) (hp : PassesOwn (model X.prog X.w) X.A X.env X.xe) (hc : PT X q (TB c XW b tc)) (hb : PSs X body (S c XW pin σ0 m)) : PS X (.While q body [] pos) (S c XW pin σ0 (whileD n tc m)) := ps_imp (ps_while hp hc hb) fun D σ H ⟨W, e, F, le, s, pn, p⟩ => by
  refine ⟨fun k σ H => ∃ (W : Hp) (e : Env) (F : List Addr), Le W H ∧ Slots c W H σ e F ∧ PinOk pin σ0 σ ∧ SPst c XW pin σ0 W H F (whileD k tc m e) D, ⟨n, W, e, F, le, s, pn, p⟩, ?_⟩
  rintro k σ H ⟨W, e, F, le, s, pn, p⟩
  cases k with
  | zero => exact p.elim
  | succ k =>
    refine Tr.s (b1 := b) le s pn p fun a e1 W1 H1 v F1 Fo _ g s1 r d p1 => ?_
    obtain ⟨ev, ef⟩ := r
    subst ev ef
    rw [List.append_nil] at p1
    cases v with
    | false => exact p1 W1 H1 σ F1 (Gr.refl g.le) s1 pn
    | true =>
      rw [if_pos rfl] at p1 ⊢
      refine ⟨fun σ' H' => ∃ m', m' < k + 1 ∧ ∃ (W : Hp) (e : Env) (F : List Addr), Le W H' ∧ Slots c W H' σ' e F ∧ PinOk pin σ0 σ' ∧ SPst c XW pin σ0 W H' F (whileD m' tc m e) D, fun σ' H' z => z, W1, e1, F1, g.le, s1, pn, ?_⟩
      cases q : m e1 with
      | nx e2 => rw [q] at p1; exact fun W' H' σ' F' g' s' pn' => ⟨k, Nat.lt_succ_self k, W', e2, F', g'.le, s', pn', SPst.after p1 g'⟩
      | ct e2 => rw [q] at p1; exact fun W' H' σ' F' g' s' pn' => ⟨k, Nat.lt_succ_self k, W', e2, F', g'.le, s', pn', SPst.after p1 g'⟩
      | bk e2 => rw [q] at p1; exact p1
      | rt o e2 => rw [q] at p1; exact p1
      | err x e2 => rw [q] at p1; exact p1
      | stuck => rw [q] at p1; exact p1.elim
end
end Z

set_option maxRecDepth 100000
set_option maxHeartbeats 2000000
/-! Z.iter: what a loop walks, for -/
namespace Z
open PySem L2 PySem.Spec PyProof.Rows

/-- J walks the data ds, whatever else happens (p: as long as nothing is changed) -/
def IterOk (c : Cf) (p : Bool) (W0 H0 : Hp) (J : It) (ds : List D) : Prop := ds.length ≤ sizeLine ∧
  ∀ (i : Nat) (W H : Hp), Same W0 W → Le W H → (p = true → Same H0 H) → (∀ a o, W0 a ≠ none → H0 a = some o → H a = some o) →
    (i < ds.length → J.go i H ∧ ∀ x H', J.yld i H x H' → ∃ W', Gr W H [] W' H' [] ∧ ∃ d, ds[i]? = some d ∧ Dat c W' x d) ∧ (ds.length ≤ i → J.stop i H)
abbrev rIt (c : Cf) (p : Bool) : L2.St → Hp → Hp → It → List D → List Addr → Prop := fun _ W H J ds F => F = [] ∧ IterOk c p W H J ds
abbrev TI' (c : Cf) (XW : WX) (b p : Bool) (m : Env → Res (List D)) : TI := Tr c XW b (rIt c p) m
/-- the items of what is walked -/
def D.items : D → Option (List D)
  | .lst ds => some ds
  | .tup ds => some ds
  | .ctp ds => some ds
  | .str s => some (s.cps.toList.map fun ch => .str ⟨#[ch]⟩)
  | _ => none
def srcD (ma : Env → Res RV) : Env → Res (List D) := fun e => (ma e).bind fun a e1 => match a.take e1 with
  | some (o, e2) => Res.of e2 o.fz.items
  | none => .stuck
def rangeL (i j : Int) : List D := (List.range (j - i).toNat).map fun k => .int (i + (k : Nat))
def rangeOk (i j : Int) : Bool := smallI 4611686018427387903 i && (smallI 4611686018427387903 j && Nat.ble (j - i).toNat 16777216)
theorem rangeOk_eq (i j : Int) : rangeOk i j = decide (-(2 ^ 62) < i ∧ i < 2 ^ 62 ∧ -(2 ^ 62) < j ∧ j < 2 ^ 62 ∧ (j - i).toNat ≤ 16777216) := by
  unfold rangeOk
  rw [smallI_eq, smallI_eq, Bool.eq_iff_iff, decide_eq_true_iff, Bool.and_eq_true, Bool.and_eq_true, decide_eq_true_iff, decide_eq_true_iff, Nat.ble_eq]
  omega
def range1 : List D → Option (List D)
  | [.int j] => if rangeOk 0 j = true then some (rangeL 0 j) else none
  | _ => none
def range2 : List D → Option (List D)
  | [.int i, .int j] => if rangeOk i j = true then some (rangeL i j) else none
  | _ => none
def rangeD (f : List D → Option (List D)) (mas : Env → Res (List RV)) : Env → Res (List D) := fun e => (mas e).bind fun as e1 => Res.of e1 ((fzs e1 as).bind f)

/-- what the loop over a list, a tuple, a text asks of the value -/
def kSeq (K : PySem.W.Frag) (x : V) (H : Hp) (R : It → Hp → Prop) : Prop :=
  (∃ a xs, x = .ref a ∧ SqL K H a xs ∧ (xs.length ≤ sizeLine → R (Itl K a) H)) ∨ (∃ a xs, x = .ref a ∧ SqT K H a xs ∧ (xs.length ≤ sizeLine → R (Itt K a) H)) ∨ (∃ s, x = .str s ∧ R (Its s) H)
section
variable {X : Cx} {tg : Expr}
theorem pi_seq {l : Expr} {tl : TE} (hl : PE X l tl) : PI X tg l (fun σ H R => tl σ H fun x H1 => kSeq X.K x H1 R) := by
  refine ⟨fun pins s σ H R I h => ?_⟩
  -- the value first
  refine thn (hl.run pins s σ H _ I h) fun v s1 ⟨x, H1, I1, r1, q1⟩ => ?_
  -- then the iterator, by the rule of a name that holds it
  rcases q1 with ⟨a, xs, rfl, hq, q⟩ | ⟨a, xs, rfl, hq, q⟩ | ⟨z, rfl, q⟩
  · cases r1
    obtain ⟨its, rv, p, hz⟩ := I1.list hq
    refine wpAny_pyIter_list p.isList ?_
    refine ⟨s1.heap.objs.size, [s1.heap.objs.size], _, _, H1, rfl, I1.kept (t' := s1.toks) fun b o e => Heap.get?_push_of_some _ e, turn_list a _, ⟨_, Heap.get?_push_size _ rfl, rfl, rfl⟩, fun b hb => ?_, q hz⟩
    rw [List.mem_singleton.mp hb]
    exact I1.fpOk (Nat.le_refl _) (I1.hok.fresh (Nat.le_refl _))
  · cases r1
    obtain ⟨its, rv, p, hz⟩ := I1.tuple hq
    refine wpAny_pyIter_tuple (show s1.heap.IsTuple a its.toArray from p) ?_
    refine ⟨s1.heap.objs.size, [s1.heap.objs.size], _, _, H1, rfl, I1.kept (t' := s1.toks) fun b o e => Heap.get?_push_of_some _ e, turn_tuple a _, ⟨_, Heap.get?_push_size _ rfl, rfl, rfl⟩, fun b hb => ?_, q hz⟩
    rw [List.mem_singleton.mp hb]
    exact I1.fpOk (Nat.le_refl _) (I1.hok.fresh (Nat.le_refl _))
  · obtain ⟨t, rfl⟩ := r1
    cases ha : z.cps.all (· < 128)
    · exact wpAny_pyIter_wide ha (pi_one (tk := s1.toks) I1 _ (turn_str _ z t "str_iterator" (.inr rfl)) ⟨_, Heap.get?_push_size _ rfl, rfl, rfl⟩ q)
    · exact wpAny_pyIter_ascii ha (pi_one (tk := s1.toks) I1 _ (turn_str _ z t "str_ascii_iterator" (.inl rfl)) ⟨_, Heap.get?_push_size _ rfl, rfl, rfl⟩ q)
end
end Z

set_option maxRecDepth 100000
set_option maxHeartbeats 2000000
/-! Z.exc: exceptions that pass; comprehensions that let them out -/
namespace Z
open PySem L2 PySem.Spec PyProof.Rows

theorem noteFrame_same {a b : PySem.Env} (h : a.frame = b.frame) (e : Value) : noteFrame e a = noteFrame e b := by
  unfold noteFrame PySem.frameOf
  rw [h]
/-- an exception that flies over X's frames, or is held by the frame at L -/
def XEf (X : Cx) (L : Addr) (W : WX) (u : Value) (s' : Shared) : Prop :=
  ∃ (a : Addr) (B : Heap) (sI : Shared) (pins : List (Addr × Obj)) (σ : L2.St) (H : Hp) (cls : Value) (d : Option Addr),
    u = .ref a ∧ Inv X pins σ H sI ∧ (∀ b o, sI.heap.get? b = some o → b ∉ frs X.stack → B.get? b = some o) ∧ sI.heap.UpToSlots s'.heap ∧
      (HandSPX.FlyingZ B X.stack a (Zc cls d) s'.heap ∨ HandSPX.HeldZ B X.stack a (Zc cls d) L s'.heap) ∧ H a = none ∧ s'.os = sI.os ∧ AllBare s'.gens ∧ W cls d σ H
/-- what may be raised within is taken -/
def HP (X : Cx) (W : WX) : Prop := ∃ (L : Addr) (env0 : PySem.Env) (outer0 : List PySem.Env), X.stack = env0 :: outer0 ∧ env0.frame = some L ∧ X.env.frame = some L ∧ ∀ u s', XEf X L W u s' → X.xe u s'
section
variable {X : Cx} {pins : List (Addr × Obj)} {σ : L2.St} {H : Hp} {s s' : Shared} {W : WX} {E : XK}
theorem HP.of_takes (tk : Takes X W) (hs : X.stack = X.env :: X.outer) (hf : X.env.frame = some X.env.locals) : HP X W :=
  ⟨X.env.locals, X.env, X.outer, hs, hf, hf, fun u s' ⟨a, B, sI, pins, σ, H, cls, d, e, I, nb, up, sky, na, os, ag, w⟩ => tk u s' ⟨a, B, sI, pins, σ, H, cls, d, e, I, nb, up, .inr sky, na, os, ag, w⟩⟩
/-- a call's exception flies over us -/
theorem XEf.of_call {L : Addr} (I : Inv X pins σ H s) (hW : ∀ cls d H', E cls d H' → W cls d σ H') {u : Value} (c : L2.CX X.prog X.w X.stack H s E u s') : XEf X L W u s' := by
  obtain ⟨a, B, H', cls, d, rfl, fl, hok, ub, na, os, ag, hE⟩ := c
  -- the ground and the frames, nothing else
  obtain ⟨G, g1, g2⟩ := restrict s'.heap fun b => (B.get? b).isSome || decide (b ∈ frs X.stack)
  have st : B.StaysIn s'.heap := fl.1
  have inB : ∀ b o, B.get? b = some o → G.get? b = some o := fun b o e => by
    rw [g1 b (by simp [e])]
    exact st b o e
  have inF : ∀ b, b ∈ frs X.stack → G.get? b = s'.heap.get? b := fun b hb => g1 b (by simp [hb])
  have out : ∀ b o, G.get? b = some o → s'.heap.get? b = some o ∧ ((B.get? b).isSome = true ∨ b ∈ frs X.stack) := fun b o e => by
    cases q : ((B.get? b).isSome || decide (b ∈ frs X.stack)) with
    | false => rw [g2 b q] at e; cases e
    | true =>
      rw [g1 b q] at e
      exact ⟨e, by simpa [Bool.or_eq_true] using q⟩
  refine ⟨a, B, { s with heap := G, gens := s'.gens, drawn := s'.drawn, toks := s'.toks }, pins, σ, H', cls, d, rfl, ?_, fun b o e hb => ?_, Heap.UpToSlots.of_keeps fun b o e => (out b o e).1, .inl fl, na, os, ag, hW _ _ _ hE⟩
  · refine I.call (ch := []) ⟨fun b o e n hb _ => inB b o (ub.keep b o e n hb), fun b o e n hb _ => ?_, fun b o e n _ => ub.free b o e n, fun b o e _ => ?_, ub.tups, ub.frzs, ub.tbls⟩ (hok.kept inB) ag (fun _ z => nomatch z)
    · obtain ⟨sl, q⟩ := ub.slot b o e hb
      exact ⟨sl, by rw [inF b hb]; exact q⟩
    · by_cases hb : b ∈ frs X.stack
      · obtain ⟨sl, q⟩ := ub.slot b o e hb
        exact ⟨_, by rw [inF b hb]; exact q⟩
      · obtain ⟨o', q⟩ := ub.there b o e hb
        exact ⟨o', inB b o' q⟩
  · obtain ⟨e', h⟩ := out b o e
    rcases h with h | h
    · obtain ⟨o', q⟩ := Option.isSome_iff_exists.mp h
      have z := st b o' q
      rw [e'] at z; cases z
      exact q
    · exact absurd h hb
theorem HP.pass (h : HP X W) (σ : L2.St) : PassesAt (L2.CX X.prog X.w) X σ (fun cls d H => W cls d σ H) := fun _ _ _ e s' I c => by
  obtain ⟨L, _, _, _, _, _, k⟩ := h
  exact k e s' (XEf.of_call I (fun _ _ _ h => h) c)
end

/-! ### a comprehension, at its very frame -/
section
variable {M : Model} {A : Around} {E : Value → Shared → Prop} {s : Shared} {env : PySem.Env}
def compEnd (M : Model) (A : Around) (E : Value → Shared → Prop) (use : Option (Value → Sem Unit)) (Q : Value → Shared → Prop) (acc : Value) (ce : PySem.Env) (r : Result) (s' : Shared) : Prop :=
  match r, use with
  | .ok _, none => ∃ m, s'.heap.Ns ce.locals m ∧ ∀ h', Heap.SameBut ce.locals s'.heap h' → Q acc { s' with heap := h' }
  | .ok _, some u => wpAny M A (u acc) (fun _ s'' => ∃ m, s''.heap.Ns ce.locals m ∧ ∀ h', Heap.SameBut ce.locals s''.heap h' → Q .none { s'' with heap := h' }) E s'
  | .error x, _ => ∃ m, s'.heap.Ns ce.locals m ∧ ∀ h', Heap.SameBut ce.locals s'.heap h' → wpAny M A (passOn "comprehension.variables-let-go" x ce : Sem Value) (fun _ _ => False) E { s' with heap := h' }
theorem wpAny_compX {e : Expr} {scope : Scope} {pos : Pos} {newAcc first : Sem Value} {g : Comprehension} {gs : List Comprehension} {cl : List (Str × Addr)} {use : Option (Value → Sem Unit)} {Q : Value → Shared → Prop}
    (hcl : clausesOf e = g :: gs) (hs : ∀ x, foldedSetIterable g.iter env x = pure x) (hclos : closureFor scope env = pure cl)
    (hkind : scope.kind = .function) (hnames : ∀ x ∈ scope.names, x.2 = .local → scope.names.lookup x.1 = some .local)
    (h : wpAny M A first (fun x s₁ => wpAny M A (pyIter x) (fun it s₂ => wpAny M A newAcc (fun acc s₃ =>
      wpAny M A (newFunctionEnv scope env.globals cl [] env.qual none .none (some env)) (fun cenv s₄ =>
        codeAny M A (.compStart e 0 it acc { cenv with scope := relabel scope env }) (compEnd M A E use Q acc { cenv with scope := relabel scope env }) s₄) E s₃) E s₂) E s₁) E s) :
    wpAny M A (comprehension e scope env pos newAcc false first use) Q E s := by
  unfold comprehension
  rw [hclos, hcl]
  refine wpAny_bind (wpAny_mono h (fun x s₁ h₁ => wpAny_bind (wpAny_standAt (wpAny_bind (wpAny_of_eq (hs x) (wpAny_bind (wpAny_holding (wpAny_mono h₁ (fun it s₂ h₂ =>
    wpAny_standIf (wpAny_bind (wpAny_mono h₂ (fun acc s₃ h₃ => wpAny_bind (wpAny_pure (wpAny_bind (wpAny_mono h₃ (fun cenv s₄ h₄ => ?_) fun _ _ h' => h')))) fun _ _ h' => h')))
      fun _ _ h' => h'))))))) fun _ _ h' => h')
  dsimp only
  have hv : ∀ x ∈ (scope.names.filter fun x => (x.2 == .local || x.2 == .cell) && x.1 != (".0" : Str)).reverse, x.2 = .local →
      Env.kindOf { cenv with scope := relabel scope env } x.1 = some .local := fun x hx hl => lookup_relabel_local (hnames x (List.mem_filter.mp (List.mem_reverse.mp hx)).1 hl)
  have hv' : ∀ x ∈ (scope.names.filter fun x => (x.2 == .local || x.2 == .cell) && x.1 != (".0" : Str)).reverse.drop 1 ++ (scope.names.filter fun x => (x.2 == .local || x.2 == .cell) && x.1 != (".0" : Str)).reverse.take 1,
      x.2 = .local → Env.kindOf { cenv with scope := relabel scope env } x.1 = some .local := fun x hx hl => by
    rcases List.mem_append.mp hx with h1 | h1
    · exact hv x (List.mem_of_mem_drop h1) hl
    · exact hv x (List.mem_of_mem_take h1) hl
  refine wpAny_holding (wpAny_bind (wpAny_attempt (wpAny_holding (wpAny_run (codeAny_mono h₄ fun r s' hr => ?_)))))
  cases r with
  | ok f =>
    cases use with
    | none =>
      obtain ⟨m, hn, hr⟩ := hr
      exact wpAny_bind (wpAny_holding (wpAny_comp_letGo (cenv := { cenv with scope := relabel scope env }) hkind _ s' m hv hn fun h' m' _ hs' => wpAny_pure (hr h' hs')))
    | some u =>
      refine wpAny_bind (wpAny_rule (wpAny_bind (wpAny_holding (wpAny_mono hr (fun _ s'' hr' => ?_) fun _ _ h' => h'))))
      obtain ⟨m, hn, hr'⟩ := hr'
      exact wpAny_bind (wpAny_comp_letGo (cenv := { cenv with scope := relabel scope env }) hkind _ s'' m hv' hn fun h' m' _ hs' => wpAny_pure (hr' h' hs'))
  | error x =>
    have hr' : ∃ m, s'.heap.Ns cenv.locals m ∧ ∀ h', Heap.SameBut cenv.locals s'.heap h' → wpAny M A (passOn "comprehension.variables-let-go" x { cenv with scope := relabel scope env } : Sem Value) (fun _ _ => False) E { s' with heap := h' } := by cases use <;> exact hr
    obtain ⟨m, hn, hr⟩ := hr'
    exact wpAny_bind (wpAny_holding (wpAny_comp_letGo (cenv := { cenv with scope := relabel scope env }) hkind _ s' m hv hn fun h' m' _ hs' => wpAny_mono (hr h' hs') (fun _ _ f => f.elim) fun _ _ y => y))
end

/-! ### what the exception bears as the block's names go -/
theorem funFrames_but {B h h' : Heap} {C : Addr} (sb : Heap.SameBut C h h') : ∀ {l : List PySem.Env}, h.FunFrames B l → C ∉ frs l → h'.FunFrames B l
  | [], _, _ => trivial
  | env :: l, x, hn => by
    obtain ⟨hk, ⟨L, o, hf, hb, ho, hd⟩, hr⟩ := x
    have hL : L ∈ frs (env :: l) := List.mem_filterMap.mpr ⟨env, List.mem_cons_self, hf⟩
    exact ⟨hk, ⟨L, o, hf, hb, (sb.2 L fun z => hn (z ▸ hL)).trans ho, hd⟩, funFrames_but sb hr fun z => hn (by unfold frs at z ⊢; rw [List.filterMap_cons, hf]; exact List.mem_cons_of_mem _ z)⟩
theorem funFrames_less {B B' h : Heap} (k : ∀ b, B.get? b = none → B'.get? b = none) : ∀ {l : List PySem.Env}, h.FunFrames B l → h.FunFrames B' l
  | [], _ => trivial
  | env :: l, x => by
    obtain ⟨hk, ⟨L, o, hf, hb, ho, hd⟩, hr⟩ := x
    exact ⟨hk, ⟨L, o, hf, k L hb, ho, hd⟩, funFrames_less k hr⟩
theorem hide1_none {B : Heap} {C b : Addr} (h : B.get? b = none) : (PySem.W.hideAll B [C]).get? b = none := by
  cases q : (PySem.W.hideAll B [C]).get? b with
  | none => rfl
  | some o => rw [PySem.W.of_hideAll _ q] at h; cases h
theorem hide1_ne {B : Heap} {C b : Addr} {o : Obj} (h : (PySem.W.hideAll B [C]).get? b = some o) : b ≠ C := fun z => by
  rw [z, PySem.W.hideAll_none [C] List.mem_cons_self] at h; cases h
theorem held_but {B h h' : Heap} {l : List PySem.Env} {e L C : Addr} {Z : Obj → Prop} {oC : Obj} (hh : HandSPX.HeldZ B l e Z L h) (sb : Heap.SameBut C h h') (hC : B.get? C = some oC) (hf : C ∉ frs l) : HandSPX.HeldZ (PySem.W.hideAll B [C]) l e Z L h' := by
  obtain ⟨k1, k2, k3, oe, vs, T, oT, ts, he, hz, hd, h1, hnT, hTe, hT, hdT, h3⟩ := hh
  have ne : ∀ b, B.get? b = none → b ≠ C := fun b q z => by rw [z, hC] at q; cases q
  refine ⟨fun b o q => (sb.2 b (hide1_ne q)).trans (k1 b o (PySem.W.of_hideAll _ q)), hide1_none k2, funFrames_less (fun b q => hide1_none q) (funFrames_but sb k3 hf), oe, vs, T, oT, ts, (sb.2 e (ne e k2)).trans he, hz, hd, h1, hide1_none hnT, hTe, (sb.2 T (ne T hnT)).trans hT, hdT, h3⟩

/-- the block's context, with a wish -/
abbrev blkX (X : Cx) (s : Shared) (H : Hp) (scope : Scope) (ce : PySem.Env) (fp : List Addr) (xe : Value → Shared → Prop) : Cx := { X.blk s H scope ce fp with xe := xe }
theorem Inv.toX {X : Cx} {pins : List (Addr × Obj)} {σ : L2.St} {H : Hp} {s : Shared} (I : Inv X pins σ H s) (xe : Value → Shared → Prop) : Inv { X with xe := xe } pins σ H s := I.wish xe
/-- the slots are the def's as they were -/
def XWs (XW : WX) (σ : L2.St) : WX := fun cls d _ H => XW cls d σ H
/-- what leaves the block leaves the comprehension -/
theorem hp_blk {X : Cx} {XW : WX} {pins : List (Addr × Obj)} {σ : L2.St} {H3 : Hp} {s3 : Shared} {scope : Scope} {ce : PySem.Env} {fp : List Addr} {use : Option (Value → Sem Unit)} {Qf : Value → Shared → Prop} {acc : Value} {L : Addr} {env0 : PySem.Env} {outer0 : List PySem.Env}
    (hs : X.stack = env0 :: outer0) (hf0 : env0.frame = some L) (hf : X.env.frame = some L) (hk : ∀ u s', XEf X L XW u s' → X.xe u s') (hcf : ce.frame = X.env.frame) (hcl : ce.locals = s3.heap.objs.size) (I3 : Inv X pins σ H3 s3)
    (f3 : ∀ b ∈ fp, FpOk X pins H3 b) :
    HP (blkX X s3 H3 scope ce fp (notedBy (model X.prog X.w) X.A ce fun e s' => compEnd (model X.prog X.w) X.A X.xe use Qf acc ce (.error e) s')) (XWs XW σ) := by
  refine ⟨L, env0, outer0, hs, hf0, hcf.trans hf, fun u s' ⟨a, B, sI, pins', σ', H', cls, d, eu, J, nb, up, sky, na, os, ag, w⟩ => ?_⟩
  subst eu
  have hfr : X.A.frames = some (env0 :: outer0) := by rw [I3.ok.frames, hs]
  have hnf : ce.locals ∉ frs X.stack := fun z => by
    have := List.mem_cons.mp (I3.stkSub _ z)
    rw [hcl] at this
    rcases this with z | z
    · exact absurd (I3.lt) (by rw [z]; exact Nat.lt_irrefl _)
    · exact I3.nofs (Nat.le_refl _) z
  obtain ⟨m, ⟨oC, es, ep, hoC, hdC, hres⟩, _⟩ := id J.loc
  have hoC : sI.heap.get? ce.locals = some oC := hoC
  have hBC : B.get? ce.locals = some oC := nb _ _ hoC hnf
  -- held by the frame
  have fin : ∀ h1, HandSPX.HeldZ B (env0 :: outer0) a (Zc cls d) L h1 → s'.heap.UpToSlots h1 → compEnd (model X.prog X.w) X.A X.xe use Qf acc ce (.error (.ref a)) { s' with heap := h1 } := fun h1 hh up1 => by
    obtain ⟨sl1, e1⟩ := up _ _ hoC (fun vs z => by rw [hdC] at z; cases z)
    obtain ⟨sl2, e2⟩ := up1 _ _ e1 (fun vs z => by
      have z : oC.data = .fields vs := z
      rw [hdC] at z; cases z)
    have ns : h1.Ns ce.locals m := ⟨_, es, ep, e2, hdC, hres⟩
    have go : ∀ h', Heap.SameBut ce.locals h1 h' → wpAny (model X.prog X.w) X.A (passOn "comprehension.variables-let-go" (.ref a) ce : Sem Value) (fun _ _ => False) X.xe { s' with heap := h' } := fun h' sb => by
      have hh' := held_but hh sb hBC (by rw [← hs]; exact hnf)
      obtain ⟨_, _, _, oe, vs, T, oT, ts, he, hz, hd, hv1, _⟩ := id hh'
      unfold PySem.passOn
      refine wpAny_bind (wpAny_field he hd hv1 ?_)
      rw [if_neg (show ¬ ((Value.ref T == Value.none) = true) from by simp)]
      have fin2 : wpAny (model X.prog X.w) X.A (setFlight (.ref a) ce.frame) (fun _ s4 => wpAny (model X.prog X.w) X.A (throw (.ref a) : Sem Value) (fun _ _ => False) X.xe s4) X.xe { s' with heap := h' } := by
        rw [hcf, hf]
        refine HandSPX.setFlight_onZ hh' fun h2 hh2 up2 => wpAny_throw (hk _ _ ?_)
        have J1 : Inv X pins σ H' sI := I3.call' (ch := fp) J.os J.base J.hok J.bare fun b hb => ⟨(f3 b hb).2.2.2.1, (f3 b hb).2.1, (f3 b hb).2.2.2.2.1, (f3 b hb).2.2.2.2.2⟩
        have nC : H' ce.locals = none := J.free
        have fC := I3.fpOk (Nat.le_refl _) (by rw [← hcl]; exact nC)
        rw [← hcl] at fC
        have J2 : Inv X pins σ H' { sI with heap := PySem.W.hideAll sI.heap [ce.locals], toks := sI.toks } :=
          J1.turned (it := ce.locals) (fun b o hb e => PySem.W.hideAll_get _ e fun z => hb (by simpa using z)) nC fC.2.1 fC.2.2.2.1 fC.2.2.2.2.1 fC.2.2.2.2.2
        refine ⟨a, PySem.W.hideAll B [ce.locals], _, pins, σ, H', cls, d, rfl, J2, fun b o e hb => ?_, fun b o e hnf' => ?_, .inr (by rw [hs]; exact hh2), na, os, ag, w⟩
        · exact PySem.W.hideAll_get _ (nb b o (PySem.W.of_hideAll _ e) hb) fun z => hide1_ne e (by simpa using z)
        · have hb := hide1_ne e
          obtain ⟨sa, ea⟩ := up b o (PySem.W.of_hideAll _ e) hnf'
          obtain ⟨sb1, eb⟩ := up1 b _ ea hnf'
          obtain ⟨sc, ec⟩ := up2 b _ ((sb.2 b hb).trans eb) hnf'
          exact ⟨sc, ec⟩
      first
        | exact wpAny_bind (wpAny_pure (wpAny_bind fin2))
        | exact wpAny_bind fin2
    cases use with
    | none => exact ⟨m, ns, go⟩
    | some u => exact ⟨m, ns, go⟩
  show wpAny (model X.prog X.w) X.A (noteFrame (.ref a) ce) _ _ s'
  rw [noteFrame_same (b := env0) (hcf.trans (hf.trans hf0.symm))]
  have sky' : HandSPX.FlyingZ B (env0 :: outer0) a (Zc cls d) s'.heap ∨ HandSPX.HeldZ B (env0 :: outer0) a (Zc cls d) L s'.heap := by rw [← hs]; exact sky
  rcases sky' with fl | hh
  · exact HandSPX.looks_onZ Zc.steady hfr hf0 fl fin
  · exact HandSPX.againZ hf0 hh.2.2.2 (fin s'.heap hh (Heap.UpToSlots.refl _))

theorem thnE {α : Type} {t : Sem α} {Q Q' : α → Shared → Prop} {M : Model} {A : Around} {E : Value → Shared → Prop} {s : Shared} (h : wpAny M A t Q E s) (hQ : ∀ a s, Q a s → Q' a s) : wpAny M A t Q' E s := wpAny_mono h hQ fun _ _ z => z
abbrev CE0 (X : Cx) (scope : Scope) (C : Addr) (cl : List (Str × Addr)) : PySem.Env := compEnvC scope cl C X.env
section
variable {X : Cx} {XW : WX}
theorem lcx_core {pins : List (Addr × Obj)} {s : Shared} {σ : L2.St} {H : Hp} {Q : VK} {elt tg iter : Expr} {ifs : List Expr} {scope : Scope} {own : List (Str × Nat)} {pos pos' : Pos} {wi : TI} {g : TG} {tt : WX → TT} {te : WX → TE} {use : Option (Value → Sem Unit)} {Qf : Value → Shared → Prop}
    (hp : HP X XW) (hc : X.calm = true) (hN : X.N.Nodup) (I : Inv X pins σ H s) (hi : PI X tg iter wi) (ok : BlkOk X.N X.env.scope scope own)
    (hg : ∀ (s : Shared) (H : Hp) (C : Addr) (cl : List (Str × Addr)) (fp : List Addr) (xe : Value → Shared → Prop), PG (blkX X s H scope (CE0 X scope C cl) fp xe) tg g)
    (ht : ∀ (s : Shared) (H : Hp) (C : Addr) (cl : List (Str × Addr)) (fp : List Addr) (xe : Value → Shared → Prop) (W : WX), HP (blkX X s H scope (CE0 X scope C cl) fp xe) W → PTs (blkX X s H scope (CE0 X scope C cl) fp xe) ifs (tt W))
    (he : ∀ (s : Shared) (H : Hp) (C : Addr) (cl : List (Str × Addr)) (fp : List Addr) (xe : Value → Shared → Prop) (W : WX), HP (blkX X s H scope (CE0 X scope C cl) fp xe) W → PE (blkX X s H scope (CE0 X scope C cl) fp xe) elt (te W))
    (hs : ∀ x, foldedSetIterable iter X.env x = pure x)
    (h : tLc wi g (tt (XWs XW σ)) (te (XWs XW σ)) (own.map (·.2)) σ H Q)
    (hRR : ∀ D C s' m H', Inv X pins σ H' s' → Q (.ref D) H' → s'.heap.Ns C m → FpOk X pins H' C → ∀ ce : PySem.Env, ce.locals = C → compEnd (model X.prog X.w) X.A X.xe use Qf (.ref D) ce (.ok .next) s') :
    wpAny (model X.prog X.w) X.A (comprehension (.ListComp elt [⟨tg, iter, ifs, 0⟩] scope pos) scope X.env pos' (newList []) false (eval iter X.env) use) Qf X.xe s := by
  obtain ⟨L0, env0, outer0, hst, hf0, hf, hk⟩ := hp
  have hfree : ∀ y ∈ scope.names, y.2 = .free → ∃ c, X.env.cells.lookup y.1 = some c := fun y hy e => by
    rcases ok.free y hy e with k | k
    · exact I.ok.has _ (.inl k)
    · exact I.ok.has _ (.inr k)
  refine wpAny_compX (use := use) rfl hs (closure_ok hfree) ok.kind (fun y hy e => by rw [ok.uniq y hy, e])
    (thn (hi.run pins s σ H _ I h) fun xv s1 hx => thn hx fun itv s2 h2 => ?_)
  obtain ⟨it, fp, tn, J, H2, e, I2, T, st2, f2, q⟩ := h2
  subst e
  refine wpAny_newObj_type (newEnv_comp ?_) (by show 0 ≤ sizeLine; decide)
  generalize hD : s2.heap.objs.size = D
  have hDn : H2 D = none := I2.hok.fresh (Nat.le_of_eq hD)
  obtain ⟨W, ⟨m0, w0⟩, turn⟩ := q D hDn
  generalize hs3 : ({ s2 with heap := s2.heap.push { cls := .type "list", data := .seq ([] : List Value).toArray } } : Shared) = s3
  have I3 : Inv X pins σ (upd H2 D (.lst [])) s3 := by
    rw [← hs3]
    refine I2.laid (t' := s2.toks) (fun b o e => Heap.get?_push_of_some _ e) (Nat.le_of_eq hD) ⟨Nat.zero_le _, [], 0, .nil, ?_⟩
    rw [← hD]
    exact Heap.get?_push_size _ rfl
  have h3 : s3.heap = s2.heap.push { cls := .type "list", data := .seq ([] : List Value).toArray } := by rw [← hs3]
  have sz : ∀ b ∈ fp, b < s2.heap.objs.size := fun b hb => by
    obtain ⟨o, e, _⟩ := T.obj _ _ st2 b hb
    exact Heap.lt_size e
  have f3 : ∀ b ∈ fp, FpOk X pins (upd H2 D (.lst [])) b ∧ b < s3.heap.objs.size := fun b hb => by
    have hlt := sz b hb
    refine ⟨⟨?_, (f2 b hb).2⟩, by rw [h3, Heap.size_push]; exact Nat.lt_succ_of_lt hlt⟩
    rw [upd_ne (by rw [← hD]; exact Nat.ne_of_lt hlt)]
    exact (f2 b hb).1
  have st3 : tn 0 s3.heap := T.keep _ _ _ st2 fun b _ o e => by rw [h3]; exact Heap.get?_push_of_some _ e
  have I4 := block_start I3 ok hN f3
  generalize hcl : cellsFrom (s3.heap.objs.size + 1) scope.names (cloFrom X.env.cells scope.names []) = cl at I4
  generalize hH3 : upd H2 D (.lst []) = H3 at I3 I4 w0 f3
  -- the block's wish
  generalize hxe : (notedBy (model X.prog X.w) X.A (CE0 X scope s3.heap.objs.size cl) fun e s' => compEnd (model X.prog X.w) X.A X.xe use Qf (.ref D) (CE0 X scope s3.heap.objs.size cl) (.error e) s') = xe
  have hb : HP (blkX X s3 H3 scope (CE0 X scope s3.heap.objs.size cl) fp xe) (XWs XW σ) := by
    rw [← hxe]
    exact hp_blk hst hf0 hf hk rfl rfl I3 fun b hb => (f3 b hb).1
  have pg := hg s3 H3 s3.heap.objs.size cl fp xe
  have pt := ht s3 H3 s3.heap.objs.size cl fp xe _ hb
  have pe := he s3 H3 s3.heap.objs.size cl fp xe _ hb
  have I4 : Inv (blkX X s3 H3 scope (CE0 X scope s3.heap.objs.size cl) fp xe) [] (wipe σ (own.map (·.2))) H3 { s3 with heap := pushCells (s3.heap.push { cls := .type "dict", data := .dict #[] }) scope.names } := Inv.toX I4 xe
  show codeAny _ _ (.compStart (.ListComp elt [⟨tg, iter, ifs, 0⟩] scope pos) 0 (.ref it) (.ref D) (CE0 X scope s3.heap.objs.size cl)) (compEnd (model X.prog X.w) X.A X.xe use Qf (.ref D) (CE0 X scope s3.heap.objs.size cl)) { s3 with heap := pushCells (s3.heap.push { cls := .type "dict", data := .dict #[] }) scope.names }
  have nfp : ∀ b ∈ fp, H3 b = none := fun b hb => (f3 b hb).1.1
  have cL : (CE0 X scope s3.heap.objs.size cl).locals = s3.heap.objs.size := rfl
  generalize hce : CE0 X scope s3.heap.objs.size cl = ce at I4 pg pt pe cL hxe ⊢
  generalize hs4 : ({ s3 with heap := pushCells (s3.heap.push { cls := .type "dict", data := .dict #[] }) scope.names } : Shared) = s4 at I4 ⊢
  have st4 : tn 0 s4.heap := T.keep _ _ _ st3 fun b _ o e => by rw [← hs4]; exact pushCells_keeps _ _ _ _ (Heap.get?_push_of_some _ e)
  have stat : ∀ {σ' : L2.St} {H' : Hp} {s' : Shared}, Inv (blkX X s3 H3 scope ce fp xe) [] σ' H' s' → (∀ b ∈ fp, H' b = none) → ∀ b ∈ fp, FpOk (blkX X s3 H3 scope ce fp xe) [] H' b := fun {σ' H' s'} I' hn b hb =>
    ⟨hn b hb, (I'.ok.exf b hb).1, I'.ok.exfs b hb, .inl hb, fun x c e => (I'.ok.exf b hb).2 x c e, fun p hp => absurd (show p ∈ ([] : List (Addr × Obj)) ++ [] from hp) (by simp)⟩
  have loop : codeAny (model X.prog X.w) X.A (.compLoop (.ListComp elt [⟨tg, iter, ifs, 0⟩] scope pos) 0 (.ref it) (.ref D) ce) (compEnd (model X.prog X.w) X.A X.xe use Qf (.ref D) ce) s4 := by
    refine compLoop_any (fun n s' => ∃ i H', Inv (blkX X s3 H3 scope ce fp xe) [] (wipe σ (own.map (·.2))) H' s' ∧ tn i s'.heap ∧ (∀ b ∈ fp, H' b = none) ∧ W i n H') ?_ m0 ⟨0, H3, I4, st4, nfp, w0⟩
    rintro n s5 ⟨i, H5, I5, st5, n5, w5⟩
    rw [hxe]
    rcases turn i n H5 w5 with ⟨stop, qq⟩ | ⟨go, Nx, hNx, step⟩
    · have td := T.done (blkX X s3 H3 scope ce fp xe) rfl rfl rfl hc i [] s5 _ H5 xe I5 (stat I5 n5) st5 stop
      refine thnE td fun r s6 ⟨hr, I6⟩ => ?_
      subst hr
      have I7 : Inv X pins σ H5 s6 := I3.call' (ch := fp) I6.os I6.base I6.hok I6.bare fun b hb => ⟨(f3 b hb).1.2.2.2.1, (f3 b hb).1.2.1, (f3 b hb).1.2.2.2.2.1, (f3 b hb).1.2.2.2.2.2⟩
      have nC : H5 s3.heap.objs.size = none := by
        have z : H5 ce.locals = none := I6.free
        rw [cL] at z
        exact z
      obtain ⟨m, hn, _⟩ := I6.loc
      have hn : s6.heap.Ns ce.locals m := hn
      rw [cL] at hn
      exact hRR D s3.heap.objs.size s6 m H5 I7 qq hn (I3.fpOk (Nat.le_refl _) nC) ce cL
    · have ti := T.item (blkX X s3 H3 scope ce fp xe) rfl rfl rfl hc i [] s5 _ H5 xe I5 (stat I5 n5) st5 go
      refine thnE ti fun r s6 ⟨u, hr, h6⟩ => ?_
      subst hr
      refine thnE h6 fun _ s7 ⟨x, H7, I7, r7, y7, st7, n7⟩ => ?_
      have I7' := I7.pinned (stat I7 n7) (T.obj _ _ st7)
      refine thnE (pg.run _ s7 _ H7 x u _ I7' r7 (step x H7 y7)) fun _ s8 ⟨σ8, H8, I8, hw8, q8⟩ => ?_
      refine thnE (pt.run _ s8 σ8 H8 _ I8 q8) fun b s9 ⟨H9, I9, q9⟩ => ?_
      have fin : ∀ {s' : Shared} {H' : Hp}, Inv (blkX X s3 H3 scope ce fp xe) ([] ++ pinsAt fp s7.heap) σ8 H' s' → Nx H' → ∃ m, m < n ∧ ∃ i H', Inv (blkX X s3 H3 scope ce fp xe) [] (wipe σ (own.map (·.2))) H' s' ∧ tn i s'.heap ∧ (∀ b ∈ fp, H' b = none) ∧ W i m H' := fun {s' H'} I' nx => by
        obtain ⟨m', hm, w'⟩ := hNx H' nx
        have pin' : ∀ b ∈ fp, ∀ o, s7.heap.get? b = some o → s'.heap.get? b = some o ∧ H' b = none := fun b hb o e =>
          let z := I'.pin (b, o) (List.mem_append_right _ (List.mem_append_right _ (mem_pinsAt hb e)))
          ⟨z.1, z.2.1⟩
        have hl : (wipe σ (own.map (·.2))).length = σ8.length := by rw [← hw8, wipe_length]
        refine ⟨m', hm, i + 1, H', (I'.unpinned (pins := [])).weak hl (fun j v e => ?_), T.keep _ _ _ st7 fun b hb o e => (pin' b hb o e).1, fun b hb => ?_, w'⟩
        · rw [← hw8] at e
          exact (wipe_some e).1
        · obtain ⟨o, e, _⟩ := T.obj _ _ st7 b hb
          exact (pin' b hb o e).2
      cases b with
      | false =>
        simp only [Bool.false_eq_true, if_false] at q9 ⊢
        exact fin I9 q9
      | true =>
        simp only [if_true] at q9 ⊢
        refine thnE (pe.run _ s9 σ8 H9 _ I9 q9) fun z s10 ⟨yv, H10, I10, r10, acc, hD10, hz10, nx⟩ => ?_
        exact app_ok (X := blkX X s3 H3 scope ce fp xe) I10 hD10 hz10 r10 fun s11 I11 => fin I11 nx
  exact codeAny_compStart_list loop (T.self X.A 0 _ _ _ st4 loop)
/-- as a value -/
theorem pe_lcx {elt tg iter : Expr} {ifs : List Expr} {scope : Scope} {own : List (Str × Nat)} {pos : Pos} {wi : TI} {g : TG} {tt : WX → TT} {te : WX → TE} (hp : HP X XW) (hc : X.calm = true) (hN : X.N.Nodup) (hi : PI X tg iter wi) (ok : BlkOk X.N X.env.scope scope own)
    (hg : ∀ (s : Shared) (H : Hp) (C : Addr) (cl : List (Str × Addr)) (fp : List Addr) (xe : Value → Shared → Prop), PG (blkX X s H scope (CE0 X scope C cl) fp xe) tg g)
    (ht : ∀ (s : Shared) (H : Hp) (C : Addr) (cl : List (Str × Addr)) (fp : List Addr) (xe : Value → Shared → Prop) (W : WX), HP (blkX X s H scope (CE0 X scope C cl) fp xe) W → PTs (blkX X s H scope (CE0 X scope C cl) fp xe) ifs (tt W))
    (he : ∀ (s : Shared) (H : Hp) (C : Addr) (cl : List (Str × Addr)) (fp : List Addr) (xe : Value → Shared → Prop) (W : WX), HP (blkX X s H scope (CE0 X scope C cl) fp xe) W → PE (blkX X s H scope (CE0 X scope C cl) fp xe) elt (te W))
    (hs : ∀ x, foldedSetIterable iter X.env x = pure x := by intro _; rfl) :
    PE X (.ListComp elt [⟨tg, iter, ifs, 0⟩] scope pos) (fun σ H Q => tLc wi g (tt (XWs XW σ)) (te (XWs XW σ)) (own.map (·.2)) σ H Q) := by
  refine ⟨fun pins s σ H Q I h => ?_⟩
  rw [eval_ListComp]
  refine lcx_core hp hc hN I hi ok hg ht he hs h fun D C s' m H' I' q hn f ce ec => ?_
  subst ec
  refine ⟨m, hn, fun h'' sb => ?_⟩
  obtain ⟨f0, f1, f2, f3, f4, f5⟩ := f
  exact ⟨.ref D, H', I'.turned (t' := s'.toks) (fun b o hb e => (sb.2 b hb).trans e) f0 f1 f3 f4 f5, rfl, q⟩
/-- name = [..] on one line, the name a local -/
theorem ps_setLcx {i : Nat} {y : Str} {py : Pos} {elt tg iter : Expr} {ifs : List Expr} {scope : Scope} {own : List (Str × Nat)} {pos spos : Pos} {wi : TI} {g : TG} {tt : WX → TT} {te : WX → TE} (hp : HP X XW) (hc : X.calm = true) (hN : X.N.Nodup) (hy : X.N[i]? = some y) (hyl : X.env.scope.names.lookup y = some .local)
    (hsw : swapsWith (.ListComp elt [⟨tg, iter, ifs, 0⟩] scope pos) (some (.Name y py)) spos.line X.env = pure true) (hi : PI X tg iter wi) (ok : BlkOk X.N X.env.scope scope own)
    (hg : ∀ (s : Shared) (H : Hp) (C : Addr) (cl : List (Str × Addr)) (fp : List Addr) (xe : Value → Shared → Prop), PG (blkX X s H scope (CE0 X scope C cl) fp xe) tg g)
    (ht : ∀ (s : Shared) (H : Hp) (C : Addr) (cl : List (Str × Addr)) (fp : List Addr) (xe : Value → Shared → Prop) (W : WX), HP (blkX X s H scope (CE0 X scope C cl) fp xe) W → PTs (blkX X s H scope (CE0 X scope C cl) fp xe) ifs (tt W))
    (he : ∀ (s : Shared) (H : Hp) (C : Addr) (cl : List (Str × Addr)) (fp : List Addr) (xe : Value → Shared → Prop) (W : WX), HP (blkX X s H scope (CE0 X scope C cl) fp xe) W → PE (blkX X s H scope (CE0 X scope C cl) fp xe) elt (te W))
    (hs : ∀ x, foldedSetIterable iter X.env x = pure x := by intro _; rfl) :
    PS X (.Assign [.Name y py] (.ListComp elt [⟨tg, iter, ifs, 0⟩] scope pos) spos) (tAsg (fun σ H Q => tLc wi g (tt (XWs XW σ)) (te (XWs XW σ)) (own.map (·.2)) σ H Q) (gName i)) := by
  refine ⟨fun pins s σ H D I h => ?_⟩
  rw [exec_Assign_Name_used _ _ _ _ hsw]
  refine wpAny_bind (wpAny_standAt (wpAny_bind ?_))
  show wpAny _ X.A (do let _ ← comprehension (.ListComp elt [⟨tg, iter, ifs, 0⟩] scope pos) scope X.env (firstIterPos [⟨tg, iter, ifs, 0⟩] pos) (newList []) false (eval iter X.env) (some (assign (.Name y py) X.env))) _ _ s
  have h : tLc wi g (tt (XWs XW σ)) (te (XWs XW σ)) (own.map (·.2)) σ H (fun x H1 => gName i x σ H1 D.nx) := h
  refine wpAny_bind (thn (lcx_core (Qf := fun _ s' => SP X pins D .next s') hp hc hN I hi ok hg ht he hs h fun L C s' m H' I' q hn f ce ec => ?_) fun _ s' hq => wpAny_pure (wpAny_pure hq))
  subst ec
  show wpAny _ _ (assign (.Name y py) X.env (.ref L)) _ _ _
  refine wpAny_assign_Name (store_ok2 (v := V.ref L) I' hN hy (.inl hyl) rfl (fun s2 I2 ⟨a, sb, ha⟩ => ?_) (.inr hyl))
  obtain ⟨f0, f1, f2, f3, f4, f5⟩ := f
  have haC : ce.locals ≠ a := by
    rcases ha with z | z
    · rw [z]; exact f1
    · exact fun e => f4 y a z e.symm
  refine ⟨m, hn.sameBut sb haC, fun h3 sb3 => ?_⟩
  exact ⟨_, H', I2.turned (t' := s2.toks) (fun b o hb e => (sb3.2 b hb).trans e) f0 f1 f3 f4 f5, q⟩
end
end Z

set_option maxRecDepth 100000
set_option maxHeartbeats 2000000
/-! Z.loop: targets, for, list comprehensions -/
namespace Z
open PySem L2 PySem.Spec PyProof.Rows

section
variable {c : Cf} {XW : WX} {W H W1 H1 W2 H2 W' H' : Hp} {σ σ' : L2.St} {e e1 e2 : Env} {F G F1 F2 : List Addr} {α β γ δ : Type} {b b1 b2 b3 : Bool} {rel : L2.St → Hp → Hp → β → α → List Addr → Prop}
theorem Tr.mk {ma : Env → Res α} {K : β → Hp → Prop} (le : Le W H) (s : Slots c W H σ e F)
    (hok : ∀ a e1 W1 H1 v F1 Fo, ma e = .ok a e1 → Gr W H F W1 H1 (F1 ++ Fo) → (b = true → Same H H1) → Slots c W1 H1 σ e1 F1 → rel σ W1 H1 v a Fo → Disj F1 Fo → K v H1)
    (herr : ∀ x e1 W1 H1 F1 cls d, ma e = .err x e1 → Gr W H F W1 H1 F1 → Slots c W1 H1 σ e1 F1 → ExRep c W1 x cls d H1 → XW cls d σ H1) (hst : ma e = .stuck → False) : Tr c XW b rel ma σ H K := by
  refine ⟨W, e, F, le, s, ?_⟩
  cases q : ma e with
  | stuck => exact hst q
  | err x e1 => exact fun W' H' F' cls d g k r => herr x e1 W' H' F' cls d q g k r
  | ok a e1 => exact fun W' H' v F' Fo g sm k r d => hok a e1 W' H' v F' Fo q g sm k r d
theorem Gr.write {D : Addr} {o : HO} (le : Le W H) (hD : D ∈ F) (hW : W D = none) : Gr W H F W (upd H D o) F where
  w := Same.refl _
  le := le_upd le hW
  new := fun _ _ h => .inl h
  kept := fun a u h n => by
    have z : a ≠ D := fun z => n (by rw [z]; exact hD)
    rw [upd_ne z]; exact h
  there := fun a h => by
    by_cases z : a = D
    · rw [z, upd_same]; simp
    · rw [upd_ne z]; exact h
  own := fun a h => .inl h
theorem RepL.append : ∀ {vs vs' : List V} {os os' : List O} {F G : List Addr}, RepL c W H vs os F → RepL c W H vs' os' G → Disj F G → RepL c W H (vs ++ vs') (os ++ os') (F ++ G)
  | _, _, _, _, _, _, .nil, h, _ => h
  | _, _, _, _, _, G, .cons (F := F1) (G := G1) r k d, h, dj => by
    rw [List.append_assoc]
    exact .cons r (k.append h dj.right) (Disj.app' d dj.left)
theorem RepL.one {v : V} {o : O} (r : Rep c W H v o F) : RepL c W H [v] [o] F := by
  have := RepL.cons r .nil Disj.nil_right
  rwa [List.append_nil] at this

/-! ### targets -/
inductive Tgt where
  | nm (i : Nat) | tp (ts : List Tgt)
mutual
def Tgt.ix : Tgt → List Nat
  | .nm i => [i]
  | .tp ts => Tgt.ixs ts
def Tgt.ixs : List Tgt → List Nat
  | [] => []
  | t :: ts => t.ix ++ Tgt.ixs ts
end
mutual
def Tgt.st : Tgt → D → Env → Option Env
  | .nm i, d, e => some (e.set i (some (.val d)))
  | .tp ts, .tup ds, e => Tgt.sts ts ds e
  | .tp ts, .ctp ds, e => Tgt.sts ts ds e
  | _, _, _ => none
def Tgt.sts : List Tgt → List D → Env → Option Env
  | [], [], e => some e
  | t :: ts, d :: ds, e => (t.st d e).bind fun e1 => Tgt.sts ts ds e1
  | _, _, _ => none
end
mutual
def Tgt.g (K : PySem.W.Frag) : Tgt → TG
  | .nm i => gName i
  | .tp ts => gTup K ts.length (Tgt.gs K ts)
def Tgt.gs (K : PySem.W.Frag) : List Tgt → TGs
  | [] => gNil
  | t :: ts => gCons (t.g K) (Tgt.gs K ts)
end
/-- σ' is σ but at these slots -/
def But (vs : List Nat) (σ σ' : L2.St) : Prop := σ'.length = σ.length ∧ ∀ j, j ∉ vs → σ'[j]? = σ[j]?
theorem But.refl {vs : List Nat} : But vs σ σ := ⟨rfl, fun _ _ => rfl⟩
theorem But.set {vs : List Nat} {i : Nat} {s : Option V} (h : i ∈ vs) : But vs σ (σ.set i s) := ⟨by simp, fun j hj => List.getElem?_set_ne fun (z : i = j) => hj (by rw [← z]; exact h)⟩
theorem But.trans {vs : List Nat} {σ'' : L2.St} (a : But vs σ σ') (b : But vs σ' σ'') : But vs σ σ'' := ⟨b.1.trans a.1, fun j hj => (b.2 j hj).trans (a.2 j hj)⟩
theorem But.more {vs us : List Nat} (a : But vs σ σ') (s : ∀ i ∈ vs, i ∈ us) : But us σ σ' := ⟨a.1, fun j hj => a.2 j fun z => hj (s j z)⟩
mutual
theorem Tgt.run : ∀ (t : Tgt) {x : V} {d : D} {σ : L2.St} {e e' : Env} {F : List Addr} {Q : L2.St → Hp → Prop}, Le W H → Slots c W H σ e F → Dat c W x d → t.st d e = some e' →
    (∀ σ' F', Slots c W H σ' e' F' → (∀ a ∈ F', a ∈ F) → But t.ix σ σ' → Q σ' H) → t.g c.K x σ H Q
  | .nm i, x, d, σ, e, e', F, Q, le, s, hd, h, q => by
    have h : some (e.set i (some (.val d))) = some e' := by simpa [Tgt.st] using h
    cases h
    obtain ⟨F', s', sub⟩ := s.set' i (.val hd) Disj.nil_left
    have k := q (σ.set i (some x)) F' s' (fun a ha => (sub a ha).elim id fun z => absurd z List.not_mem_nil) (But.set (by simp [Tgt.ix]))
    simpa [Tgt.g, gName] using k
  | .tp ts, x, d, σ, e, e', F, Q, le, s, hd, h, q => by
    cases hd with
    | @tup _ _ ds hw k =>
      have h : Tgt.sts ts ds e = some e' := by simpa [Tgt.st] using h
      have hl := Tgt.sts_len h
      have r := Tgt.runs ts le s k h (Q := Q) (by simpa [Tgt.ix] using q)
      have : gTup c.K ts.length (Tgt.gs c.K ts) _ σ H Q := ⟨_, _, rfl, SqT.of (le.tup hw), by rw [k.length, hl], r⟩
      simpa [Tgt.g] using this
    | @ctp _ _ ds hw k =>
      have h : Tgt.sts ts ds e = some e' := by simpa [Tgt.st] using h
      have hl := Tgt.sts_len h
      have r := Tgt.runs ts le s k h (Q := Q) (by simpa [Tgt.ix] using q)
      have : gTup c.K ts.length (Tgt.gs c.K ts) _ σ H Q := ⟨_, _, rfl, le.sqT hw, by rw [k.length, hl], r⟩
      simpa [Tgt.g] using this
    | _ => simp [Tgt.st] at h
theorem Tgt.sts_len : ∀ {ts : List Tgt} {ds : List D} {e e' : Env}, Tgt.sts ts ds e = some e' → ds.length = ts.length
  | [], [], _, _, _ => rfl
  | [], _ :: _, _, _, h => by simp [Tgt.sts] at h
  | _ :: _, [], _, _, h => by simp [Tgt.sts] at h
  | t :: ts, d :: ds, e, e', h => by
    have h : (t.st d e).bind (fun e1 => Tgt.sts ts ds e1) = some e' := by simpa [Tgt.sts] using h
    cases q : t.st d e with
    | none => rw [q] at h; cases h
    | some e1 =>
      rw [q] at h
      have := Tgt.sts_len (ts := ts) (show Tgt.sts ts ds e1 = some e' from h)
      simp [this]
theorem Tgt.runs : ∀ (ts : List Tgt) {xs : List V} {ds : List D} {σ : L2.St} {e e' : Env} {F : List Addr} {Q : L2.St → Hp → Prop}, Le W H → Slots c W H σ e F → DatL c W xs ds → Tgt.sts ts ds e = some e' →
    (∀ σ' F', Slots c W H σ' e' F' → (∀ a ∈ F', a ∈ F) → But (Tgt.ixs ts) σ σ' → Q σ' H) → Tgt.gs c.K ts xs σ H Q
  | [], xs, ds, σ, e, e', F, Q, le, s, hd, h, q => by
    cases hd with
    | nil =>
      have h : some e = some e' := by simpa [Tgt.sts] using h
      cases h
      have : gNil [] σ H Q := ⟨rfl, q σ F s (fun _ z => z) But.refl⟩
      simpa [Tgt.gs] using this
    | cons => simp [Tgt.sts] at h
  | t :: ts, xs, ds, σ, e, e', F, Q, le, s, hd, h, q => by
    cases hd with
    | nil => simp [Tgt.sts] at h
    | @cons v vs d ds hv k =>
      have h : (t.st d e).bind (fun e1 => Tgt.sts ts ds e1) = some e' := by simpa [Tgt.sts] using h
      cases q1 : t.st d e with
      | none => rw [q1] at h; cases h
      | some e1 =>
        rw [q1] at h
        have h : Tgt.sts ts ds e1 = some e' := h
        have : gCons (t.g c.K) (Tgt.gs c.K ts) (v :: vs) σ H Q := ⟨v, vs, rfl, Tgt.run t le s hv q1 fun σ1 F1 s1 sub1 b1 => Tgt.runs ts le s1 k h fun σ2 F2 s2 sub2 b2 =>
          q σ2 F2 s2 (fun a z => sub1 a (sub2 a z)) ((b1.more fun i z => by simp [Tgt.ixs]; exact .inl z).trans (b2.more fun i z => by simp [Tgt.ixs]; exact .inr z))⟩
        simpa [Tgt.gs] using this
end
variable {X : Cx}
theorem tg_nm {i : Nat} {x : Str} {pos : Pos} (hK : X.K = c.K) (hN : X.N.Nodup) (hi : X.N[i]? = some x) (hx : Loc X.env.scope x) (hf : X.fn x = true ∨ X.env.scope.names.lookup x = some .local := by first | exact .inl rfl | exact .inr rfl | assumption) : PG X (.Name x pos) (Tgt.g c.K (.nm i)) := by
  have := pg_name (pos := pos) hN hi hx hf
  simpa [Tgt.g] using this
theorem tg_tp {es : List Expr} {k : Nat} {pos : Pos} {ts : List Tgt} (hK : X.K = c.K) (hc : X.calm = true) (h : PGs X es (Tgt.gs c.K ts)) (hn : (assignEach es X.env).length = ts.length := by rfl) (hst : (assignEach es X.env).findIdx? (·.1) = none := by rfl) : PG X (.Tuple es k pos) (Tgt.g c.K (.tp ts)) := by
  have := pg_tup (k := k) (pos := pos) hc h hn hst
  rw [hK] at this
  simpa [Tgt.g] using this
theorem tgs_nil : PGs X [] (Tgt.gs c.K []) := by simpa [Tgt.gs] using pgs_nil
theorem tgs_cons {e : Expr} {es : List Expr} {t : Tgt} {ts : List Tgt} (h1 : PG X e (t.g c.K)) (h2 : PGs X es (Tgt.gs c.K ts)) (hs : (assignEach (e :: es) X.env).map (·.2) = assign e X.env :: (assignEach es X.env).map (·.2) := by rfl) : PGs X (e :: es) (Tgt.gs c.K (t :: ts)) := by
  simpa [Tgt.gs] using pgs_cons h1 h2 hs
end

/-! ### what is walked -/
theorem pi_imp {X : Cx} {tg e : Expr} {t t' : TI} (h : PI X tg e t) (k : ∀ σ H R, t' σ H R → t σ H R) : PI X tg e t' := ⟨fun pins s σ H R I hw => h.run pins s σ H R I (k σ H R hw)⟩
def srcP (ma : Env → Res RV) : Env → Res (List D) := fun e => (ma e).bind fun a e1 => Res.of e1 ((a.sh e1).bind D.items)
section
variable {X : Cx} {c : Cf} {XW : WX} {W H W1 H1 W2 H2 : Hp} {σ : L2.St} {e e1 e2 : Env} {F G F1 F2 : List Addr} {b b1 b2 b3 p : Bool} {ma mb : Env → Res RV} {mas : Env → Res (List RV)} {tg x l : Expr} {pos pp : Pos}
theorem iter_L {K : PySem.W.Frag} {a : Addr} {vs : List V} {ds : List D} (hK : K = c.K) (hl : ds.length ≤ sizeLine) (k : DatL c W vs ds) (h : ∀ W' H', Same W W' → Le W' H' → (p = true → Same H H') → SqL K H' a vs) : IterOk c p W H (Itl K a) ds := by
  refine ⟨hl, fun i W1 H1 sw le sm _ => ⟨fun hi => ⟨?_, fun x H' y => ?_⟩, fun hi => ⟨vs, h W1 H1 sw le sm, by rw [k.length]; exact hi⟩⟩⟩
  · obtain ⟨v, hv, _⟩ := k.get (i := i) (List.getElem?_eq_getElem hi)
    exact ⟨vs, v, h W1 H1 sw le sm, hv⟩
  · obtain ⟨eH, hx⟩ := y
    subst eH
    obtain ⟨v, hv, hd⟩ := k.get (i := i) (List.getElem?_eq_getElem hi)
    have := hx vs (h W1 _ sw le sm)
    rw [hv] at this; cases this
    exact ⟨W1, Gr.refl le, _, List.getElem?_eq_getElem hi, hd.mono (.of_same sw)⟩
theorem iter_T {K : PySem.W.Frag} {a : Addr} {vs : List V} {ds : List D} (hK : K = c.K) (hl : ds.length ≤ sizeLine) (k : DatL c W vs ds) (h : ∀ W' H', Same W W' → Le W' H' → (p = true → Same H H') → SqT K H' a vs) : IterOk c p W H (Itt K a) ds := by
  refine ⟨hl, fun i W1 H1 sw le sm _ => ⟨fun hi => ⟨?_, fun x H' y => ?_⟩, fun hi => ⟨vs, h W1 H1 sw le sm, by rw [k.length]; exact hi⟩⟩⟩
  · obtain ⟨v, hv, _⟩ := k.get (i := i) (List.getElem?_eq_getElem hi)
    exact ⟨vs, v, h W1 H1 sw le sm, hv⟩
  · obtain ⟨eH, hx⟩ := y
    subst eH
    obtain ⟨v, hv, hd⟩ := k.get (i := i) (List.getElem?_eq_getElem hi)
    have := hx vs (h W1 _ sw le sm)
    rw [hv] at this; cases this
    exact ⟨W1, Gr.refl le, _, List.getElem?_eq_getElem hi, hd.mono (.of_same sw)⟩
theorem iter_S {z : Str} (hz : sOk z = true) : IterOk c p W H (Its z) (z.cps.toList.map fun ch => .str ⟨#[ch]⟩) := by
  have hz0 := hz
  unfold sOk at hz
  rw [Bool.and_eq_true, decide_eq_true_eq] at hz
  refine ⟨by rw [List.length_map, Array.length_toList]; exact hz.1, fun i W1 H1 sw le _ _ => ⟨fun hi => ⟨show i < z.cps.size by simpa using hi, fun x H' y => ?_⟩, fun hi => show z.cps.size ≤ i by simpa using hi⟩⟩
  obtain ⟨eH, ch, hc, rfl⟩ := y
  subst eH
  have hc' : z.cps.toList[i]? = some ch := by simpa using hc
  refine ⟨W1, Gr.refl le, .str ⟨#[ch]⟩, by rw [List.getElem?_map, hc']; rfl, .str _ (sOk_sign hz0 (List.mem_of_getElem? hc'))⟩
/-- a value's items -/
theorem iter_D {K : PySem.W.Frag} {v : V} {d : D} {ds : List D} {R : It → Hp → Prop} (hK : K = c.K) (le : Le W H) (hd : Dat c W v d) (hi : d.items = some ds) (q : ∀ J, IterOk c p W H J ds → R J H) : kSeq K v H R := by
  cases hd with
  | lst hw k =>
    cases hi
    subst hK
    exact .inl ⟨_, _, rfl, le.sqL hw, fun hl => q _ (iter_L rfl (by rw [← k.length]; exact hl) k fun W' H' sw le' _ => le'.sqL ((Le.of_same sw).sqL hw))⟩
  | tup hw k =>
    cases hi
    subst hK
    exact .inr (.inl ⟨_, _, rfl, SqT.of (le.tup hw), fun hl => q _ (iter_T rfl (by rw [← k.length]; exact hl) k fun W' H' sw le' _ => SqT.of (le'.tup ((Le.of_same sw).tup hw)))⟩)
  | ctp hw k =>
    cases hi
    subst hK
    exact .inr (.inl ⟨_, _, rfl, le.sqT hw, fun hl => q _ (iter_T rfl (by rw [← k.length]; exact hl) k fun W' H' sw le' _ => le'.sqT ((Le.of_same sw).sqT hw))⟩)
  | str s hs =>
    cases hi
    exact .inr (.inr ⟨s, rfl, q _ (iter_S hs)⟩)
  | _ => cases hi
/-- a value is taken, frozen -/
theorem take_fz {v : V} {a : RV} {Fo : List Addr} {o : O} (le : Le W H) (r : RVr c W H σ v a Fo) (s : Slots c W H σ e F) (d : Disj F Fo) (h : a.take e = some (o, e1)) :
    ∃ W' F', Gr W H (F ++ Fo) W' H F' ∧ Slots c W' H σ e1 F' ∧ Dat c W' v o.fz := by
  obtain ⟨W1, F1, Fo1, g, s1, r1, d1⟩ := r.take le s d h
  obtain ⟨W2, g2, dt⟩ := r1.freeze g.le
  have gg : Gr W1 H (F1 ++ Fo1) W2 H F1 := ((g2.frame F1).more fun y hy => (List.mem_append.mp hy).elim (List.mem_append_right _) (List.mem_append_left _)).less fun y hy => hy
  exact ⟨W2, F1, g.trans gg, s1.frame g2 d1, dt⟩
theorem i_seq (hK : X.K = c.K) (hl : PE X l (T c XW b ma)) : PI X tg l (TI' c XW b false (srcD ma)) := pi_imp (pi_seq hl) fun σ H R ⟨W, e, F, le, s, post⟩ => by
  refine Tr.then0 (b2 := true) le s post (fun z => ⟨z, rfl⟩) fun a e1 W1 H1 v F1 Fo _ g sm s1 r d p1 => ?_
  cases q : a.take e1 with
  | none => rw [q] at p1; exact p1.elim
  | some t =>
    obtain ⟨o, e2⟩ := t
    rw [q] at p1
    obtain ⟨ds, hi, p1⟩ := Res.of_ok p1
    obtain ⟨W2, F2, g2, s2, dt⟩ := take_fz g.le r s1 d q
    exact iter_D (p := false) hK g2.le dt hi fun J ok => p1 W2 H1 J F2 [] (by rw [List.append_nil]; exact g2) (fun _ => Same.refl _) s2 ⟨rfl, ok⟩ Disj.nil_right
theorem i_seqP (hK : X.K = c.K) (hl : PE X l (T c XW b ma)) : PI X tg l (TI' c XW b true (srcP ma)) := pi_imp (pi_seq hl) fun σ H R ⟨W, e, F, le, s, post⟩ => by
  refine Tr.then0 (b2 := true) le s post (fun z => ⟨z, rfl⟩) fun a e1 W1 H1 v F1 Fo _ g sm s1 r d p1 => ?_
  obtain ⟨ds, hi, p1⟩ := Res.of_ok p1
  cases q : a.sh e1 with
  | none => rw [q] at hi; cases hi
  | some dd =>
    rw [q] at hi
    have hi : dd.items = some ds := hi
    have fin : ∀ J, IterOk c true W1 H1 J ds → R J H1 := fun J ok => p1 W1 H1 J F1 [] (by rw [List.append_nil]; exact (Gr.refl g.le).less fun y hy => List.mem_append_left _ hy) (fun _ => Same.refl _) s1 ⟨rfl, ok⟩ Disj.nil_right
    cases r.sh s1 q with
    | val hd => exact iter_D (p := true) hK g.le hd hi fin
    | lst hh k =>
      cases hi
      exact .inl ⟨_, _, rfl, SqL.of hh, fun hl => fin _ (iter_L hK (by rw [← k.length]; exact hl) k fun W' H' sw le' sm' => SqL.of (sm' rfl _ _ hh))⟩
theorem iter_R {i j : Int} (hr : rangeOk i j = true) : IterOk c p W H (Itr i (j - i).toNat) (rangeL i j) := by
  rw [rangeOk_eq, decide_eq_true_eq] at hr
  have hlen : (rangeL i j).length = (j - i).toNat := by unfold rangeL; rw [List.length_map, List.length_range]
  refine ⟨by rw [hlen, sizeLine_eq]; omega, fun k W1 H1 sw le _ _ => ⟨fun hi => ⟨by rw [hlen] at hi; exact hi, fun x H' y => ?_⟩, fun hi => by rw [hlen] at hi; exact hi⟩⟩
  obtain ⟨eH, rfl⟩ := y
  subst eH
  rw [hlen] at hi
  exact ⟨W1, Gr.refl le, .int (i + (k : Nat)), by unfold rangeL; rw [List.getElem?_map, List.getElem?_range hi]; rfl, .int _⟩
theorem DatL.nilD {vs : List V} (h : DatL c W vs []) : vs = [] := by cases h; rfl
theorem DatL.consD {vs : List V} {d : D} {ds : List D} (h : DatL c W vs (d :: ds)) : ∃ v r, vs = v :: r ∧ Dat c W v d ∧ DatL c W r ds := by cases h with | cons a k => exact ⟨_, _, rfl, a, k⟩
theorem Dat.intD {v : V} {i : Int} (h : Dat c W v (.int i)) : v = .int i := by cases h; rfl
theorem i_range1 (ha : PA X [x] (TAr c XW b mas)) (hg : Gl X "range" := by rfl) (hm : X.mg "range" = none := by rfl) (hs : starEach [x] X.env = [(false, eval x X.env)] := by rfl) : PI X tg (.Call (.Name "range" pp) [x] [] pos) (TI' c XW b p (rangeD range1 mas)) := pi_imp (pi_range1 hg hm ha hs) fun σ H R ⟨W, e, F, le, s, post⟩ => by
  refine Tr.then0 (b2 := true) le s post (fun z => ⟨z, rfl⟩) fun as e1 W1 H1 vs F1 Fo _ g sm s1 r d p1 => ?_
  obtain ⟨ds, hi, p1⟩ := Res.of_ok p1
  cases q : fzs e1 as with
  | none => rw [q] at hi; cases hi
  | some es =>
    rw [q] at hi
    replace hi : range1 es = some ds := hi
    have hd := r.fzs g.le s1 q
    unfold range1 at hi
    split at hi
    · rename_i j
      by_cases hr : rangeOk 0 j = true
      · rw [if_pos hr] at hi
        cases hi
        obtain ⟨v, r1, rfl, h1, h2⟩ := hd.consD
        rw [h2.nilD, h1.intD]
        have hr' := hr
        rw [rangeOk_eq, decide_eq_true_eq] at hr'
        refine ⟨j, rfl, Int.le_of_lt hr'.2.2.1, hr'.2.2.2.1, ?_⟩
        have := p1 W1 H1 (Itr 0 (j - 0).toNat) F1 [] (by rw [List.append_nil]; exact (Gr.refl g.le).less fun y hy => List.mem_append_left _ hy) (fun _ => Same.refl _) s1 ⟨rfl, iter_R hr⟩ Disj.nil_right
        rwa [Int.sub_zero] at this
      · rw [if_neg hr] at hi; cases hi
    · cases hi
theorem i_range2 {y : Expr} (ha : PA X [x, y] (TAr c XW b mas)) (hg : Gl X "range" := by rfl) (hm : X.mg "range" = none := by rfl) (hs : starEach [x, y] X.env = [(false, eval x X.env), (false, eval y X.env)] := by rfl) (hs2 : starEach [y] X.env = [(false, eval y X.env)] := by rfl) :
    PI X tg (.Call (.Name "range" pp) [x, y] [] pos) (TI' c XW b p (rangeD range2 mas)) := pi_imp (pi_range2 hg hm ha hs hs2) fun σ H R ⟨W, e, F, le, s, post⟩ => by
  refine Tr.then0 (b2 := true) le s post (fun z => ⟨z, rfl⟩) fun as e1 W1 H1 vs F1 Fo _ g sm s1 r d p1 => ?_
  obtain ⟨ds, hi, p1⟩ := Res.of_ok p1
  cases q : fzs e1 as with
  | none => rw [q] at hi; cases hi
  | some es =>
    rw [q] at hi
    replace hi : range2 es = some ds := hi
    have hd := r.fzs g.le s1 q
    unfold range2 at hi
    split at hi
    · rename_i i j
      by_cases hr : rangeOk i j = true
      · rw [if_pos hr] at hi
        cases hi
        obtain ⟨v, r1, rfl, h1, h2⟩ := hd.consD
        obtain ⟨v2, r2, rfl, h3, h4⟩ := h2.consD
        rw [h4.nilD, h1.intD, h3.intD]
        have hr' := hr
        rw [rangeOk_eq, decide_eq_true_eq] at hr'
        exact ⟨i, j, rfl, ⟨Int.le_of_lt hr'.1, hr'.2.1, Int.le_of_lt hr'.2.2.1, hr'.2.2.2.1⟩, p1 W1 H1 (Itr i (j - i).toNat) F1 [] (by rw [List.append_nil]; exact (Gr.refl g.le).less fun y hy => List.mem_append_left _ hy) (fun _ => Same.refl _) s1 ⟨rfl, iter_R hr⟩ Disj.nil_right⟩
      · rw [if_neg hr] at hi; cases hi
    · cases hi
end

/-! ### for -/
def loopD (st : D → Env → Option Env) (mb : Env → SRes) : List D → Env → SRes
  | [], e => .nx e
  | d :: ds, e => match st d e with
    | none => .stuck
    | some e1 => match mb e1 with
      | .nx e2 => loopD st mb ds e2
      | .ct e2 => loopD st mb ds e2
      | .bk e2 => .nx e2
      | .rt o e2 => .rt o e2
      | .err x e2 => .err x e2
      | .stuck => .stuck
def forS (ms : Env → Res (List D)) (t : Tgt) (mb : Env → SRes) : Env → SRes := fun e => (ms e).s fun ds e1 => loopD t.st mb ds e1
section
variable {X : Cx} {c : Cf} {XW : WX} {pin : List Nat} {σ0 σ σ' : L2.St} {W H W1 H1 W2 H2 : Hp} {e e1 e2 : Env} {F G F1 F2 : List Addr} {b b1 b2 b3 p : Bool}
theorem PinOk.but {vs : List Nat} (h : PinOk pin σ0 σ) (k : But vs σ σ') (hv : vs.all (fun i => !pin.contains i) = true) : PinOk pin σ0 σ' := fun i hi => by
  rw [k.2 i fun z => ?_]
  · exact h i hi
  · have := List.all_eq_true.mp hv i z
    simp at this
    exact this hi
variable {st : Stmt} {rest body : List Stmt} {x iter tg : Expr} {mb : Env → SRes} {ms : Env → Res (List D)} {pos : Pos} {t : Tgt}
/-- the turns of a for, from what is walked on -/
theorem for_core {J : It} {ds : List D} {D : Ends} (hv : t.ix.all (fun i => !pin.contains i) = true) (le1 : Le W1 H1) (s1 : Slots c W1 H1 σ e1 F1) (pn : PinOk pin σ0 σ) (ok : IterOk c false W1 H1 J ds) (p1 : SPst c XW pin σ0 W1 H1 F1 (loopD t.st mb ds e1) D) :
    ∃ W : Nat → Nat → L2.St → Hp → Prop, (∃ m, W 0 m σ H1) ∧ ∀ i m σ H, W i m σ H → (J.stop i H ∧ D.nx σ H) ∨ (J.go i H ∧ ∃ N : L2.St → Hp → Prop, (∀ σ' H', N σ' H' → ∃ m', m' < m ∧ W (i + 1) m' σ' H') ∧ ∀ x H', J.yld i H x H' → t.g c.K x σ H' fun σ2 H2 => S c XW pin σ0 mb { D with nx := N, ct := N, bk := D.nx } σ2 H2) := by
  refine ⟨fun i m σ H => m = ds.length - i ∧ i ≤ ds.length ∧ ∃ (W : Hp) (e : Env) (F : List Addr), Gr W1 H1 F1 W H F ∧ Slots c W H σ e F ∧ PinOk pin σ0 σ ∧ SPst c XW pin σ0 W1 H1 F1 (loopD t.st mb (ds.drop i) e) D,
    ⟨ds.length, by simp, Nat.zero_le _, W1, e1, F1, Gr.refl le1, s1, pn, p1⟩, ?_⟩
  rintro i m σ2 H2 ⟨rfl, hi, W2, e2, F2, g2, s2, pn2, p2⟩
  have kp : ∀ a o, W1 a ≠ none → H1 a = some o → H2 a = some o := fun a o hw ho => g2.kept a o ho fun z => hw (s1.dom a z).2
  obtain ⟨k1, k2⟩ := ok.2 i W2 H2 g2.w g2.le (fun z => by cases z) kp
  by_cases hlt : i < ds.length
  · obtain ⟨go, yld⟩ := k1 hlt
    refine .inr ⟨go, fun σ' H' => ds.length - (i + 1) = ds.length - (i + 1) ∧ i + 1 ≤ ds.length ∧ ∃ (W : Hp) (e : Env) (F : List Addr), Gr W1 H1 F1 W H' F ∧ Slots c W H' σ' e F ∧ PinOk pin σ0 σ' ∧ SPst c XW pin σ0 W1 H1 F1 (loopD t.st mb (ds.drop (i + 1)) e) D,
      fun σ' H' z => ⟨ds.length - (i + 1), by omega, z⟩, fun x H3 y => ?_⟩
    obtain ⟨W3, g3, d3, hd3, dt⟩ := yld x H3 y
    have ed : ds.drop i = d3 :: ds.drop (i + 1) := by
      rw [List.drop_eq_getElem_cons hlt]
      have := List.getElem?_eq_getElem hlt
      rw [hd3] at this; cases this; rfl
    rw [ed] at p2
    unfold loopD at p2
    have s3 := s2.frame g3 Disj.nil_right
    have g13 : Gr W1 H1 F1 W3 H3 F2 := g2.trans ((g3.frame F2).more (G := F2) (fun y hy => by simpa using hy) |>.less fun y hy => by simpa using hy)
    cases q : t.st d3 e2 with
    | none => rw [q] at p2; exact p2.elim
    | some e3 =>
      rw [q] at p2
      refine t.run g3.le s3 dt q fun σ4 F4 s4 sub4 bt4 => ?_
      have g14 : Gr W1 H1 F1 W3 H3 F4 := g13.less sub4
      have pn4 := pn2.but bt4 hv
      dsimp only at p2
      refine ⟨W3, e3, F4, g3.le, s4, pn4, ?_⟩
      cases q2 : mb e3 with
      | nx e5 => rw [q2] at p2; exact fun W' H' σ' F' g' s' pn' => ⟨rfl, hlt, W', e5, F', g14.trans g', s', pn', p2⟩
      | ct e5 => rw [q2] at p2; exact fun W' H' σ' F' g' s' pn' => ⟨rfl, hlt, W', e5, F', g14.trans g', s', pn', p2⟩
      | bk e5 => rw [q2] at p2; exact fun W' H' σ' F' g' s' pn' => p2 W' H' σ' F' (g14.trans g') s' pn'
      | rt o e5 => rw [q2] at p2; exact fun W' H' σ' v F' Fo g' s' pn' r d => p2 W' H' σ' v F' Fo (g14.trans g') s' pn' r d
      | err x e5 => rw [q2] at p2; exact fun W' H' σ' F' cls d g' s' pn' r => p2 W' H' σ' F' cls d (g14.trans g') s' pn' r
      | stuck => rw [q2] at p2; exact p2.elim
  · have ei : i = ds.length := by omega
    subst ei
    rw [List.drop_length] at p2
    unfold loopD at p2
    exact .inl ⟨k2 (Nat.le_refl _), p2 W2 H2 σ2 F2 g2 s2 pn2⟩
theorem s_for (hp : PassesOwn (model X.prog X.w) X.A X.env X.xe) (hcm : X.calm = true) (hi : PI X tg iter (TI' c XW b false ms)) (hg : PG X tg (t.g c.K)) (hb : PSs X body (S c XW pin σ0 mb)) (hv : t.ix.all (fun i => !pin.contains i) = true := by rfl)
    (hs : ∀ x, foldedSetIterable iter X.env x = pure x := by intro _; rfl) : PS X (.For tg iter body [] pos) (S c XW pin σ0 (forS ms t mb)) := ps_imp (ps_for hp hcm hi hg hb hs) fun D σ H ⟨W, e, F, le, s, pn, post⟩ => by
  refine Tr.s (b1 := b) le s pn post fun ds e1 W1 H1 J F1 Fo _ g s1 r d p1 => ?_
  obtain ⟨rfl, ok⟩ := r
  rw [List.append_nil] at p1
  exact for_core hv g.le s1 pn ok p1
end

/-! ### list comprehensions -/
def clear (vs : List Nat) (e : Env) : Env := vs.foldr (fun i e => e.set i none) e
def restore (vs : List Nat) (e1 e : Env) : Env := vs.foldr (fun i e => match e1.at i with
  | some (.val d) => e.set i (some (.val d))
  | _ => e) (clear vs e)
def compL (st : D → Env → Option Env) (mt : Env → Res Bool) (me : Env → Res RV) (vs : List Nat) : List D → List O → Env → Res (List O)
  | [], acc, e => .ok acc e
  | d :: ds, acc, e => match st d e with
    | none => .stuck
    | some e1 => (mt e1).bind fun k e2 => if k = true then (me e2).bind fun a e3 => match a.take e3 with
        | some (o, e4) => compL st mt me vs ds (acc ++ [o]) (clear vs e4)
        | none => .stuck
      else compL st mt me vs ds acc (clear vs e2)
def finL (vs : List Nat) (e1 : Env) : Res (List O) → Res RV
  | .ok os e => .ok (.tmp (.lst os)) (restore vs e1 e)
  | .err x e => .err x (restore vs e1 e)
  | .stuck => .stuck
def lcD (vs : List Nat) (ms : Env → Res (List D)) (t : Tgt) (mt : Env → Res Bool) (me : Env → Res RV) : Env → Res RV := fun e => (ms e).bind fun ds e1 => finL vs e1 (compL t.st mt me vs ds [] (clear vs e1))
def yesD : Env → Res Bool := fun e => .ok true e
section
variable {X : Cx} {c : Cf} {XW : WX} {σ σ' : L2.St} {W H W1 H1 W2 H2 : Hp} {e e1 e2 : Env} {F G F1 F2 : List Addr} {b b1 b2 b3 p : Bool}
theorem wipe_get {vs : List Nat} {j : Nat} (h : j ∉ vs) : (wipe σ vs)[j]? = σ[j]? := by
  induction vs with
  | nil => rfl
  | cons v vs ih =>
    unfold wipe
    rw [List.getElem?_set_ne fun z => h (by simp [z])]
    exact ih fun z => h (by simp [z])
theorem wipe_in {vs : List Nat} {j : Nat} (h : j ∈ vs) : (wipe σ vs)[j]? = if j < σ.length then some none else none := by
  induction vs with
  | nil => cases h
  | cons v vs ih =>
    unfold wipe
    by_cases z : v = j
    · subst z
      by_cases hl : v < σ.length
      · rw [List.getElem?_set_self (by rw [wipe_length]; exact hl), if_pos hl]
      · rw [List.getElem?_eq_none (by rw [List.length_set, wipe_length]; omega), if_neg hl]
    · rw [List.getElem?_set_ne z]
      exact ih ((List.mem_cons.mp h).resolve_left fun y => z y.symm)
theorem wipe_but {vs : List Nat} (h : But vs (wipe σ vs) σ') : wipe σ' vs = wipe σ vs := List.ext_getElem? fun j => by
  have hl : σ'.length = σ.length := by rw [h.1, wipe_length]
  by_cases hj : j ∈ vs
  · rw [wipe_in hj, wipe_in hj, hl]
  · rw [wipe_get hj, h.2 j hj]
theorem Slots.clear : ∀ {vs : List Nat}, Slots c W H σ e F → ∃ F', Slots c W H (wipe σ vs) (clear vs e) F' ∧ ∀ a ∈ F', a ∈ F
  | [], s => ⟨F, s, fun _ h => h⟩
  | v :: vs, s => by
    obtain ⟨F1, s1, h1⟩ := s.clear (vs := vs)
    obtain ⟨F2, s2, h2⟩ := s1.drop1 v none
    exact ⟨F2, s2, fun a h => h1 a (h2 a h)⟩
theorem Slots.unwipe : ∀ {vs : List Nat} {e : Env} {F : List Addr}, Slots c W H (wipe σ vs) e F → ∃ F', Slots c W H σ (Z.clear vs e) F' ∧ ∀ a ∈ F', a ∈ F
  | [], _, F, s => ⟨F, s, fun _ h => h⟩
  | v :: vs, e, F, s => by
    obtain ⟨F1, s1, h1⟩ := s.drop1 v ((wipe σ vs)[v]?.getD none)
    have ew : ((wipe σ (v :: vs)).set v ((wipe σ vs)[v]?.getD none)) = wipe σ vs := by
      show ((wipe σ vs).set v none).set v _ = wipe σ vs
      rw [List.set_set]
      refine List.ext_getElem? fun j => ?_
      by_cases hj : v = j
      · subst hj
        by_cases hl : v < (wipe σ vs).length
        · rw [List.getElem?_set_self hl]
          cases q : (wipe σ vs)[v]? with
          | none => rw [List.getElem?_eq_none_iff] at q; omega
          | some z => rfl
        · rw [List.getElem?_eq_none (by rw [List.length_set]; omega), List.getElem?_eq_none (by omega)]
      · rw [List.getElem?_set_ne hj]
    rw [ew] at s1
    obtain ⟨F2, s2, h2⟩ := s1.unwipe
    have ec : Z.clear vs (e.set v none) = Z.clear (v :: vs) e := by
      show _ = (Z.clear vs e).set v none
      have : ∀ (us : List Nat) (e : Env), Z.clear us (e.set v none) = (Z.clear us e).set v none := fun us => by
        induction us with
        | nil => intro e; rfl
        | cons u us ih =>
          intro e
          show (Z.clear us (e.set v none)).set u none = ((Z.clear us e).set u none).set v none
          rw [ih]
          by_cases z : u = v
          · rw [z]
          · rw [List.set_comm _ _ z]
      exact this vs e
    rw [ec] at s2
    exact ⟨F2, s2, fun a h => h1 a (h2 a h)⟩
theorem Slots.restore {vs : List Nat} (s : Slots c W H (wipe σ vs) e F) (s1 : Slots c W1 H1 σ e1 F1) (le : Le W1 W) : ∃ F', Slots c W H σ (restore vs e1 e) F' ∧ ∀ a ∈ F', a ∈ F := by
  obtain ⟨F2, s2, h2⟩ := s.unwipe
  have all : ∀ (us : List Nat), ∃ F', Slots c W H σ (us.foldr (fun i e => match e1.at i with
      | some (.val d) => e.set i (some (.val d))
      | _ => e) (Z.clear vs e)) F' ∧ ∀ a ∈ F', a ∈ F2 := fun us => by
    induction us with
    | nil => exact ⟨F2, s2, fun _ h => h⟩
    | cons u us ih =>
      obtain ⟨F3, s3, h3⟩ := ih
      rw [List.foldr_cons]
      cases q : e1.at u with
      | none => exact ⟨F3, s3, h3⟩
      | some o =>
        cases o with
        | val d =>
          obtain ⟨v, G, hv, r, _⟩ := s1.get (Env.at_some q)
          cases r with
          | val hd =>
            obtain ⟨F4, s4, h4⟩ := s3.set' u (.val (hd.mono le)) Disj.nil_left
            have ev : σ.set u (some v) = σ := List.ext_getElem? fun j => by
              by_cases hj : u = j
              · subst hj
                rw [List.getElem?_set_self (List.getElem?_eq_some_iff.mp hv).1, hv]
              · rw [List.getElem?_set_ne hj]
            rw [ev] at s4
            exact ⟨F4, s4, fun a h => (h4 a h).elim (h3 a) fun z => absurd z List.not_mem_nil⟩
        | _ => exact ⟨F3, s3, h3⟩
  obtain ⟨F3, s3, h3⟩ := all vs
  exact ⟨F3, s3, fun a h => h2 a (h3 a h)⟩
end
end Z

set_option maxRecDepth 100000
set_option maxHeartbeats 2000000
/-! Z.comp: list comprehensions out of denotations -/
namespace Z
open PySem L2 PySem.Spec PyProof.Rows

section
variable {X : Cx} {c : Cf} {XW : WX} {σ σ' : L2.St} {W H W1 H1 W2 H2 : Hp} {e e1 e2 : Env} {F G F1 F2 : List Addr} {b b1 b2 b3 p : Bool}
variable {ms : Env → Res (List D)} {t : Tgt} {mt : Env → Res Bool} {me : Env → Res RV} {vs : List Nat}
theorem mem_app3 {A B C : List Addr} {y : Addr} : y ∈ (A ++ B) ++ C ↔ y ∈ A ∨ y ∈ B ∨ y ∈ C := by simp [or_assoc]
theorem clear_set {v : Nat} {s : Option O} {e : Env} (hv : v ∈ vs) : clear vs (e.set v s) = clear vs e := by
  have len : ∀ (us : List Nat) (e : Env), (clear us e).length = e.length := fun us => by
    induction us with
    | nil => intro e; rfl
    | cons u us ih => intro e; show ((clear us e).set u none).length = _; rw [List.length_set, ih]
  have get : ∀ (us : List Nat) (e : Env) (j : Nat), (clear us e)[j]? = if j ∈ us then (if j < e.length then some none else none) else e[j]? := fun us => by
    induction us with
    | nil => intro e j; simp [clear]
    | cons u us ih =>
      intro e j
      show ((clear us e).set u none)[j]? = _
      by_cases z : u = j
      · subst z
        rw [if_pos List.mem_cons_self]
        by_cases hl : u < e.length
        · rw [List.getElem?_set_self (by rw [len]; exact hl), if_pos hl]
        · rw [List.getElem?_eq_none (by rw [List.length_set, len]; omega), if_neg hl]
      · rw [List.getElem?_set_ne z, ih]
        by_cases hj : j ∈ us
        · rw [if_pos hj, if_pos (List.mem_cons_of_mem _ hj)]
        · rw [if_neg hj, if_neg fun h => (List.mem_cons.mp h).elim (fun y => z y.symm) hj]
  refine List.ext_getElem? fun j => ?_
  rw [get, get]
  by_cases hj : j ∈ vs
  · rw [if_pos hj, if_pos hj, List.length_set]
  · rw [if_neg hj, if_neg hj, List.getElem?_set_ne fun (z : v = j) => hj (by rw [← z]; exact hv)]
theorem clear_clear {e : Env} : clear vs (clear vs e) = clear vs e := by
  have : ∀ us : List Nat, (∀ u ∈ us, u ∈ vs) → clear vs (clear us e) = clear vs e := fun us => by
    induction us with
    | nil => intro _; rfl
    | cons u us ih =>
      intro h
      show clear vs ((clear us e).set u none) = _
      rw [clear_set (h u List.mem_cons_self), ih fun w hw => h w (List.mem_cons_of_mem _ hw)]
  exact this vs fun _ h => h
theorem restore_clear {e : Env} : restore vs e1 (clear vs e) = restore vs e1 e := by
  unfold restore
  rw [clear_clear]
/-- the turns, from what is walked on -/
theorem comp_core {Q : VK} {K : PySem.W.Frag} (hK : K = c.K) {J : It} {ds : List D} (hp : p = false ∨ (b2 = true ∧ b3 = true)) (hv : t.ix.all (fun i => vs.contains i) = true) (le1 : Le W1 H1) (s1 : Slots c W1 H1 σ e1 F1) (hlen : ds.length ≤ sizeLine) (ok : ∀ (i : Nat) (W H : Hp), Same W1 W → Le W H → (p = true → Same H1 H) → (∀ a o, W1 a ≠ none → H1 a = some o → H a = some o) →
    (i < ds.length → J.go i H ∧ ∀ x H', J.yld i H x H' → ∃ W', Gr W H [] W' H' [] ∧ ∃ d, ds[i]? = some d ∧ Dat c W' x d) ∧ (ds.length ≤ i → J.stop i H))
    (p1 : Pst c XW (b2 && b3) (rRV c) W1 H1 σ F1 (finL vs e1 (compL t.st mt me vs ds [] (clear vs e1))) Q) :
    ∀ D, H1 D = none → ∃ W : Nat → Nat → Hp → Prop, (∃ m, W 0 m (upd H1 D (.lst []))) ∧ ∀ i m H, W i m H →
  (J.stop i H ∧ Q (.ref D) H) ∨ (J.go i H ∧ ∃ Nx : Hp → Prop, (∀ H', Nx H' → ∃ m', m' < m ∧ W (i + 1) m' H') ∧ ∀ x H', J.yld i H x H' → t.g c.K x (wipe σ vs) H' fun σ2 H2 => wipe σ2 vs = wipe σ vs ∧ TB c (XWs XW σ) b2 mt σ2 H2 fun b H3 =>
    if b = true then T c (XWs XW σ) b3 me σ2 H3 fun y H4 => ∃ acc, H4 D = some (.lst acc) ∧ acc.length < sizeLine ∧ Nx (upd H4 D (.lst (acc ++ [y]))) else Nx H3) := by
  intro D hD
  have hWD : W1 D = none := le1.free hD
  have nD : ∀ y ∈ F1, y ≠ D := fun y hy z => (s1.dom y hy).1 (z ▸ hD)
  obtain ⟨F2, s2, sub2⟩ := s1.clear (vs := vs)
  -- the invariant
  let P : Nat → Hp → Prop := fun i H => i ≤ ds.length ∧ ∃ (W : Hp) (e : Env) (F : List Addr) (xs : List V) (os : List O) (Fl : List Addr),
    Gr W1 H1 F1 W H (F ++ (D :: Fl)) ∧ (b2 = true → b3 = true → Same H1 H) ∧ Slots c W H (wipe σ vs) e F ∧ H D = some (.lst xs) ∧ W D = none ∧ RepL c W H xs os Fl ∧ Disj F (D :: Fl) ∧ D ∉ Fl ∧ xs.length ≤ i ∧
      Pst c XW (b2 && b3) (rRV c) W1 H1 σ F1 (finL vs e1 (compL t.st mt me vs (ds.drop i) os e)) Q
  refine ⟨fun i m H => m = ds.length - i ∧ P i H, ⟨ds.length, by simp, Nat.zero_le _, ?_⟩, ?_⟩
  · have g0 : Gr W1 H1 [] W1 (upd H1 D (.lst [])) [D] := Gr.alloc (F := []) le1 hD
    refine ⟨W1, clear vs e1, F2, [], [], [], ?_, fun _ _ => same_alloc hD, s2.frame g0 Disj.nil_right, upd_same, hWD, .nil, fun y hy hz => ?_, List.not_mem_nil, Nat.le_refl _, p1⟩
    · have := Gr.alloc (F := F1) (o := .lst []) le1 hD
      exact this.less fun y hy => (List.mem_append.mp hy).elim (fun z => List.mem_cons_of_mem _ (sub2 y z)) fun z => by
        rw [List.mem_singleton.mp z]; exact List.mem_cons_self
    · exact nD y (sub2 y hy) (List.mem_singleton.mp hz)
  rintro i m H2 ⟨rfl, hi, W2, e2, F3, xs, os, Fl, g2, sm2, s3, hDx, hWD2, rl, dj, nDl, hxl, p2⟩
  have hF3 : ∀ a ∈ F3, H2 a ≠ none ∧ W2 a = none := s3.dom
  have kp : ∀ a o, W1 a ≠ none → H1 a = some o → H2 a = some o := fun a o hw ho => g2.kept a o ho fun z => hw (s1.dom a z).2
  obtain ⟨k1, k2⟩ := ok i W2 H2 g2.w g2.le (fun z => by
    rcases hp with hp | ⟨h2, h3⟩
    · rw [hp] at z; cases z
    · exact sm2 h2 h3) kp
  by_cases hlt : i < ds.length
  · obtain ⟨go, yld⟩ := k1 hlt
    refine .inr ⟨go, P (i + 1), fun H' z => ⟨ds.length - (i + 1), by omega, rfl, z⟩, fun x H3 y => ?_⟩
    obtain ⟨W3, g3, d3, hd3, dt⟩ := yld x H3 y
    have ed : ds.drop i = d3 :: ds.drop (i + 1) := by
      rw [List.drop_eq_getElem_cons hlt]
      have := List.getElem?_eq_getElem hlt
      rw [hd3] at this; cases this; rfl
    rw [ed] at p2
    unfold compL at p2
    have s4 := s3.frame g3 Disj.nil_right
    have sm3 : Same H2 H3 := fun a o h => g3.kept a o h List.not_mem_nil
    have hDx3 := sm3 D _ hDx
    have hWD3 : W3 D = none := g3.out (by rw [hDx]; simp) hWD2 List.not_mem_nil
    have rl3 := rl.frame g3 Disj.nil_right
    have g13 : Gr W1 H1 F1 W3 H3 (F3 ++ (D :: Fl)) := g2.trans ((g3.frame (F3 ++ (D :: Fl))).more (G := F3 ++ (D :: Fl)) (fun y hy => by simpa using hy) |>.less fun y hy => by simpa using hy)
    cases q : t.st d3 e2 with
    | none => rw [q] at p2; exact p2.elim
    | some e3 =>
      rw [q] at p2
      dsimp only at p2
      refine t.run g3.le s4 dt q fun σ4 F4 s5 sub5 bt5 => ?_
      have hw4 : wipe σ4 vs = wipe σ vs := wipe_but (bt5.more fun j hj => by
        have := List.all_eq_true.mp hv j hj
        simpa using this)
      refine ⟨hw4, ?_⟩
      have dj4 : Disj F4 (D :: Fl) := fun y hy => dj y (sub5 y hy)
      have g14 : Gr W1 H1 F1 W3 H3 (F4 ++ (D :: Fl)) := g13.less fun y hy => (List.mem_append.mp hy).elim (fun z => List.mem_append_left _ (sub5 y z)) (List.mem_append_right _)
      have own4 : ∀ y ∈ D :: Fl, H3 y ≠ none ∧ W3 y = none := fun y hy => (List.mem_cons.mp hy).elim (fun z => by rw [z]; exact ⟨by rw [hDx3]; simp, hWD3⟩) (rl3.dom y)
      refine Tr.mk g3.le s5 (fun k e4 W5 H5 v F5 Fo q5 g5 sm5 s6 r6 d6 => ?_) (fun x e4 W5 H5 F5 cls d q5 g5 s6 r6 => ?_) fun z => ?_
      · obtain ⟨ev, ef⟩ := r6
        subst ev ef
        rw [List.append_nil] at g5
        rw [q5] at p2
        have p2 : Pst c XW (b2 && b3) (rRV c) W1 H1 σ F1 (finL vs e1 (if v = true then (me e4).bind fun a e3 => match a.take e3 with
          | some (o, e4) => compL t.st mt me vs (ds.drop (i + 1)) (os ++ [o]) (clear vs e4)
          | none => .stuck
          else compL t.st mt me vs (ds.drop (i + 1)) os (clear vs e4))) Q := p2
        have dA : Disj (D :: Fl) F4 := dj4.symm
        have hDx5 : H5 D = some (.lst xs) := g5.kept D _ hDx3 (dA D List.mem_cons_self)
        have rl5 : RepL c W5 H5 xs os Fl := rl3.frame g5 fun y hy => dA y (List.mem_cons_of_mem _ hy)
        have hWD5 : W5 D = none := g5.out (by rw [hDx3]; simp) hWD3 (dA D List.mem_cons_self)
        have dj5 : Disj F5 (D :: Fl) := g5.disj (fun a ha => (own4 a ha).1) dj4
        have g15 : Gr W1 H1 F1 W5 H5 (F5 ++ (D :: Fl)) := g14.trans (g5.frame (D :: Fl))
        have own5 : ∀ y ∈ D :: Fl, H5 y ≠ none ∧ W5 y = none := fun y hy => (List.mem_cons.mp hy).elim (fun z => by rw [z]; exact ⟨by rw [hDx5]; simp, hWD5⟩) (rl5.dom y)
        cases v with
        | false =>
          rw [if_neg Bool.false_ne_true] at p2 ⊢
          obtain ⟨F6, s7, sub7⟩ := s6.clear (vs := vs)
          rw [hw4] at s7
          exact ⟨hlt, W5, clear vs e4, F6, xs, os, Fl, g15.less fun y hy => (List.mem_append.mp hy).elim (fun z => List.mem_append_left _ (sub7 y z)) (List.mem_append_right _), fun h2 h3 => ((sm2 h2 h3).trans sm3).trans (sm5 h2), s7, hDx5, hWD5, rl5, fun y hy => dj5 y (sub7 y hy), nDl, by omega, p2⟩
        | true =>
          rw [if_pos rfl] at p2 ⊢
          refine Tr.mk g5.le s6 (fun a e5 W6 H6 y F6 Fo q6 g6 sm6 s7 r7 d7 => ?_) (fun x e5 W6 H6 F6 cls d q6 g6 s7 r7 => ?_) fun z => ?_
          · rw [q6] at p2
            have p2 : Pst c XW (b2 && b3) (rRV c) W1 H1 σ F1 (finL vs e1 (match a.take e5 with
              | some (o, e4) => compL t.st mt me vs (ds.drop (i + 1)) (os ++ [o]) (clear vs e4)
              | none => .stuck)) Q := p2
            cases qa : a.take e5 with
            | none => rw [qa] at p2; exact p2.elim
            | some tt =>
              obtain ⟨o, e6⟩ := tt
              rw [qa] at p2
              dsimp only at p2
              obtain ⟨W7, F7, Fo7, g7, s8, r8, d8⟩ := r7.take g6.le s7 d7 qa
              have dj6 : Disj (F6 ++ Fo) (D :: Fl) := g6.disj (fun a ha => (own5 a ha).1) dj5
              have hDx6 : H6 D = some (.lst xs) := g6.kept D _ hDx5 (dj5.symm D List.mem_cons_self)
              have hWD6 : W6 D = none := g6.out (by rw [hDx5]; simp) hWD5 (dj5.symm D List.mem_cons_self)
              have rl6 : RepL c W6 H6 xs os Fl := rl5.frame g6 fun y hy => dj5.symm y (List.mem_cons_of_mem _ hy)
              have own6 : ∀ y ∈ D :: Fl, H6 y ≠ none ∧ W6 y = none := fun y hy => (List.mem_cons.mp hy).elim (fun z => by rw [z]; exact ⟨by rw [hDx6]; simp, hWD6⟩) (rl6.dom y)
              have dj7 : Disj (F7 ++ Fo7) (D :: Fl) := g7.disj (fun a ha => (own6 a ha).1) dj6
              have hWD7 : W7 D = none := g7.out (by rw [hDx6]; simp) hWD6 (dj6.symm D List.mem_cons_self)
              have rl7 : RepL c W7 H6 xs os Fl := rl6.frame g7 fun y hy => dj6.symm y (List.mem_cons_of_mem _ hy)
              have g17 : Gr W1 H1 F1 W7 H6 ((F7 ++ Fo7) ++ (D :: Fl)) := (g15.trans (g6.frame (D :: Fl))).trans (g7.frame (D :: Fl))
              have g18 := g17.trans (Gr.write (o := .lst (xs ++ [y])) g17.le (List.mem_append_right _ List.mem_cons_self) hWD7)
              refine ⟨xs, hDx6, by omega, ?_⟩
              obtain ⟨F8, s9, sub9⟩ := s8.clear (vs := vs)
              rw [hw4] at s9
              have ag : ∀ E : List Addr, D ∉ E → (∀ a ∈ E, W7 a = none) → ∀ a ∈ E, upd H6 D (.lst (xs ++ [y])) a = H6 a ∧ W7 a = none := fun E hE hn a ha => ⟨upd_ne fun z => hE (z ▸ ha), hn a ha⟩
              have nD8 : D ∉ F8 := fun z => dj7.symm D List.mem_cons_self (List.mem_append_left _ (sub9 D z))
              have nDo : D ∉ Fo7 := fun z => dj7.symm D List.mem_cons_self (List.mem_append_right _ z)
              have dlo : Disj Fl Fo7 := fun a ha hb => dj7.symm a (List.mem_cons_of_mem _ ha) (List.mem_append_right _ hb)
              have s9' := s9.agree (Same.refl _) (ag F8 nD8 fun a ha => (s9.dom a ha).2)
              have rl8 := (rl7.append (RepL.one r8) dlo)
              have nDlo : D ∉ Fl ++ Fo7 := fun z => (List.mem_append.mp z).elim nDl nDo
              have rl8' := rl8.agree (Same.refl _) (ag (Fl ++ Fo7) nDlo fun a ha => (rl8.dom a ha).2)
              refine ⟨hlt, W7, clear vs e6, F8, xs ++ [y], os ++ [o], Fl ++ Fo7, g18.less fun y hy => ?_, fun h2 h3 => ?_, s9', upd_same, hWD7, rl8', fun z hz hz' => ?_, nDlo, by rw [List.length_append]; simp; omega, p2⟩
              · rcases List.mem_append.mp hy with z | z
                · exact List.mem_append_left _ (List.mem_append_left _ (sub9 y z))
                · rcases List.mem_cons.mp z with z | z
                  · exact List.mem_append_right _ (List.mem_cons.mpr (.inl z))
                  · rcases List.mem_append.mp z with z | z
                    · exact List.mem_append_right _ (List.mem_cons_of_mem _ z)
                    · exact List.mem_append_left _ (List.mem_append_right _ z)
              · have := (((sm2 h2 h3).trans sm3).trans (sm5 h2)).trans (sm6 h3)
                exact fun a u h => by rw [upd_ne (ne_of_none h hD)]; exact this a u h
              · have hz7 : z ∈ F7 := sub9 z hz
                rcases List.mem_cons.mp hz' with y' | y'
                · exact nD8 (y' ▸ hz)
                · rcases List.mem_append.mp y' with y' | y'
                  · exact dj7 z (List.mem_append_left _ hz7) (List.mem_cons_of_mem _ y')
                  · exact d8 z hz7 y'
          · rw [q6] at p2
            have g16 : Gr W1 H1 F1 W6 H6 (F6 ++ (D :: Fl)) := g15.trans (g6.frame (D :: Fl))
            obtain ⟨F7, s8, sub8⟩ := s7.clear (vs := vs)
            rw [hw4] at s8
            obtain ⟨F8, s9, sub9⟩ := s8.restore s1 (Le.of_same g16.w)
            have p2 : Pst c XW (b2 && b3) (rRV c) W1 H1 σ F1 (.err x (restore vs e1 e5)) Q := p2
            rw [restore_clear] at s9
            exact p2 W6 H6 F8 cls d (g16.less fun y hy => List.mem_append_left _ (sub8 y (sub9 y hy))) s9 r7
          · rw [z] at p2; exact p2.elim
      · rw [q5] at p2
        have g15 : Gr W1 H1 F1 W5 H5 (F5 ++ (D :: Fl)) := g14.trans (g5.frame (D :: Fl))
        obtain ⟨F7, s8, sub8⟩ := s6.clear (vs := vs)
        rw [hw4] at s8
        obtain ⟨F8, s9, sub9⟩ := s8.restore s1 (Le.of_same g15.w)
        have p2 : Pst c XW (b2 && b3) (rRV c) W1 H1 σ F1 (.err x (restore vs e1 e4)) Q := p2
        rw [restore_clear] at s9
        exact p2 W5 H5 F8 cls d (g15.less fun y hy => List.mem_append_left _ (sub8 y (sub9 y hy))) s9 r6
      · rw [z] at p2; exact p2.elim
  · have ei : i = ds.length := by omega
    subst ei
    rw [List.drop_length] at p2
    unfold compL at p2
    refine .inl ⟨k2 (Nat.le_refl _), ?_⟩
    obtain ⟨F5, s5, sub5⟩ := s3.restore s1 (Le.of_same g2.w)
    exact p2 W2 H2 (.ref D) F5 (D :: Fl) (g2.less fun y hy => (List.mem_append.mp hy).elim (fun z => List.mem_append_left _ (sub5 y z)) (List.mem_append_right _)) (fun z => by
      rw [Bool.and_eq_true] at z
      exact sm2 z.1 z.2) s5 (.lst hDx hWD2 rl nDl) fun y hy => dj y (sub5 y hy)
/-- the turns of a list comprehension -/
theorem comp_run {Q : VK} {K : PySem.W.Frag} (hK : K = c.K) (hp : p = false ∨ (b2 = true ∧ b3 = true)) (hv : t.ix.all (fun i => vs.contains i) = true) (h : T c XW (b1 && (b2 && b3)) (lcD vs ms t mt me) σ H Q) :
    tLc (TI' c XW b1 p ms) (t.g c.K) (TB c (XWs XW σ) b2 mt) (T c (XWs XW σ) b3 me) vs σ H Q := by
  obtain ⟨W, e, F, le, s, post⟩ := h
  refine Tr.then0 (b2 := b2 && b3) le s post (fun z => by simpa using z) fun ds e1 W1 H1 J F1 Fo _ g sm s1 r d p1 => ?_
  obtain ⟨rfl, hlen, ok⟩ := r
  rw [List.append_nil] at p1
  exact comp_core hK hp hv g.le s1 hlen ok p1
variable {elt tg iter x : Expr} {ifs : List Expr} {scope : Scope} {own : List (Str × Nat)} {pos spos : Pos}
theorem pts_imp {ts : List Expr} {t t' : TT} (h : PTs X ts t) (k : ∀ σ H Q, t' σ H Q → t σ H Q) : PTs X ts t' := ⟨fun pins s σ H Q I hw => h.run pins s σ H Q I (k σ H Q hw)⟩
theorem ts_nil : PTs X [] (TB c XW true yesD) := pts_imp pts_nil fun σ H Q ⟨W, e, F, le, s, p⟩ => p W H true F [] (by rw [List.append_nil]; exact Gr.refl le) (fun _ => Same.refl _) s ⟨rfl, rfl⟩ Disj.nil_right
theorem ts_one {tc : Env → Res Bool} (h : PT X x (TB c XW b tc)) : PTs X [x] (TB c XW b tc) := pts_one h
/-- [elt for tg in iter ..] -/
theorem d_lc (hp : HP X XW) (hcm : X.calm = true) (hN : X.N.Nodup) (hK : X.K = c.K) (ok : BlkOk X.N X.env.scope scope own) (hi : PI X tg iter (TI' c XW b1 p ms))
    (hg : ∀ (s : Shared) (H : Hp) (C : Addr) (cl : List (Str × Addr)) (fp : List Addr) (xe : Value → Shared → Prop), PG (blkX X s H scope (CE0 X scope C cl) fp xe) tg (t.g c.K))
    (ht : ∀ (s : Shared) (H : Hp) (C : Addr) (cl : List (Str × Addr)) (fp : List Addr) (xe : Value → Shared → Prop) (W : WX), HP (blkX X s H scope (CE0 X scope C cl) fp xe) W → PTs (blkX X s H scope (CE0 X scope C cl) fp xe) ifs (TB c W b2 mt))
    (he : ∀ (s : Shared) (H : Hp) (C : Addr) (cl : List (Str × Addr)) (fp : List Addr) (xe : Value → Shared → Prop) (W : WX), HP (blkX X s H scope (CE0 X scope C cl) fp xe) W → PE (blkX X s H scope (CE0 X scope C cl) fp xe) elt (T c W b3 me))
    (hb : p = false ∨ (b2 = true ∧ b3 = true) := by first | exact .inl rfl | exact .inr ⟨rfl, rfl⟩) (hv : t.ix.all (fun i => (own.map (·.2)).contains i) = true := by rfl) (hs : ∀ x, foldedSetIterable iter X.env x = pure x := by intro _; rfl) :
    PE X (.ListComp elt [⟨tg, iter, ifs, 0⟩] scope pos) (T c XW (b1 && (b2 && b3)) (lcD (own.map (·.2)) ms t mt me)) :=
  pe_imp (pe_lcx (tt := fun W => TB c W b2 mt) (te := fun W => T c W b3 me) hp hcm hN hi ok hg ht he hs) fun σ H Q h => comp_run rfl hb hv h
/-- name = [..] on one line -/
theorem s_setLc {i : Nat} {y : Str} {py : Pos} {pin : List Nat} {σ0 : L2.St} (hp : HP X XW) (hcm : X.calm = true) (hN : X.N.Nodup) (hK : X.K = c.K) (hy : X.N[i]? = some y) (hyl : X.env.scope.names.lookup y = some .local)
    (hsw : swapsWith (.ListComp elt [⟨tg, iter, ifs, 0⟩] scope pos) (some (.Name y py)) spos.line X.env = pure true) (ok : BlkOk X.N X.env.scope scope own) (hi : PI X tg iter (TI' c XW b1 p ms))
    (hg : ∀ (s : Shared) (H : Hp) (C : Addr) (cl : List (Str × Addr)) (fp : List Addr) (xe : Value → Shared → Prop), PG (blkX X s H scope (CE0 X scope C cl) fp xe) tg (t.g c.K))
    (ht : ∀ (s : Shared) (H : Hp) (C : Addr) (cl : List (Str × Addr)) (fp : List Addr) (xe : Value → Shared → Prop) (W : WX), HP (blkX X s H scope (CE0 X scope C cl) fp xe) W → PTs (blkX X s H scope (CE0 X scope C cl) fp xe) ifs (TB c W b2 mt))
    (he : ∀ (s : Shared) (H : Hp) (C : Addr) (cl : List (Str × Addr)) (fp : List Addr) (xe : Value → Shared → Prop) (W : WX), HP (blkX X s H scope (CE0 X scope C cl) fp xe) W → PE (blkX X s H scope (CE0 X scope C cl) fp xe) elt (T c W b3 me))
    (hpin : pin.contains i = false := by rfl) (hb : p = false ∨ (b2 = true ∧ b3 = true) := by first | exact .inl rfl | exact .inr ⟨rfl, rfl⟩) (hv : t.ix.all (fun i => (own.map (·.2)).contains i) = true := by rfl) (hs : ∀ x, foldedSetIterable iter X.env x = pure x := by intro _; rfl) :
    PS X (.Assign [.Name y py] (.ListComp elt [⟨tg, iter, ifs, 0⟩] scope pos) spos) (S c XW pin σ0 (setD i (lcD (own.map (·.2)) ms t mt me))) :=
  ps_imp (ps_setLcx (tt := fun W => TB c W b2 mt) (te := fun W => T c W b3 me) hp hcm hN hy hyl hsw hi ok hg ht he hs) fun D σ H h => by
    have h2 := set_run (b := b1 && (b2 && b3)) hpin h
    exact comp_run rfl hb hv h2
end
end Z

set_option maxRecDepth 100000
set_option maxHeartbeats 2000000
/-! Z.call: defs as functions on owned data; calls -/
namespace Z
open PySem L2 PySem.Spec PyProof.Rows

inductive CRes where
  | ok (r : O) (outs : List O) | err (x : Exn) (outs : List O) | stuck
def cPst (c : Cf) (W H : Hp) (F : List Addr) (vs : List V) (r : CRes) (Q : VK) (E : XK) : Prop := match r with
  | .ok r outs => ∀ (W' H' : Hp) (v : V) (F' Fo : List Addr), Gr W H F W' H' (F' ++ Fo) → RepL c W' H' vs outs F' → Rep c W' H' v r Fo → Disj F' Fo → Q v H'
  | .err x outs => ∀ (W' H' : Hp) (F' : List Addr) (cls : Value) (d : Option Addr), Gr W H F W' H' F' → RepL c W' H' vs outs F' → ExRep c W' x cls d H' → E cls d H'
  | .stuck => False
/-- a def's promise: n parameters, f what it does -/
def spD (c : Cf) (n : Nat) (f : List O → CRes) : Sp := fun vs H Q E => vs.length = n ∧ ∃ (W : Hp) (os : List O) (F : List Addr), Le W H ∧ RepL c W H vs os F ∧ cPst c W H F vs (f os) Q E

/-! ### a body -/
def headO : Env → Option O
  | some o' :: _ => some o'
  | _ => none
def valO : O → Option O
  | .val d => some (.val d)
  | _ => none
/-- what the parameters hold at the end, from the k-th on -/
def outsL (pin : List Nat) : Nat → List O → Env → Option (List O)
  | _, [], _ => some []
  | k, o :: os, e => (if pin.contains k = true then headO e else valO o).bind fun o' => (outsL pin (k + 1) os e.tail).map (o' :: ·)
def startE (N : Nat) (os : List O) : Env := os.map some ++ List.replicate (N - os.length) none
def endD (pin : List Nat) (os : List O) : SRes → CRes
  | .nx e => (match outsL pin 0 os e with
    | some outs => .ok (.val .non) outs
    | none => .stuck)
  | .rt o e => (match outsL pin 0 os e with
    | some outs => .ok o outs
    | none => .stuck)
  | .err x e => (match outsL pin 0 os e with
    | some outs => .err x outs
    | none => .stuck)
  | _ => .stuck
def fnD (N : Nat) (pin : List Nat) (m : Env → SRes) : List O → CRes := fun os => endD pin os (m (startE N os))
section
variable {c : Cf} {W H W1 H1 W2 H2 : Hp} {σ : L2.St} {e e1 e2 : Env} {F G F1 F2 : List Addr} {pin : List Nat}
theorem slots_offs : ∀ n : Nat, Slots c W H (List.replicate n none) (List.replicate n none) []
  | 0 => .nil
  | n + 1 => .off (slots_offs n)
theorem slots_start : ∀ {vs : List V} {os : List O} {F : List Addr} {n : Nat}, RepL c W H vs os F → Slots c W H (vs.map some ++ List.replicate n none) (os.map some ++ List.replicate n none) F
  | _, _, _, n, .nil => slots_offs n
  | _, _, _, n, .cons r k d => .on r (slots_start k) d
/-- what never changed is as it was -/
def OldV (c : Cf) (W : Hp) : List V → List O → Prop
  | v :: vs, o :: os => (∀ d, o = .val d → Dat c W v d) ∧ OldV c W vs os
  | [], [] => True
  | _, _ => False
theorem OldV.of : ∀ {vs : List V} {os : List O} {F : List Addr}, RepL c W H vs os F → Same W W1 → OldV c W1 vs os
  | _, _, _, .nil, _ => trivial
  | _, _, _, .cons r k _, s => ⟨fun d e => by subst e; cases r with | val h => exact h.mono (.of_same s), OldV.of k s⟩
theorem outs_rep : ∀ {vs : List V} {os outs : List O} {k : Nat} {σ : L2.St} {e : Env} {F : List Addr}, Slots c W H σ e F → outsL pin k os e = some outs → OldV c W vs os →
    (∀ i v, vs[i]? = some v → pin.contains (k + i) = true → σ[i]? = some (some v)) → ∃ F', RepL c W H vs outs F' ∧ ∀ a ∈ F', a ∈ F
  | [], [], outs, k, σ, e, F, s, h, o, p => by
    have h : some [] = some outs := h
    cases h
    exact ⟨[], .nil, fun _ z => absurd z List.not_mem_nil⟩
  | [], _ :: _, _, _, _, _, _, _, _, o, _ => o.elim
  | _ :: _, [], _, _, _, _, _, _, _, o, _ => o.elim
  | v :: vs, o :: os, outs, k, σ, e, F, s, h, old, p => by
    have tail : ∃ F1, Slots c W H σ.tail e.tail F1 ∧ (∀ a ∈ F1, a ∈ F) ∧ ∀ o' r, e = some o' :: r → σ[0]? = some (some v) → ∃ G, Rep c W H v o' G ∧ Disj G F1 ∧ ∀ a ∈ G, a ∈ F := by
      cases s with
      | nil => exact ⟨[], .nil, fun _ z => z, fun o' r z => by cases z⟩
      | off k => exact ⟨_, k, fun _ z => z, fun o' r z => by cases z⟩
      | on r k d => exact ⟨_, k, fun _ z => List.mem_append_right _ z, fun o' r' z hv => by
          cases z
          have := Option.some.inj (Option.some.inj (show some (some _) = some (some v) from hv))
          subst this
          exact ⟨_, r, d, fun _ z => List.mem_append_left _ z⟩⟩
    obtain ⟨F1, s1, sub1, hd⟩ := tail
    have h : ((if pin.contains k = true then headO e else valO o).bind fun o' => (outsL pin (k + 1) os e.tail).map (o' :: ·)) = some outs := h
    cases q : (if pin.contains k = true then headO e else valO o) with
    | none => rw [q] at h; cases h
    | some o' =>
      rw [q] at h
      have h : (outsL pin (k + 1) os e.tail).map (o' :: ·) = some outs := h
      cases q2 : outsL pin (k + 1) os e.tail with
      | none => rw [q2] at h; cases h
      | some outs' =>
        rw [q2] at h
        cases h
        obtain ⟨F2, r2, sub2⟩ := outs_rep s1 q2 old.2 fun i w hw hp => by
          have := p (i + 1) w (by simpa using hw) (by rw [show k + (i + 1) = k + 1 + i by omega]; exact hp)
          rw [List.getElem?_tail]; exact this
        have fst : ∃ G, Rep c W H v o' G ∧ Disj G F1 ∧ ∀ a ∈ G, a ∈ F := by
          by_cases hk : pin.contains k = true
          · rw [if_pos hk] at q
            have hv := p 0 v rfl hk
            cases e with
            | nil => cases q
            | cons x r =>
              cases x with
              | none => cases q
              | some o2 => cases q; exact hd o' r rfl hv
          · rw [if_neg hk] at q
            cases o with
            | val d => cases q; exact ⟨[], .val (old.1 d rfl), Disj.nil_left, fun _ z => absurd z List.not_mem_nil⟩
            | _ => cases q
        obtain ⟨G, r1, d1, sub3⟩ := fst
        exact ⟨G ++ F2, .cons r1 r2 fun a z y => d1 a z (sub2 a y), fun a z => (List.mem_append.mp z).elim (sub3 a) fun y => sub1 a (sub2 a y)⟩
/-- THE RULE for a def: its body's denotation m -/
theorem body_run {N : List Str} {vs : List V} {m : Env → SRes} {Q : VK} {E : XK} {n : Nat} (h : spD c n (fnD N.length pin m) vs H Q E) : S c (fun cls d _ H => E cls d H) pin (L2.start N vs) m { nx := fun _ H' => Q .non H', rt := Q } (L2.start N vs) H := by
  obtain ⟨hl, W, os, F, le, rl, post⟩ := h
  have hlen := rl.length
  refine ⟨W, startE N.length os, F, le, ?_, fun _ _ => rfl, ?_⟩
  · unfold startE L2.start
    rw [hlen]
    exact slots_start rl
  · unfold fnD at post
    have pins : ∀ {σ' : L2.St}, PinOk pin (L2.start N vs) σ' → ∀ i v, vs[i]? = some v → pin.contains (0 + i) = true → σ'[i]? = some (some v) := fun {σ'} pn i v hv hp => by
      rw [Nat.zero_add] at hp
      rw [pn i (by simpa using hp)]
      unfold L2.start
      rw [List.getElem?_append_left (by rw [List.length_map]; exact (List.getElem?_eq_some_iff.mp hv).1), List.getElem?_map, hv]
      rfl
    cases q : m (startE N.length os) with
    | nx e1 =>
      rw [q] at post
      intro W' H' σ' F' g s pn
      have post : cPst c W H F vs (match outsL pin 0 os e1 with
        | some outs => .ok (.val .non) outs
        | none => .stuck) Q E := post
      cases q2 : outsL pin 0 os e1 with
      | none => rw [q2] at post; exact post.elim
      | some outs =>
        rw [q2] at post
        obtain ⟨F2, r2, sub2⟩ := outs_rep s q2 (OldV.of rl g.w) (pins pn)
        exact post W' H' .non F2 [] (by rw [List.append_nil]; exact g.less sub2) r2 (.val .non) Disj.nil_right
    | rt o e1 =>
      rw [q] at post
      intro W' H' σ' v F' Fo g s pn r d
      have post : cPst c W H F vs (match outsL pin 0 os e1 with
        | some outs => .ok o outs
        | none => .stuck) Q E := post
      cases q2 : outsL pin 0 os e1 with
      | none => rw [q2] at post; exact post.elim
      | some outs =>
        rw [q2] at post
        obtain ⟨F2, r2, sub2⟩ := outs_rep s q2 (OldV.of rl g.w) (pins pn)
        exact post W' H' v F2 Fo (g.less fun a z => (List.mem_append.mp z).elim (fun y => List.mem_append_left _ (sub2 a y)) (List.mem_append_right _)) r2 r fun a z => d a (sub2 a z)
    | err x e1 =>
      rw [q] at post
      intro W' H' σ' F' cls dd g s pn r
      have post : cPst c W H F vs (match outsL pin 0 os e1 with
        | some outs => .err x outs
        | none => .stuck) Q E := post
      cases q2 : outsL pin 0 os e1 with
      | none => rw [q2] at post; exact post.elim
      | some outs =>
        rw [q2] at post
        obtain ⟨F2, r2, sub2⟩ := outs_rep s q2 (OldV.of rl g.w) (pins pn)
        exact post W' H' F2 cls dd (g.less sub2) r2 r
    | bk e1 => rw [q] at post; exact post.elim
    | ct e1 => rw [q] at post; exact post.elim
    | stuck => rw [q] at post; exact post.elim
end

/-! ### what is given to a call -/
def lend (e : Env) : List RV → Option (List O × Env)
  | [] => some ([], e)
  | r :: rs => (r.out [] e).bind fun p => (lend p.2 rs).map fun q => (p.1 :: q.1, q.2)
def unlend (e : Env) : List RV → List O → Env
  | .pl i [] :: rs, o :: os => unlend (e.set i (some o)) rs os
  | _ :: rs, _ :: os => unlend e rs os
  | _, _ => e
section
variable {c : Cf} {W H W1 H1 W2 H2 : Hp} {σ : L2.St} {F G F1 F2 : List Addr}
theorem RVs.frame0 {W1 : Hp} {vs : List V} {as : List RV} {E G G' : List Addr} (r : RVs c W H σ vs as E) (g : Gr W H G W1 H G') (d : Disj E G) : RVs c W1 H σ vs as E := by
  induction r with
  | nil => exact .nil
  | cons h _ dd ih => exact .cons (h.frame g d.left fun _ _ _ => .inr (Same.refl _)) (ih d.right) dd
theorem lend_run : ∀ {vs : List V} {as : List RV} {Fa : List Addr} {W H : Hp} {e e' : Env} {F : List Addr} {os : List O}, Le W H → RVs c W H σ vs as Fa → Slots c W H σ e F → Disj F Fa → lend e as = some (os, e') →
    ∃ W' F' Fo', Gr W H (F ++ Fa) W' H (F' ++ Fo') ∧ Slots c W' H σ e' F' ∧ RepL c W' H vs os Fo' ∧ Disj F' Fo'
  | _, _, _, W, H, e, e', F, os, le, .nil, s, d, h => by cases h; exact ⟨W, F, [], Gr.refl le, s, .nil, d⟩
  | _, _, _, W, H, e, e', F, os, le, .cons (vs := vs) (rv := a) (rvs := as) (F := F1) (G := G1) r rs dj, s, d, h => by
    have h : (a.out [] e).bind (fun p => (lend p.2 as).map fun q => (p.1 :: q.1, q.2)) = some (os, e') := h
    cases q : a.out [] e with
    | none => rw [q] at h; cases h
    | some p =>
      rw [q] at h
      have h : (lend p.2 as).map (fun q => (p.1 :: q.1, q.2)) = some (os, e') := h
      cases q2 : lend p.2 as with
      | none => rw [q2] at h; cases h
      | some p2 =>
        rw [q2] at h
        have h := Option.some.inj h
        obtain ⟨W1, F2, Fo, g, s1, r1, d1⟩ := RVr.out (pin := []) (σ0 := σ) le r s d.left' (fun _ z => absurd z List.not_mem_nil) (o := p.1) (e1 := p.2) q
        have dG : Disj (F ++ F1) G1 := Disj.app d.right' dj
        have rs' : RVs c W1 H σ vs as G1 := rs.frame0 g dG.symm
        have d2 : Disj (F2 ++ Fo) G1 := g.disj (fun y hy => (rs.dom y hy).1) dG
        obtain ⟨W2, F3, Fo3, g2, s2, r2, d3⟩ := lend_run g.le rs' s1 d2.left (show lend p.2 as = some (p2.1, p2.2) from q2)
        have e1 : os = p.1 :: p2.1 := (congrArg Prod.fst h).symm
        have e2 : e' = p2.2 := (congrArg Prod.snd h).symm
        subst e1 e2
        have hFo : ∀ y ∈ Fo, H y ≠ none ∧ W1 y = none := r1.dom
        have dFo : Disj (F2 ++ G1) Fo := Disj.app d1 d2.right.symm
        have d4 : Disj (F3 ++ Fo3) Fo := g2.disj (fun y hy => (hFo y hy).1) dFo
        refine ⟨W2, F3, Fo ++ Fo3, ?_, s2, .cons (r1.frame g2 dFo.symm) r2 d4.right.symm, Disj.app' d4.left d3⟩
        have gA := (g.frame G1).trans (W2 := W2) (H2 := H) (F2 := F3 ++ (Fo ++ Fo3)) ?_
        · exact gA.more fun y hy => by
            rcases List.mem_append.mp hy with hy | hy
            · rcases List.mem_append.mp hy with hy | hy
              · exact List.mem_append_left _ hy
              · exact List.mem_append_right _ (List.mem_append_left _ hy)
            · exact List.mem_append_right _ (List.mem_append_right _ hy)
        · have gB := (g2.frame Fo).more (G := F2 ++ Fo ++ G1) fun y hy => by
            rcases List.mem_append.mp hy with hy | hy
            · rcases List.mem_append.mp hy with hy | hy
              · exact List.mem_append_left _ (List.mem_append_left _ hy)
              · exact List.mem_append_right _ hy
            · exact List.mem_append_left _ (List.mem_append_right _ hy)
          exact gB.less fun y hy => by
            rcases List.mem_append.mp hy with hy | hy
            · exact List.mem_append_left _ (List.mem_append_left _ hy)
            · rcases List.mem_append.mp hy with hy | hy
              · exact List.mem_append_right _ hy
              · exact List.mem_append_left _ (List.mem_append_right _ hy)
/-- given back -/
theorem unlend_run : ∀ {vs : List V} {as : List RV} {Fa : List Addr} {W' H' : Hp} {e : Env} {F G : List Addr} {outs : List O}, RVs c W H σ vs as Fa → Slots c W' H' σ e F → RepL c W' H' vs outs G → Disj F G →
    ∃ F', Slots c W' H' σ (unlend e as outs) F' ∧ ∀ a ∈ F', a ∈ F ∨ a ∈ G
  | _, _, _, W', H', e, F, G, outs, .nil, s, k, d => ⟨F, (by cases outs <;> exact s), fun _ z => .inl z⟩
  | _, _, _, W', H', e, F, _, _, .cons (rv := a) (rvs := as) r rs dj, s, .cons (o := o) (os := os) (F := G1) (G := G2) r1 k d1, d => by
    have keep : unlend e (a :: as) (o :: os) = unlend e as os → ∃ F', Slots c W' H' σ (unlend e (a :: as) (o :: os)) F' ∧ ∀ x ∈ F', x ∈ F ∨ x ∈ G1 ++ G2 := fun eu => by
      rw [eu]
      obtain ⟨F', s', sub⟩ := unlend_run rs s k d.right'
      exact ⟨F', s', fun x z => (sub x z).imp id (List.mem_append_right _)⟩
    cases a with
    | tmp o2 => exact keep rfl
    | pl i p =>
      cases p with
      | cons s1 p => exact keep rfl
      | nil =>
        obtain ⟨_, v0, h0, ha⟩ := r
        cases ha
        obtain ⟨F1, s1, sub1⟩ := s.set' i r1 d.left'.symm
        have ev : σ.set i (some _) = σ := List.ext_getElem? fun j => by
          by_cases hj : i = j
          · subst hj
            rw [List.getElem?_set_self (List.getElem?_eq_some_iff.mp h0).1, h0]
          · rw [List.getElem?_set_ne hj]
        rw [ev] at s1
        obtain ⟨F', s', sub⟩ := unlend_run rs s1 k fun x z z' => (sub1 x z).elim (fun y => d.right' x y z') fun y => d1 x y z'
        show ∃ F', Slots c W' H' σ (unlend (e.set i (some o)) as os) F' ∧ _
        exact ⟨F', s', fun x z => (sub x z).elim (fun y => (sub1 x y).imp id (List.mem_append_left _)) fun y => .inr (List.mem_append_right _ y)⟩
end

/-! ### arguments in the parameters' order -/
def arrange {α : Type} (ix : List Nat) (l : List α) : List α := ix.filterMap fun i => l[i]?
theorem arrange_length {α : Type} {l : List α} : ∀ {ix : List Nat}, (∀ i ∈ ix, i < l.length) → (arrange ix l).length = ix.length
  | [], _ => rfl
  | i :: ix, h => by
    unfold arrange
    rw [List.filterMap_cons, List.getElem?_eq_getElem (h i List.mem_cons_self)]
    show (arrange ix l).length + 1 = _
    rw [arrange_length fun j hj => h j (List.mem_cons_of_mem _ hj)]; rfl
section
variable {c : Cf} {W H W1 H1 W2 H2 : Hp} {σ : L2.St} {F G F1 F2 : List Addr} {e e1 e2 : Env}
theorem RVs.append {vs vs' : List V} {as as' : List RV} {F G : List Addr} (r : RVs c W H σ vs as F) (k : RVs c W H σ vs' as' G) (d : Disj F G) : RVs c W H σ (vs ++ vs') (as ++ as') (F ++ G) := by
  induction r with
  | nil => exact k
  | cons h _ dd ih =>
    rw [List.append_assoc]
    exact .cons h (ih d.right) (Disj.app' dd d.left)
theorem RVs.length {vs : List V} {as : List RV} {F : List Addr} (r : RVs c W H σ vs as F) : vs.length = as.length := by
  induction r with
  | nil => rfl
  | cons _ _ _ ih => simp [ih]
theorem RVs.vals {vs : List V} {ds : List D} (h : DatL c W vs ds) : RVs c W H σ vs (ds.map rv) [] := by
  induction h using DatL.rec (motive_1 := fun _ _ _ => True) with
  | nil => exact .nil
  | cons a _ _ ih => exact .cons (F := []) (show RVr c W H σ _ (.tmp (.val _)) [] from .val a) ih Disj.nil_left
  | _ => trivial
theorem RVs.each {vs : List V} {as : List RV} {F : List Addr} (r : RVs c W H σ vs as F) : ∃ fp : Nat → List Addr, (∀ i v a, vs[i]? = some v → as[i]? = some a → RVr c W H σ v a (fp i)) ∧ (∀ i j, i ≠ j → Disj (fp i) (fp j)) ∧ ∀ i, ∀ x ∈ fp i, x ∈ F := by
  induction r with
  | nil => exact ⟨fun _ => [], fun i v a h _ => by simp at h, fun _ _ _ => Disj.nil_left, fun _ _ z => absurd z List.not_mem_nil⟩
  | @cons v vs a as F G h _ dd ih =>
    obtain ⟨fp, h1, h2, h3⟩ := ih
    refine ⟨fun i => match i with | 0 => F | i + 1 => fp i, fun i w b hw hb => ?_, fun i j hij => ?_, fun i => ?_⟩
    · cases i with
      | zero =>
        have e1 := Option.some.inj (show some v = some w from hw)
        have e2 := Option.some.inj (show some a = some b from hb)
        subst e1 e2
        exact h
      | succ i => exact h1 i w b (by simpa using hw) (by simpa using hb)
    · cases i with
      | zero =>
        cases j with
        | zero => exact absurd rfl hij
        | succ j => exact fun x hx hy => dd x hx (h3 j x hy)
      | succ i =>
        cases j with
        | zero => exact fun x hx hy => dd x hy (h3 i x hx)
        | succ j => exact h2 i j fun z => hij (by rw [z])
    · cases i with
      | zero => exact fun x hx => List.mem_append_left _ hx
      | succ i => exact fun x hx => List.mem_append_right _ (h3 i x hx)
theorem RVs.arrange {vs : List V} {as : List RV} {F : List Addr} (r : RVs c W H σ vs as F) : ∀ {ix : List Nat}, ix.Nodup → ∃ F', RVs c W H σ (Z.arrange ix vs) (Z.arrange ix as) F' ∧ ∀ x ∈ F', x ∈ F := by
  obtain ⟨fp, h1, h2, h3⟩ := r.each
  have hl := r.length
  have all : ∀ {ix : List Nat}, ix.Nodup → RVs c W H σ (Z.arrange ix vs) (Z.arrange ix as) ((ix.filter (· < vs.length)).flatMap fp) := fun {ix} => by
    induction ix with
    | nil => exact fun _ => .nil
    | cons i ix ih =>
      intro nd
      obtain ⟨n1, n2⟩ := List.nodup_cons.mp nd
      have t := ih n2
      unfold Z.arrange at t ⊢
      rw [List.filterMap_cons, List.filterMap_cons]
      by_cases hi : i < vs.length
      · rw [List.getElem?_eq_getElem hi, List.getElem?_eq_getElem (hl ▸ hi), List.filter_cons_of_pos (by simpa using hi), List.flatMap_cons]
        refine .cons (h1 i _ _ (List.getElem?_eq_getElem hi) (List.getElem?_eq_getElem (hl ▸ hi))) t fun x hx hy => ?_
        obtain ⟨j, hj, hxj⟩ := List.mem_flatMap.mp hy
        exact h2 i j (fun z => n1 (z ▸ (List.mem_filter.mp hj).1)) x hx hxj
      · rw [List.getElem?_eq_none (by omega), List.getElem?_eq_none (by omega), List.filter_cons_of_neg (by simpa using hi)]
        exact t
  intro ix nd
  refine ⟨_, all nd, fun x hx => ?_⟩
  obtain ⟨j, _, hxj⟩ := List.mem_flatMap.mp hx
  exact h3 j x hxj
end
theorem vals_arrange {vs : List V} {us : List Value} (r : Vals vs us) : ∀ {ix : List Nat}, Vals (arrange ix vs) (arrange ix us)
  | [] => .nil
  | i :: ix => by
    unfold arrange
    rw [List.filterMap_cons, List.filterMap_cons]
    have hl := r.length
    by_cases hi : i < vs.length
    · obtain ⟨u, hu, ru⟩ := r.get (List.getElem?_eq_getElem hi)
      rw [List.getElem?_eq_getElem hi, hu]
      exact .cons ru (vals_arrange r)
    · rw [List.getElem?_eq_none (by omega), List.getElem?_eq_none (by omega)]
      exact vals_arrange r

/-! ### calls -/
def callR (f : List O → CRes) (as : List RV) (e : Env) : Res RV := match lend e as with
  | none => .stuck
  | some (os, e3) => match f os with
    | .ok r outs => .ok (.tmp r) (unlend e3 as outs)
    | .err x outs => .err x (unlend e3 as outs)
    | .stuck => .stuck
def argsZ (n m : Nat) (ix : List Nat) (dds : List D) (k : List RV → Env → Res RV) (mas mks : Env → Res (List RV)) : Env → Res RV := fun e => (mas e).bind fun as e1 => (mks e1).bind fun ks e2 =>
  if as.length = n ∧ ks.length = m then k (arrange ix (as ++ ks ++ dds.map rv)) e2 else .stuck
/-- f(..): n places, m keywords, defaults dds, in the order ix -/
def callZ (n m : Nat) (ix : List Nat) (dds : List D) (f : List O → CRes) (mas mks : Env → Res (List RV)) : Env → Res RV := argsZ n m ix dds (callR f) mas mks
/-- C(..) -/
def makeF (k : Nat) (f : List O → CRes) (as : List RV) (e : Env) : Res RV := match lend e as with
  | none => .stuck
  | some (os, e3) => match f (.obj k [] :: os) with
    | .ok (.val .non) (self :: outs) => .ok (.tmp self) (unlend e3 as outs)
    | .err x (_ :: outs) => .err x (unlend e3 as outs)
    | _ => .stuck
def makeZ (k n m : Nat) (ix : List Nat) (dds : List D) (f : List O → CRes) (mas mks : Env → Res (List RV)) : Env → Res RV := argsZ n m ix dds (makeF k f) mas mks
/-- the object's class, its attributes -/
def recvK (k : Nat) (mt : Str) : O → Bool
  | .val (.obj k' fs) => k' == k && (lookD mt fs).isNone
  | .obj k' fs => k' == k && (look1 mt fs).isNone
  | _ => false
/-- o.m(..) -/
def methZ (k : Nat) (mt : Str) (n m : Nat) (ix : List Nat) (dds : List D) (f : List O → CRes) (mo : Env → Res RV) (mas mks : Env → Res (List RV)) : Env → Res RV := fun e => (mo e).bind fun a e0 =>
  if (a.get e0).any (recvK k mt) = true then argsZ n m ix dds (fun as => callR f (a :: as)) mas mks e0 else .stuck
section
variable {X : Cx} {c : Cf} {XW : WX} {σ : L2.St} {W H W1 H1 W2 H2 : Hp} {e e1 e2 : Env} {F G F1 F2 : List Addr} {b b1 b2 b3 : Bool}
theorem RVs.later {vs : List V} {as : List RV} {Fa : List Addr} (r : RVs c W1 H1 σ vs as Fa) (g : Gr W1 H1 F1 W2 H2 F2) (d : Disj Fa F1) (st : Same H1 H2 ∨ ∀ i p, RV.pl i p ∈ as → p = []) : RVs c W2 H2 σ vs as Fa := by
  induction r with
  | nil => exact .nil
  | cons h _ dd ih => exact .cons (h.later g d.left (st.imp id fun z i p q => z i p (q ▸ List.mem_cons_self))) (ih d.right (st.imp id fun z i p q => z i p (List.mem_cons_of_mem _ q))) dd
/-- no deep places among the arguments -/
def NPA (mas : Env → Res (List RV)) : Prop := ∀ e as e', mas e = .ok as e' → ∀ i p, RV.pl i p ∈ as → p = []
theorem callR_run {f : List O → CRes} {n : Nat} {vs : List V} {as : List RV} {Fa : List Addr} {Q : VK} (le : Le W H) (r : RVs c W H σ vs as Fa) (s : Slots c W H σ e F) (d : Disj F Fa) (hn : vs.length = n) (p : Pst c XW false (rRV c) W H σ (F ++ Fa) (callR f as e) Q) :
    spD c n f vs H Q (fun cls d H' => XW cls d σ H') := by
  unfold callR at p
  cases q : lend e as with
  | none => rw [q] at p; exact p.elim
  | some t =>
    obtain ⟨os, e3⟩ := t
    rw [q] at p
    obtain ⟨W1, F1, Fo, g, s1, r1, d1⟩ := lend_run le r s d q
    refine ⟨hn, W1, os, Fo, g.le, r1, ?_⟩
    dsimp only at p
    cases q2 : f os with
    | stuck => rw [q2] at p; exact p.elim
    | ok x outs =>
      rw [q2] at p
      intro W' H' v F' Fo' g' rl rv dj
      have dFo : Disj Fo F1 := d1.symm
      have s2 := s1.frame g' d1
      have d2 : Disj (F' ++ Fo') F1 := g'.disj (fun y hy => (s1.dom y hy).1) dFo
      obtain ⟨F3, s3, sub3⟩ := unlend_run r s2 rl d2.left.symm
      refine p W' H' v F3 Fo' ?_ (fun z => by cases z) s3 rv fun y hy hz => (sub3 y hy).elim (fun z => d2.right y hz z) fun z => dj y z hz
      have gg := g.trans ((g'.frame F1).more (G := F1 ++ Fo) fun y hy => (List.mem_append.mp hy).elim (List.mem_append_right _) (List.mem_append_left _))
      exact gg.less fun y hy => (List.mem_append.mp hy).elim (fun z => (sub3 y z).elim (List.mem_append_right _) fun z => List.mem_append_left _ (List.mem_append_left _ z)) fun z => List.mem_append_left _ (List.mem_append_right _ z)
    | err x outs =>
      rw [q2] at p
      intro W' H' F' cls dd g' rl rx
      have s2 := s1.frame g' d1
      have d2 : Disj F' F1 := g'.disj (fun y hy => (s1.dom y hy).1) d1.symm
      obtain ⟨F3, s3, sub3⟩ := unlend_run r s2 rl d2.symm
      refine p W' H' F3 cls dd ?_ s3 rx
      have gg := g.trans ((g'.frame F1).more (G := F1 ++ Fo) fun y hy => (List.mem_append.mp hy).elim (List.mem_append_right _) (List.mem_append_left _))
      exact gg.less fun y hy => (sub3 y hy).elim (List.mem_append_right _) (List.mem_append_left _)
theorem argsZ_run {n m : Nat} {ix : List Nat} {dds : List D} {dvs : List V} {k : List RV → Env → Res RV} {mas mks : Env → Res (List RV)} {Q : VK} {K : List V → Hp → Prop} (hdd : ∀ W, DatL c W dvs dds) (nd : ix.Nodup) (hlt : ∀ i ∈ ix, i < n + m + dds.length) (hp : b2 = true ∨ NPA mas)
    (hG : ∀ y ∈ G, H y ≠ none ∧ W y = none) (le : Le W H) (s : Slots c W H σ e F) (dG : Disj F G) (p : Pst c XW false (rRV c) W H σ (F ++ G) (argsZ n m ix dds k mas mks e) Q)
    (fin : ∀ W' H' e F' Fa xs as, Gr W H F W' H' (F' ++ Fa) → (b1 = true → b2 = true → Same H H') → Slots c W' H' σ e F' → RVs c W' H' σ xs as Fa → Disj F' Fa → Disj (F' ++ Fa) G → xs.length = ix.length → Pst c XW false (rRV c) W' H' σ ((F' ++ Fa) ++ G) (k as e) Q → K xs H') :
    TAr c XW b1 mas σ H fun vs H1 => TAr c XW b2 mks σ H1 fun zs H2 => vs.length = n ∧ zs.length = m ∧ K (arrange ix (vs ++ zs ++ dvs)) H2 := by
  refine Tr.then (b2 := false) le s dG hG p (fun z => by cases z) fun as e1 W1 H1 vs F1 Fa qa g1 sm1 s1 r1 d1 d1G hG1 p1 => ?_
  have p1 : Pst c XW false (rRV c) W1 H1 σ (F1 ++ (Fa ++ G)) ((mks e1).bind fun ks e2 => if as.length = n ∧ ks.length = m then k (arrange ix (as ++ ks ++ dds.map rv)) e2 else .stuck) Q := p1.more fun y hy => by simpa using hy
  have hG' : ∀ y ∈ Fa ++ G, H1 y ≠ none ∧ W1 y = none := fun y hy => (List.mem_append.mp hy).elim (r1.dom y) (hG1 y)
  have d1' : Disj F1 (Fa ++ G) := Disj.app' d1 d1G.left
  refine Tr.then (b2 := false) (G := Fa ++ G) g1.le s1 d1' hG' p1 (fun z => by cases z) fun ks e2 W2 H2 zs F2 Fb qb g2 sm2 s2 r2 d2 d3 hG2 p2 => ?_
  have r1' := r1.later g2 d1.symm (hp.elim (fun z => .inl (sm2 z)) fun z => .inr (z e as e1 qa))
  by_cases hl : as.length = n ∧ ks.length = m
  · rw [if_pos hl] at p2
    have rr : RVs c W2 H2 σ (vs ++ zs ++ dvs) (as ++ ks ++ dds.map rv) ((Fa ++ Fb) ++ []) := (r1'.append r2 fun y hy hz => d3.right y hz (List.mem_append_left _ hy)).append (RVs.vals (hdd W2)) Disj.nil_right
    obtain ⟨Fc, rc, subc⟩ := rr.arrange nd
    have subc' : ∀ y ∈ Fc, y ∈ Fa ∨ y ∈ Fb := fun y hy => by simpa using subc y hy
    have lv : vs.length = n := r1.length.trans hl.1
    have lz : zs.length = m := r2.length.trans hl.2
    have dF2c : Disj F2 Fc := fun y hy hz => (subc' y hz).elim (fun z => d3.left y hy (List.mem_append_left _ z)) fun z => d2 y hy z
    refine ⟨lv, lz, fin W2 H2 e2 F2 Fc _ _ ?_ (fun z1 z2 => (sm1 z1).trans (sm2 z2)) s2 rc dF2c ?_ (arrange_length fun i hi => ?_) ?_⟩
    · have gg := g1.trans ((g2.frame Fa).more (G := F1 ++ Fa) fun y hy => hy)
      exact gg.less fun y hy => (List.mem_append.mp hy).elim (fun z => List.mem_append_left _ (List.mem_append_left _ z)) fun z => (subc' y z).elim (List.mem_append_right _) fun z => List.mem_append_left _ (List.mem_append_right _ z)
    · exact fun y hy hz => (List.mem_append.mp hy).elim (fun z => d3.left y z (List.mem_append_right _ hz)) fun z => (subc' y z).elim (fun z => d1G.right y z hz) fun z => d3.right y z (List.mem_append_right _ hz)
    · have := hlt i hi
      rw [List.length_append, List.length_append, lv, lz, (hdd W2).length]
      exact this
    · exact p2.more fun y hy => by
        rcases List.mem_append.mp hy with hy | hy
        · rcases List.mem_append.mp hy with hy | hy
          · exact List.mem_append_left _ (List.mem_append_left _ hy)
          · exact (subc' y hy).elim (fun z => List.mem_append_right _ (List.mem_append_left _ z)) fun z => List.mem_append_left _ (List.mem_append_right _ z)
        · exact List.mem_append_right _ (List.mem_append_right _ hy)
  · rw [if_neg hl] at p2; exact p2.elim
end
end Z

set_option maxRecDepth 100000
set_option maxHeartbeats 2000000
/-! Z.fun: defs that run where no repr is under way -/
namespace Z
open PySem L2 PySem.Spec PyProof.Rows

structure FnG (P : Program) (w : World) (K : PySem.W.Frag) (mg : Str → Option Value) (base : Heap) (CX : CXT) (k : Nat) (f : Addr) (fd : FuncData) (ps : List Str) (sp : Sp) : Prop where
  len : ∀ vs H Q E, sp vs H Q E → vs.length = ps.length
  run : ∀ (A : Around) (outer : List PySem.Env) (s : Shared) (H : Hp) (args : Args) (us : List Value) (vs : List V) (Q : VK) (E : XK), Room k A → A.guards = some [] → Env0 P w K mg base A outer s H → BindsTo s fd args (ps.zip us) → Vals vs us → sp vs H Q E →
    codeAny (model P w) A (.call (.ref f) args) (CR CX outer P w H s Q E) s
section
variable {P : Program} {w : World} {K : PySem.W.Frag} {mg : Str → Option Value} {base : Heap} {CX : CXT} {j k : Nat} {f : Addr} {fd : FuncData} {ps : List Str} {sp sp' : Sp}
theorem FnG.mono (F : FnG P w K mg base CX j f fd ps sp) (h : j ≤ k) : FnG P w K mg base CX k f fd ps sp := ⟨F.len, fun A outer s H args us vs Q E hr => F.run A outer s H args us vs Q E (hr.mono h)⟩
theorem FnG.imp (F : FnG P w K mg base CX k f fd ps sp) (h : ∀ vs H Q E, sp' vs H Q E → sp vs H Q E) : FnG P w K mg base CX k f fd ps sp' :=
  ⟨fun vs H Q E q => F.len vs H Q E (h _ _ _ _ q), fun A outer s H args us vs Q E hr hg he hb hv hs => F.run A outer s H args us vs Q E hr hg he hb hv (h _ _ _ _ hs)⟩
theorem deeper_guards {A : Around} {env : PySem.Env} : (A.deeper env).guards = A.guards := rfl
/-- THE RULE for a def -/
theorem fnG_of {name qual : Str} {params : Arguments} {body : List Stmt} {scope : Scope} {dV kV doc pm cdv ct oc : Value} {an od : Option Addr} {osl : Array (Option Value)} {N : List Str}
    (lk : K.lookup f = some ⟨oc, od, .func (PySem.W.fnOf name qual params body scope dV kV doc pm an cdv ct), osl⟩) (hcd : PySem.W.codeIn K cdv qual = true) (S : FnScope N ps scope) (len : ∀ vs H Q E, sp vs H Q E → vs.length = ps.length)
    (hbody : ∀ (A : Around) (outer : List PySem.Env) (s : Shared) (H : Hp) (vs : List V) (Q : VK) (E : XK), Room k (A.deeper (envOfC qual scope s.heap.objs.size f cdv)) → A.guards = some [] → sp vs H Q E →
      ∃ t, PSs (cxOf CX P w K mg base N qual scope f cdv A outer s H E) body t ∧ t { nx := fun _ H' => Q .non H', rt := Q } (L2.start N vs) H) :
    FnG P w K mg base CX (k + 1) f (PySem.W.fnOf name qual params body scope dV kV doc pm an cdv ct) ps sp := by
  refine ⟨len, fun A outer s H args us vs Q E hr hgd e0 hb r hsp => ?_⟩
  have hl := len _ _ _ _ hsp
  have KX : K.In s.heap := e0.mod.kin.keeps fun b o e => (e0.bs b o e).1
  have lim : s.heap.NoLimit := e0.mod.nolimit.keeps fun b o e => (e0.bs b o e).1
  have hkind : ∀ y ∈ ps.zip us, scope.names.lookup y.1 = some .local ∨ (scope.names.lookup y.1 = some .cell ∧ ((cellsFrom (s.heap.objs.size + 1) scope.names []).lookup y.1).isSome = true) := fun ⟨n, v⟩ hy => by
    rcases S.par n (List.of_mem_zip hy).1 with q | q
    · exact .inl q
    · exact .inr ⟨q, PySem.W.cellsFrom_some _ _ _ (.inl q)⟩
  refine codeAny_call_function hr.depth (KX _ _ lk) rfl S.co S.gen rfl (PySem.W.codeRec_of KX hcd) (hb _ _ _ _ ?_)
  refine wpAny_newFunctionEnv_cells S.kind hkind fun env he s1 x => ?_
  subst he
  refine ⟨lim.keeps x.toInCall.keep, codeAny_func ?_⟩
  obtain ⟨t, ht, hq⟩ := hbody A outer s H vs Q E (hr.deeper _) hgd hsp
  have I : Inv (cxOf CX P w K mg base N qual scope f cdv A outer s H E) [] (L2.start N vs) H s1 := inv_start S hr.hd e0 hl r x
  refine wpAny_mono (ht.run [] s1 (L2.start N vs) H _ I hq) (fun fl s' hs => ?_) fun e s' hs => hs
  have fin : ∀ {σ' : L2.St} {H' : Hp} {v : V} {u : Value}, Inv (cxOf CX P w K mg base N qual scope f cdv A outer s H E) [] σ' H' s' → RelV v u → Q v H' → CE outer P w H s Q u s' := fun {σ' H' v u} J rv q => ⟨v, H', J.os, J.bare, J.base, J.hok, rv, q⟩
  cases fl with
  | ret u =>
    obtain ⟨v, σ', H', J, rv, q⟩ := hs
    exact fin J rv q
  | next =>
    obtain ⟨σ', H', J, q⟩ := hs
    exact fin (v := V.non) (u := Value.none) J rfl q
  | brk =>
    obtain ⟨_, _, _, q⟩ := hs
    exact False.elim q
  | cont =>
    obtain ⟨_, _, _, q⟩ := hs
    exact False.elim q
/-- a body's context -/
abbrev Bx (P : Program) (w : World) (K : PySem.W.Frag) (mg : Str → Option Value) (base : Heap) (N : List Str) (qual : Str) (scope : Scope) (f : Addr) (cdv : Value) (A : Around) (outer : List PySem.Env) (s : Shared) (H : Hp) (E : XK) : Cx := cxOf (L2.CX P w) P w K mg base N qual scope f cdv A outer s H E
def eX (E : XK) : WX := fun cls d _ H => E cls d H
theorem bx_tk {N : List Str} {qual : Str} {scope : Scope} {cdv : Value} {A : Around} {outer : List PySem.Env} {s : Shared} {H : Hp} {E : XK} : Takes (Bx P w K mg base N qual scope f cdv A outer s H E) (eX E) := takes_of rfl rfl rfl rfl
theorem bx_hp {N : List Str} {qual : Str} {scope : Scope} {cdv : Value} {A : Around} {outer : List PySem.Env} {s : Shared} {H : Hp} {E : XK} : HP (Bx P w K mg base N qual scope f cdv A outer s H E) (eX E) := HP.of_takes bx_tk rfl rfl
theorem bx_po {N : List Str} {qual : Str} {scope : Scope} {cdv : Value} {A : Around} {outer : List PySem.Env} {s : Shared} {H : Hp} {E : XK} : PassesOwn (model P w) (Bx P w K mg base N qual scope f cdv A outer s H E).A (Bx P w K mg base N qual scope f cdv A outer s H E).env (Bx P w K mg base N qual scope f cdv A outer s H E).xe := passes_of rfl
/-- a def by its denotation -/
theorem fnG_mk {c : Cf} {x qual : Str} {params : Arguments} {body : List Stmt} {scope : Scope} {dvs : List V} {kws : List (Str × V)} {N : List Str} {pin : List Nat} {m : Env → SRes} (F : FunD K x qual params body scope dvs kws f fd) (Sc : FnScope N ps scope)
    (hbody : ∀ (cdv : Value) (A : Around) (outer : List PySem.Env) (s : Shared) (H : Hp) (E : XK) (σ0 : L2.St), Room k (A.deeper (envOfC qual scope s.heap.objs.size f cdv)) → A.guards = some [] → PSs (Bx P w K mg base N qual scope f cdv A outer s H E) body (S c (eX E) pin σ0 m)) :
    FnG P w K mg base (L2.CX P w) (k + 1) f fd ps (spD c ps.length (fnD N.length pin m)) := by
  obtain ⟨oc, od, dV, kV, doc, pm, an, cdv, ct, osl, rfl, lk, hcd, _, _⟩ := F.ex
  refine fnG_of lk hcd Sc (fun vs H Q E h => h.1) fun A outer s H vs Q E hr hg hsp => ?_
  exact ⟨_, hbody cdv A outer s H E (L2.start N vs) hr hg, body_run hsp⟩
end
end Z

set_option maxRecDepth 100000
set_option maxHeartbeats 2000000
/-! Z.calls: the rules of calls -/
namespace Z
open PySem L2 PySem.Spec PyProof.Rows

/-- a call's written part: n values, keywords ks -/
structure PCl (X : Cx) (pos : Pos) (es : List Expr) (kws : List Keyword) (ks : List Str) (t tk : TA) : Prop where
  run : ∀ (pins : List (Addr × Obj)) (s : Shared) (σ : L2.St) (H : Hp) (R : List V → List V → Hp → Prop) (f : Value) (first : List Value) (Qf : Value → Shared → Prop), Inv X pins σ H s → PySem.W.keepIn X.K f = true →
    t σ H (fun vs H1 => tk σ H1 fun zs H2 => R vs zs H2) →
    (∀ s' us ws vs zs H', Inv X pins σ H' s' → Vals vs us → Vals zs ws → R vs zs H' → wpAny (model X.prog X.w) X.A (call f (first ++ us) (ks.zip ws)) Qf X.xe s') →
    wpAny (model X.prog X.w) X.A (callWith pos f first (backTo pos (starEach es X.env)) (backToKw pos (keywordEach kws X.env))) Qf X.xe s
section
variable {X : Cx} {pos : Pos} {e : Expr} {es : List Expr} {kws : List Keyword} {ks : List Str} {t tk : TA}
theorem zip_nil {ks : List Str} {ws : List Value} (h : ks = []) : ks.zip ws = [] := by rw [h]; rfl
theorem pcl (ha : PA X (e :: es) t) (htk : ∀ σ H Q, tk σ H Q → Q [] H) (he : starEach (e :: es) X.env = (false, eval e X.env) :: starEach es X.env := by rfl) (hpl : (backTo pos (starEach es X.env)).any (·.1) = false := by rfl) : PCl X pos (e :: es) [] [] t tk :=
  ⟨fun pins s σ H R f first Qf I hk h fin => PySem.W.callWith_K (h₀ := X.base) I.ok.mod.kin hk (thn (ha.run pos pins s σ H _ I h) fun us s1 ⟨vs, H1, I1, r, q⟩ => ⟨I1.kIn, fin s1 us [] vs [] H1 I1 r .nil (htk _ _ _ q)⟩) he hpl⟩
theorem pcl0 (ht : ∀ σ H Q, t σ H Q → Q [] H) (htk : ∀ σ H Q, tk σ H Q → Q [] H) : PCl X pos [] [] [] t tk :=
  ⟨fun pins s σ H R f first Qf I hk h fin => PySem.W.callWith_K0 I.kIn hk (fin s [] [] [] [] H I .nil .nil (htk _ _ _ (ht _ _ _ h)))⟩
theorem pclK (ha : PA X (e :: es) t) (hkw : PK X kws tk) (hall : (backToKw pos (keywordEach kws X.env)).all (·.1.isSome) = true := by rfl) (hks : (backToKw pos (keywordEach kws X.env)).filterMap (·.1) = ks := by rfl)
    (he : starEach (e :: es) X.env = (false, eval e X.env) :: starEach es X.env := by rfl) (hpl : ((backTo pos (starEach (e :: es) X.env)).any (·.1) || (backToKw pos (keywordEach kws X.env)).any (·.1.isNone)) = false := by rfl) : PCl X pos (e :: es) kws ks t tk :=
  ⟨fun pins s σ H R f first Qf I hk h fin => PySem.W.callWith_KW (h₀ := X.base) I.ok.mod.kin hk hall (thn (ha.run pos pins s σ H _ I h) fun us s1 ⟨vs, H1, I1, r, q⟩ =>
    thn (hkw.run pos pins s1 σ H1 _ I1 q) fun ws s2 ⟨zs, H2, I2, rz, q2⟩ => ⟨I2.kIn, by rw [hks]; exact fin s2 us ws vs zs H2 I2 r rz q2⟩) hpl he⟩
theorem pclK0 (ht : ∀ σ H Q, t σ H Q → Q [] H) (hkw : PK X kws tk) (hall : (backToKw pos (keywordEach kws X.env)).all (·.1.isSome) = true := by rfl) (hks : (backToKw pos (keywordEach kws X.env)).filterMap (·.1) = ks := by rfl)
    (hpl : ((backTo pos (starEach [] X.env)).any (·.1) || (backToKw pos (keywordEach kws X.env)).any (·.1.isNone)) = false := by rfl) : PCl X pos [] kws ks t tk :=
  ⟨fun pins s σ H R f first Qf I hk h fin => PySem.W.callWith_KW0 (h₀ := X.base) I.ok.mod.kin hk hall (thn (hkw.run pos pins s σ H _ I (ht _ _ _ h)) fun ws s2 ⟨zs, H2, I2, rz, q2⟩ => ⟨I2.kIn, by rw [hks]; exact fin s2 [] ws [] zs H2 I2 .nil rz q2⟩) hpl⟩
end

section
variable {X : Cx} {c : Cf} {XW : WX} {σ : L2.St} {W H : Hp} {k n m : Nat} {ps ks : List Str} {sp : Sp} {f C : Addr} {fd : FuncData} {g : List Value → List Value → List Value} {gV : List V → List V → List V} {ix : List Nat} {dvs : List V} {dds : List D}
variable {b b1 b2 : Bool} {mas mks : Env → Res (List RV)} {x mt : Str} {p pos apos : Pos} {e o : Expr} {es : List Expr} {kws : List Keyword} {F : List O → CRes}
/-- the callee runs -/
theorem run_fnZ {pins : List (Addr × Obj)} {s : Shared} {Q : VK} {E : XK} {us ws : List Value} {vs zs : List V} (Fn : FnG X.prog X.w X.K X.mg X.base (L2.CX X.prog X.w) k f fd ps sp) (hr : Room k X.A) (hgd : X.A.guards = some []) (hb : KBn X.K fd ps n ks g gV) (hx : PassesAt (L2.CX X.prog X.w) X σ E)
    (I : Inv X pins σ H s) (r : Vals vs us) (rz : Vals zs ws) (l1 : vs.length = n) (l2 : zs.length = ks.length) (h : sp (gV vs zs) H Q E) : wpAny (model X.prog X.w) X.A (call (.ref f) us (ks.zip ws)) (EP X pins σ Q) X.xe s := by
  have r2 := hb.rel r rz
  refine wpAny_call (codeAny_mono (Fn.run X.A X.stack s H ⟨us, ks.zip ws⟩ (g us ws) (gV vs zs) Q E hr hgd I.env0 (hb.to s us ws I.kIn (r.length.symm.trans l1) (rz.length.symm.trans l2)) r2 h) fun r s' hq => ?_)
  cases r with
  | error e => exact hx pins H s e s' I hq
  | ok fl =>
    cases fl with
    | ret u => exact I.after hq
    | next => exact False.elim hq
    | brk => exact False.elim hq
    | cont => exact False.elim hq
theorem make_guards {A : Around} {C : Addr} {us : List Value} {kw : List (Str × Value)} : (A.under (.builtin "type.__call__" ⟨.ref C :: us, kw⟩)).guards = A.guards := by
  have e : (Code.builtin "type.__call__" ⟨.ref C :: us, kw⟩).guards = [] := by
    unfold Code.guards
    have : (Code.builtin "type.__call__" ⟨.ref C :: us, kw⟩).isGuard = false := by
      show guardIds.contains "type.__call__" = false
      decide +kernel
    rw [this]; rfl
  unfold Around.under
  rw [e]
  cases A.guards <;> rfl
theorem run_makeZ {pins : List (Addr × Obj)} {s : Shared} {Q : VK} {E : XK} {us ws : List Value} {vs zs : List V} (M : Mk X.K C f) (Fn : FnG X.prog X.w X.K X.mg X.base (L2.CX X.prog X.w) k f fd ps sp) (hr : Room (k + 1) X.A) (hgd : X.A.guards = some []) (hb : KBn X.K fd ps (n + 1) ks g gV) (hx : PassesAt (L2.CX X.prog X.w) X σ E)
    (I : Inv X pins σ H s) (r : Vals vs us) (rz : Vals zs ws) (l1 : vs.length = n) (l2 : zs.length = ks.length)
    (h : ∀ x dx, H x = none → H dx = none → dx ≠ x → sp (gV (.ref x :: vs) zs) (upd (upd H dx (.own x)) x (.ins C dx [])) (fun v H2 => v = .non ∧ Q (.ref x) H2) E)
 :
    wpAny (model X.prog X.w) X.A (call (.ref C) us (ks.zip ws)) (EP X pins σ Q) X.xe s := by
  have hq := h (s.heap.objs.size + 1) s.heap.objs.size (I.hok.fresh (Nat.le_succ _)) (I.hok.fresh (Nat.le_refl _)) (Nat.ne_of_lt (Nat.lt_succ_self _))
  have I2 := Inv.made (C := C) I
  have r1 : Vals (V.ref (s.heap.objs.size + 1) :: vs) (Value.ref (s.heap.objs.size + 1) :: us) := .cons rfl r
  have r2 := hb.rel r1 rz
  have n1 : (Value.ref (s.heap.objs.size + 1) :: us).length = n + 1 := by rw [List.length_cons, ← r.length, l1]
  refine wpAny_call (make_map (f := f) I.kIn M.makes M.init (beq_iff_eq.mp M.fn) (codeAny_mono (Fn.run _ X.stack _ _ ⟨Value.ref (s.heap.objs.size + 1) :: us, ks.zip ws⟩ (g (Value.ref (s.heap.objs.size + 1) :: us) ws) _ _ E (hr.make C us (ks.zip ws)) (make_guards.trans hgd)
    (I2.env0.make C us (ks.zip ws)) (hb.to _ (Value.ref (s.heap.objs.size + 1) :: us) ws I2.kIn n1 (rz.length.symm.trans l2)) r2 hq) fun r s' hq' => ?_))
  cases r with
  | error e => exact hx pins _ _ e s' I2 hq'
  | ok fl =>
    cases fl with
    | ret u =>
      obtain ⟨v, H', I3, rv, ev, q3⟩ := I2.after hq'
      subst ev
      exact ⟨rv, ⟨V.ref (s.heap.objs.size + 1), H', I3, rfl, q3⟩⟩
    | next => exact False.elim hq'
    | brk => exact False.elim hq'
    | cont => exact False.elim hq'

theorem lookD_none {κ : Type} [DecidableEq κ] {k : κ} : ∀ {kvs : List (κ × V)} {ds : List (κ × D)}, kvs.map (·.1) = ds.map (·.1) → (lookD k ds).isNone = true → lookV k kvs = none
  | [], _, _, _ => rfl
  | p :: r, [], h, _ => by cases h
  | p :: r, q :: ds, h, hn => by
    have e1 : p.1 = q.1 := (List.cons.inj h).1
    unfold lookD at hn
    rw [show q = (q.1, q.2) from rfl] at hn
    dsimp only at hn
    unfold lookV
    rw [show p = (p.1, p.2) from rfl]
    dsimp only
    by_cases z : q.1 = k
    · rw [if_pos z] at hn; cases hn
    · rw [if_neg z] at hn
      rw [if_neg (by rw [e1]; exact z)]
      exact lookD_none (List.cons.inj h).2 hn
theorem look1_none {κ : Type} [DecidableEq κ] {k : κ} : ∀ {kvs : List (κ × V)} {ds : List (κ × O)}, kvs.map (·.1) = ds.map (·.1) → (look1 k ds).isNone = true → lookV k kvs = none
  | [], _, _, _ => rfl
  | p :: r, [], h, _ => by cases h
  | p :: r, q :: ds, h, hn => by
    have e1 : p.1 = q.1 := (List.cons.inj h).1
    unfold look1 at hn
    rw [show q = (q.1, q.2) from rfl] at hn
    dsimp only at hn
    unfold lookV
    rw [show p = (p.1, p.2) from rfl]
    dsimp only
    by_cases z : q.1 = k
    · rw [if_pos z] at hn; cases hn
    · rw [if_neg z] at hn
      rw [if_neg (by rw [e1]; exact z)]
      exact look1_none (List.cons.inj h).2 hn
/-- the call's facts: defaults, order -/
structure Sh1 (c : Cf) (n m : Nat) (ix : List Nat) (dvs : List V) (dds : List D) (gV : List V → List V → List V) : Prop where
  dd : ∀ W, DatL c W dvs dds
  nd : ix.Nodup
  lt : ∀ i ∈ ix, i < n + m + dds.length
  gv : ∀ vs zs, vs.length = n → zs.length = m → gV vs zs = arrange ix (vs ++ zs ++ dvs)
theorem nilG' {W H : Hp} : ∀ y ∈ ([] : List Addr), H y ≠ none ∧ W y = none := fun _ z => absurd z List.not_mem_nil
theorem callZ_run {Q : VK} (sh : Sh1 c n m ix dvs dds gV) (hp : b2 = true ∨ NPA mas) (h : T c XW false (callZ n m ix dds F mas mks) σ H Q) :
    TAr c XW b1 mas σ H fun vs H1 => TAr c XW b2 mks σ H1 fun zs H2 => vs.length = n ∧ zs.length = m ∧ spD c ix.length F (gV vs zs) H2 Q (fun cls d H' => XW cls d σ H') := by
  obtain ⟨W, e, Fs, le, s, p⟩ := h
  have := argsZ_run (G := []) (K := fun l H2 => spD c ix.length F l H2 Q (fun cls d H' => XW cls d σ H')) (b1 := b1) (b2 := b2) sh.dd sh.nd sh.lt hp nilG' le s Disj.nil_right (by rw [List.append_nil]; exact p)
    fun W' H' e F' Fa xs as g _ s r d _ hl p => callR_run g.le r s d hl (by rw [List.append_nil] at p; exact p)
  obtain ⟨W0, e0, F0, le0, s0, p0⟩ := this
  refine ⟨W0, e0, F0, le0, s0, ?_⟩
  have cv : ∀ vs H1, (TAr c XW b2 mks σ H1 fun zs H2 => vs.length = n ∧ zs.length = m ∧ spD c ix.length F (arrange ix (vs ++ zs ++ dvs)) H2 Q (fun cls d H' => XW cls d σ H')) →
      TAr c XW b2 mks σ H1 fun zs H2 => vs.length = n ∧ zs.length = m ∧ spD c ix.length F (gV vs zs) H2 Q (fun cls d H' => XW cls d σ H') := fun vs H1 ⟨W, e, F', le, s, p⟩ => by
    refine ⟨W, e, F', le, s, ?_⟩
    cases q : mks e with
    | ok a e1 =>
      rw [q] at p
      intro W' H' v F1 Fo g sm sl r d
      obtain ⟨h1, h2, h3⟩ := p W' H' v F1 Fo g sm sl r d
      exact ⟨h1, h2, by rw [sh.gv vs v h1 h2]; exact h3⟩
    | err x e1 => rw [q] at p; exact p
    | stuck => rw [q] at p; exact p
  cases q : mas e0 with
  | ok a e1 =>
    rw [q] at p0
    exact fun W' H' v F1 Fo g sm sl r d => cv v H' (p0 W' H' v F1 Fo g sm sl r d)
  | err x e1 => rw [q] at p0; exact p0
  | stuck => rw [q] at p0; exact p0
/-- f(..) -/
theorem d_call (hp : HP X XW) (Fn : FnG X.prog X.w X.K X.mg X.base (L2.CX X.prog X.w) k f fd ps (spD c ix.length F)) (hr : Room k X.A) (hgd : X.A.guards = some []) (hm : X.mg x = some (.ref f)) (hk : PySem.W.keepIn X.K (.ref f) = true) (hb : KBn X.K fd ps n ks g gV) (sh : Sh1 c n ks.length ix dvs dds gV)
    (hc : PCl X pos es kws ks (TAr c XW b1 mas) (TAr c XW b2 mks)) (hnp : b2 = true ∨ NPA mas := by exact .inl rfl) (hg : Gl X x := by rfl) (hdb : (x == ("__debug__" : Str)) = false := by decide) :
    PE X (.Call (.Name x p) es kws pos) (T c XW false (callZ n ks.length ix dds F mas mks)) := by
  refine ⟨fun pins s σ H Q I h => ?_⟩
  refine wpAny_Call_Name_kw (ld_glob I hg hm ?_ hdb)
  exact hc.run pins s σ H _ (.ref f) [] _ I hk (callZ_run sh hnp h) fun s' us ws vs zs H' I' r rz ⟨l1, l2, q⟩ => run_fnZ Fn hr hgd hb (hp.pass σ) I' r rz l1 l2 q
/-! keywords -/
theorem nilA_run {Q : List V → Hp → Prop} : TAr c XW true nilA σ H Q → Q [] H := fun ⟨W, e, F, le, s, p⟩ => p W H [] F [] (by rw [List.append_nil]; exact Gr.refl le) (fun _ => Same.refl _) s .nil Disj.nil_right
theorem pk_imp {kws : List Keyword} {t t' : TA} (h : PK X kws t) (k : ∀ σ H Q, t' σ H Q → t σ H Q) : PK X kws t' := ⟨fun pos pins s σ H Q I hw => h.run pos pins s σ H Q I (k σ H Q hw)⟩
theorem k_nil : PK X [] (TAr c XW true nilA) := pk_imp pk_nil fun σ H Q h => nilA_run h
theorem k_cons {ma : Env → Res RV} {mr : Env → Res (List RV)} {nm : Option Str} {kpos : Pos} (ha : PE X e (T c XW b1 ma)) (hr : PK X kws (TAr c XW b2 mr)) (hp : b2 = true := by rfl) : PK X (⟨nm, e, kpos⟩ :: kws) (TAr c XW (b1 && b2) (consA ma mr)) :=
  pk_imp (pk_cons ha hr) fun σ H Q => a_run (fun z => by simpa using z) (.inl hp)
theorem k_consE {ma : Env → Res RV} {mr : Env → Res (List RV)} {nm : Option Str} {kpos : Pos} (ha : PE X e (T c XW b1 ma)) (hr : PK X kws (TAr c XW b2 mr)) (hp : NP ma) : PK X (⟨nm, e, kpos⟩ :: kws) (TAr c XW false (consA ma mr)) :=
  pk_imp (pk_cons ha hr) fun σ H Q => a_run (fun z => by cases z) (.inr hp)
theorem cl_p {mr : Env → Res (List RV)} (ha : PA X (e :: es) (TAr c XW b1 mr)) (he : starEach (e :: es) X.env = (false, eval e X.env) :: starEach es X.env := by rfl) (hpl : (backTo pos (starEach es X.env)).any (·.1) = false := by rfl) : PCl X pos (e :: es) [] [] (TAr c XW b1 mr) (TAr c XW true nilA) := pcl ha (fun _ _ _ h => nilA_run h) he hpl
theorem cl_0 : PCl X pos [] [] [] (TAr c XW true nilA) (TAr c XW true nilA) := pcl0 (fun _ _ _ h => nilA_run h) (fun _ _ _ h => nilA_run h)
theorem cl_k {mr mk : Env → Res (List RV)} (ha : PA X (e :: es) (TAr c XW b1 mr)) (hkw : PK X kws (TAr c XW b2 mk)) (hall : (backToKw pos (keywordEach kws X.env)).all (·.1.isSome) = true := by rfl) (hks : (backToKw pos (keywordEach kws X.env)).filterMap (·.1) = ks := by rfl)
    (he : starEach (e :: es) X.env = (false, eval e X.env) :: starEach es X.env := by rfl) (hpl : ((backTo pos (starEach (e :: es) X.env)).any (·.1) || (backToKw pos (keywordEach kws X.env)).any (·.1.isNone)) = false := by rfl) : PCl X pos (e :: es) kws ks (TAr c XW b1 mr) (TAr c XW b2 mk) := pclK ha hkw hall hks he hpl
theorem cl_k0 {mk : Env → Res (List RV)} (hkw : PK X kws (TAr c XW b2 mk)) (hall : (backToKw pos (keywordEach kws X.env)).all (·.1.isSome) = true := by rfl) (hks : (backToKw pos (keywordEach kws X.env)).filterMap (·.1) = ks := by rfl)
    (hpl : ((backTo pos (starEach [] X.env)).any (·.1) || (backToKw pos (keywordEach kws X.env)).any (·.1.isNone)) = false := by rfl) : PCl X pos [] kws ks (TAr c XW true nilA) (TAr c XW b2 mk) := pclK0 (fun _ _ _ h => nilA_run h) hkw hall hks hpl

/-! new instances -/
theorem Tr.imp {α β : Type} {rel : L2.St → Hp → Hp → β → α → List Addr → Prop} {ma : Env → Res α} {K K' : β → Hp → Prop} (h : Tr c XW b rel ma σ H K) (k : ∀ v H1, K v H1 → K' v H1) : Tr c XW b rel ma σ H K' := by
  obtain ⟨W, e, F, le, s, p⟩ := h
  refine ⟨W, e, F, le, s, ?_⟩
  cases q : ma e with
  | ok a e1 => rw [q] at p; exact fun W' H' v F1 Fo g sm sl r d => k v H' (p W' H' v F1 Fo g sm sl r d)
  | err x e1 => rw [q] at p; exact p
  | stuck => rw [q] at p; exact p
structure Sh2 (c : Cf) (n m : Nat) (ix : List Nat) (dvs : List V) (dds : List D) (gV : List V → List V → List V) : Prop where
  dd : ∀ W, DatL c W dvs dds
  nd : ix.Nodup
  lt : ∀ i ∈ ix, i < n + m + dds.length
  gv : ∀ x vs zs, vs.length = n → zs.length = m → gV (x :: vs) zs = x :: arrange ix (vs ++ zs ++ dvs)
theorem makeF_run {kc : Nat} {H0 : Hp} {Fs Fa : List Addr} {e : Env} {xs : List V} {as : List RV} {Q : VK} (le : Le W H) (s : Slots c W H σ e Fs) (r : RVs c W H σ xs as Fa) (d : Disj Fs Fa) (hl : xs.length = n) (p : Pst c XW false (rRV c) W H σ (Fs ++ Fa) (makeF kc F as e) Q) :
    ∀ x dx, H x = none → H dx = none → dx ≠ x → spD c (n + 1) F (.ref x :: xs) (upd (upd H dx (.own x)) x (.ins (c.cls kc) dx [])) (fun v H2 => v = .non ∧ Q (.ref x) H2) (fun cls d H' => XW cls d σ H') := by
  intro x dx hx hdx hne
  unfold makeF at p
  cases q : lend e as with
  | none => rw [q] at p; exact p.elim
  | some t =>
    obtain ⟨os, e3⟩ := t
    rw [q] at p
    dsimp only at p
    obtain ⟨W1, F1, Fo, g, s1, r1, d1⟩ := lend_run le r s d q
    have hx2 : upd H dx (.own x) x = none := by rw [upd_ne (Ne.symm hne)]; exact hx
    have ga : Gr W1 H [] W1 (upd H dx (.own x)) [] := (Gr.alloc (F := []) g.le hdx).less fun _ z => absurd z List.not_mem_nil
    have gb : Gr W1 (upd H dx (.own x)) [] W1 (upd (upd H dx (.own x)) x (.ins (c.cls kc) dx [])) [x] := Gr.alloc (F := []) ga.le hx2
    have gn := ga.trans gb
    have s2 := s1.frame gn Disj.nil_right
    have r2 := r1.frame gn Disj.nil_right
    have hWx : W1 x = none := g.le.free hx
    have nFo : ∀ y ∈ Fo, y ≠ x := fun y hy z => (r1.dom y hy).1 (z ▸ hx)
    have nF1 : ∀ y ∈ F1, y ≠ x := fun y hy z => (s1.dom y hy).1 (z ▸ hx)
    have ro : Rep c W1 (upd (upd H dx (.own x)) x (.ins (c.cls kc) dx [])) (.ref x) (.obj kc []) [x] := .obj upd_same hWx rfl .nil List.not_mem_nil
    have rl : RepL c W1 (upd (upd H dx (.own x)) x (.ins (c.cls kc) dx [])) (.ref x :: xs) (.obj kc [] :: os) ([x] ++ Fo) := .cons ro r2 fun y hy hz => nFo y hz (List.mem_singleton.mp hy)
    have dsx : Disj F1 ([x] ++ Fo) := fun y hy hz => (List.mem_append.mp hz).elim (fun z => nF1 y hy (List.mem_singleton.mp z)) fun z => d1 y hy z
    have gg : Gr W H (Fs ++ Fa) W1 (upd (upd H dx (.own x)) x (.ins (c.cls kc) dx [])) (([x] ++ Fo) ++ F1) := (g.trans ((gn.frame (F1 ++ Fo)).more (G := F1 ++ Fo) fun y hy => by simpa using hy)).less fun y hy => by
      rcases List.mem_append.mp hy with hy | hy
      · rcases List.mem_append.mp hy with hy | hy
        · exact List.mem_append_left _ hy
        · exact List.mem_append_right _ (List.mem_append_right _ hy)
      · exact List.mem_append_right _ (List.mem_append_left _ hy)
    refine ⟨by simp [hl], W1, _, _, gn.le, rl, ?_⟩
    cases q2 : F (.obj kc [] :: os) with
    | stuck => rw [q2] at p; exact p.elim
    | ok y outs =>
      rw [q2] at p
      intro W' H' v F' Fo' g' rl' rv dj
      cases rl' with
      | @cons _ _ self outs F2 G2 rs rk dk =>
        have hy : y = .val .non := by
          cases y with
          | val dd => cases dd <;> first | rfl | exact p.elim
          | _ => exact p.elim
        subst hy
        cases rv with
        | val hv =>
          cases hv
          have p : Pst c XW false (rRV c) W H σ (Fs ++ Fa) (.ok (.tmp self) (unlend e3 as outs)) Q := p
          refine ⟨rfl, ?_⟩
          have s3 := s2.frame g' dsx
          have d2 : Disj ((F2 ++ G2) ++ []) F1 := g'.disj (fun y hy => (s2.dom y hy).1) dsx.symm
          rw [List.append_nil] at d2
          obtain ⟨F3, s4, sub3⟩ := unlend_run r s3 rk d2.right.symm
          refine p W' H' (.ref x) F3 F2 ?_ (fun z => by cases z) s4 rs fun y hy hz => (sub3 y hy).elim (fun z => d2.left y hz z) fun z => dk y hz z
          exact (gg.trans (g'.frame F1)).less fun y hy => (List.mem_append.mp hy).elim (fun z => (sub3 y z).elim (List.mem_append_right _) fun z => List.mem_append_left _ (by rw [List.append_nil]; exact List.mem_append_right _ z)) fun z => List.mem_append_left _ (by rw [List.append_nil]; exact List.mem_append_left _ z)
    | err y outs =>
      rw [q2] at p
      intro W' H' F' cls dd g' rl' rx
      cases rl' with
      | @cons _ _ self outs F2 G2 rs rk dk =>
        have p : Pst c XW false (rRV c) W H σ (Fs ++ Fa) (.err y (unlend e3 as outs)) Q := p
        have s3 := s2.frame g' dsx
        have d2 : Disj (F2 ++ G2) F1 := g'.disj (fun y hy => (s2.dom y hy).1) dsx.symm
        obtain ⟨F3, s4, sub3⟩ := unlend_run r s3 rk d2.right.symm
        exact p W' H' F3 cls dd ((gg.trans (g'.frame F1)).less fun y hy => (sub3 y hy).elim (List.mem_append_right _) fun z => List.mem_append_left _ (List.mem_append_right _ z)) s4 rx
/-- C(..) -/
theorem d_make {kc : Nat} (hp : HP X XW) (M : Mk X.K (c.cls kc) f) (Fn : FnG X.prog X.w X.K X.mg X.base (L2.CX X.prog X.w) k f fd ps (spD c (ix.length + 1) F)) (hr : Room (k + 1) X.A) (hgd : X.A.guards = some []) (hm : X.mg x = some (.ref (c.cls kc))) (hb : KBn X.K fd ps (n + 1) ks g gV) (sh : Sh2 c n ks.length ix dvs dds gV)
    (hc : PCl X pos es kws ks (TAr c XW b1 mas) (TAr c XW b2 mks)) (hnp : b2 = true ∨ NPA mas := by exact .inl rfl) (hg : Gl X x := by rfl) (hdb : (x == ("__debug__" : Str)) = false := by decide) :
    PE X (.Call (.Name x p) es kws pos) (T c XW false (makeZ kc n ks.length ix dds F mas mks)) := by
  refine ⟨fun pins s σ H Q I h => ?_⟩
  refine wpAny_Call_Name_kw (ld_glob I hg hm ?_ hdb)
  have run : TAr c XW b1 mas σ H fun vs H1 => TAr c XW b2 mks σ H1 fun zs H2 => vs.length = n ∧ zs.length = ks.length ∧ ∀ x dx, H2 x = none → H2 dx = none → dx ≠ x → spD c (ix.length + 1) F (gV (.ref x :: vs) zs) (upd (upd H2 dx (.own x)) x (.ins (c.cls kc) dx [])) (fun v H3 => v = .non ∧ Q (.ref x) H3) (fun cls d H' => XW cls d σ H') := by
    obtain ⟨W, e, Fs, le, s, p⟩ := h
    have := argsZ_run (G := []) (K := fun l H2 => ∀ x dx, H2 x = none → H2 dx = none → dx ≠ x → spD c (ix.length + 1) F (.ref x :: l) (upd (upd H2 dx (.own x)) x (.ins (c.cls kc) dx [])) (fun v H3 => v = .non ∧ Q (.ref x) H3) (fun cls d H' => XW cls d σ H')) (b1 := b1) (b2 := b2)
      sh.dd sh.nd sh.lt hnp nilG' le s Disj.nil_right (by rw [List.append_nil]; exact p)
      fun W' H' e F' Fa xs as g _ s r d _ hl p => makeF_run (H0 := H) g.le s r d hl (by rw [List.append_nil] at p; exact p)
    exact Tr.imp this fun vs H1 h1 => Tr.imp h1 fun zs H2 ⟨l1, l2, h2⟩ => ⟨l1, l2, fun x dx a1 a2 a3 => by rw [sh.gv (.ref x) vs zs l1 l2]; exact h2 x dx a1 a2 a3⟩
  exact hc.run pins s σ H _ (.ref (c.cls kc)) [] _ I M.kp run fun s' us ws vs zs H' I' r rz ⟨l1, l2, q⟩ => run_makeZ M Fn hr hgd hb (hp.pass σ) I' r rz l1 l2 q
/-- o.m(..) -/
theorem d_meth {kc : Nat} {mo : Env → Res RV} {b0 : Bool} {pl : Sem Bool} (hp : HP X XW) (ho : PE X o (T c XW b0 mo)) (cl : Cls X.K (c.cls kc)) (hm : Meth X.K (c.cls kc) mt f) (Fn : FnG X.prog X.w X.K X.mg X.base (L2.CX X.prog X.w) k f fd ps (spD c (ix.length + 1) F)) (hr : Room k X.A) (hgd : X.A.guards = some [])
    (hb : KBn X.K fd ps (n + 1) ks g gV) (sh : Sh2 c n ks.length ix dvs dds gV) (hc : PCl X pos es kws ks (TAr c XW b1 mas) (TAr c XW b2 mks)) (hnp : b2 = true ∨ NPA mas := by exact .inl rfl) (hno : (b1 = true ∧ b2 = true) ∨ NP mo := by exact .inl ⟨rfl, rfl⟩)
    (ht : eval (.Call (.Attribute o mt apos) es kws pos) X.env = (do
      let ov ← eval o X.env
      standAt apos.atName
      let (f, first) ← holding [ov] (getMethod ov mt pl)
      callWith pos f first (backTo pos (starEach es X.env)) (backToKw pos (keywordEach kws X.env))) := by rfl) :
    PE X (.Call (.Attribute o mt apos) es kws pos) (T c XW false (methZ kc mt n ks.length ix dds F mo mas mks)) := by
  refine ⟨fun pins s σ H Q I ⟨W, e, Fs, le, sl, p⟩ => ?_⟩
  have run : T c XW b0 mo σ H fun x H1 => ∃ a dx fs, x = .ref a ∧ H1 a = some (.ins (c.cls kc) dx fs) ∧ fs.lookup mt = none ∧
      TAr c XW b1 mas σ H1 fun vs H2 => TAr c XW b2 mks σ H2 fun zs H3 => vs.length = n ∧ zs.length = ks.length ∧ spD c (ix.length + 1) F (gV (x :: vs) zs) H3 Q (fun cls d H' => XW cls d σ H') := by
    refine Tr.then0 (b2 := false) le sl p (fun z => by cases z) fun a e1 W1 H1 v F1 Fa qa g1 sm1 s1 r1 d1 p1 => ?_
    by_cases hk : (a.get e1).any (recvK kc mt) = true
    · rw [if_pos hk] at p1
      cases qo : a.get e1 with
      | none => rw [qo] at hk; cases hk
      | some oo =>
        rw [qo] at hk
        have hk : recvK kc mt oo = true := hk
        obtain ⟨G, ro, _⟩ := r1.rep s1 qo
        have inst : ∃ ad dx fs, v = .ref ad ∧ H1 ad = some (.ins (c.cls kc) dx fs) ∧ fs.lookup mt = none := by
          cases oo with
          | val dd =>
            cases dd with
            | obj k' fs =>
              have hk : (k' == kc && (lookD mt fs).isNone) = true := hk
              rw [Bool.and_eq_true] at hk
              have ek := eq_of_beq hk.1
              subst ek
              cases ro with
              | val hd =>
                cases hd with
                | obj hw hn kk =>
                  refine ⟨_, _, _, rfl, g1.le.ins hw, ?_⟩
                  rw [lookup_valV]
                  exact lookD_none hn hk.2
            | _ => cases hk
          | obj k' fs =>
            have hk : (k' == kc && (look1 mt fs).isNone) = true := hk
            rw [Bool.and_eq_true] at hk
            have ek := eq_of_beq hk.1
            subst ek
            cases ro with
            | obj hh hw hn kl nn =>
              refine ⟨_, _, _, rfl, hh, ?_⟩
              rw [lookup_valV]
              exact look1_none hn hk.2
          | _ => cases hk
        obtain ⟨ad, dx, fs, ev, hi, hnl⟩ := inst
        refine ⟨ad, dx, fs, ev, hi, hnl, ?_⟩
        have := argsZ_run (G := Fa) (K := fun l H2 => spD c (ix.length + 1) F (v :: l) H2 Q (fun cls d H' => XW cls d σ H')) (b1 := b1) (b2 := b2) sh.dd sh.nd sh.lt hnp (fun y hy => r1.dom y hy) g1.le s1 d1 p1
          fun W' H' e' F' Fb xs as g sm s r d dG hl p => by
            have r1' := r1.later g d1.symm (hno.elim (fun z => .inl (sm z.1 z.2)) fun z => .inr fun i q qq => z e i q e1 (by rw [← qq]; exact qa))
            have rr : RVs c W' H' σ (v :: xs) (a :: as) (Fa ++ Fb) := .cons r1' r dG.right.symm
            exact callR_run g.le rr s (Disj.app' dG.left d) (by simp [hl]) (p.more fun y hy => by
              rcases List.mem_append.mp hy with z | z
              · exact List.mem_append_left _ (List.mem_append_left _ z)
              · rcases List.mem_append.mp z with z | z
                · exact List.mem_append_right _ z
                · exact List.mem_append_left _ (List.mem_append_right _ z))
        exact Tr.imp this fun vs H1 h1 => Tr.imp h1 fun zs H2 ⟨l1, l2, h2⟩ => ⟨l1, l2, by rw [sh.gv v vs zs l1 l2]; exact h2⟩
    · rw [if_neg hk] at p1; exact p1.elim
  refine PySem.W.methodCall_KW (pl := pl) (thn (ho.run pins s σ H _ I run) fun u s1 ⟨x, H1, I1, rx, a, dx, fs, ex, ea, l, q⟩ => ?_) ht
  subst ex
  obtain rfl : u = Value.ref a := rx
  refine getmeth_ok I1 ea cl hm l ?_
  exact hc.run pins s1 σ H1 _ (.ref f) [.ref a] _ I1 hm.kp q fun s' us ws vs zs H' I' r rz ⟨l1, l2, q2⟩ => run_fnZ (us := .ref a :: us) (vs := .ref a :: vs) Fn hr hgd hb (hp.pass σ) I' (.cons rfl r) rz (by simp [l1]) l2 q2
end
end Z

set_option maxRecDepth 100000
set_option maxHeartbeats 2000000
/-! Z.own: own exceptions, an own class over Exception or KeyError whose __init__ says super().__init__('..') and keeps one field -/
namespace Z
open PySem PySem.W PySem.HandSPX Builtin Builtin.ObjectAttr

/-- what a built-in base B gives: N its maker's owner -/
structure EB (newId initId N B : String) (bmB : List Value) : Prop where
  new : ∃ initN bmN, ExcBaseFacts N newId initN bmN
  cN : bmB.contains (.type N) = true
  noA : bmB.contains (.type "AttributeError") = false
  noN : bmB.contains (.type "NameError") = false
  kxs : KxsFacts B initId
  initEntry : entryFor table initId = some Builtin.«BaseException.__init__»
  initPlain : plainId initId = true
  initKind : builtinKind initId = some .slot
  initRow : Manifest.signature? initId = some ⟨.positional, "*", B, .self, [⟨"args", .varPos, false⟩]⟩
  noStar : (B != "*") = true
  passes : ∀ self, refuseLoop self "__setattr__" bmB = pure ()
  hasObj : bmB.contains (.type "object") = true
abbrev bmE : List Value := [.type "Exception", .type "BaseException", .type "object"]
abbrev bmK : List Value := [.type "KeyError", .type "LookupError", .type "Exception", .type "BaseException", .type "object"]
theorem eb_E : EB "Exception.__new__" "Exception.__init__" "Exception" "Exception" bmE where
  new := ⟨_, _, F.excBase_Exception⟩
  cN := by decide +kernel
  noA := by decide +kernel
  noN := by decide +kernel
  kxs := kxs_Exception
  initEntry := F.excBase_Exception.initEntry
  initPlain := F.excBase_Exception.init.plain
  initKind := F.excBase_Exception.initKind
  initRow := F.excBase_Exception.initRow
  noStar := F.excBase_Exception.noStar
  passes := F.store_Exception.passes
  hasObj := by decide +kernel
theorem kxs_KeyError : KxsFacts "KeyError" "KeyError.__init__" := ⟨by show builtinType _ = _; rw [builtinType_eq_fast]; kernel_rfl, by first | kernel_rfl | rfl⟩
theorem eb_K : EB "LookupError.__new__" "KeyError.__init__" "LookupError" "KeyError" bmK where
  new := ⟨_, _, F.excBase_LookupError⟩
  cN := by decide +kernel
  noA := by decide +kernel
  noN := by decide +kernel
  kxs := kxs_KeyError
  initEntry := PyProof.Rows.excClass_KeyError.initEntry
  initPlain := PyProof.Rows.excClass_KeyError.init.plain
  initKind := PyProof.Rows.excClass_KeyError.initKind
  initRow := PyProof.Rows.excClass_KeyError.initSig
  noStar := PyProof.Rows.excClass_KeyError.notStar
  passes := fun self => by kernel_rfl
  hasObj := by decide +kernel

section
variable {M : Model} {A : Around} {E : Value → Shared → Prop} {h : Heap} {g : Array GenState} {d : Drawn} {t : Nat} {os : OsState}
variable {nm q : Str} {C Na : Addr} {bs bm bmN : List Value} {hdct : Bool} {sn : List Str} {sub : List Value} {ab : Bool} {col : Option Bool} {dd : Option Addr} {k0 k1 k2 k3 k5 : Option Value} {N newId initN : String}
theorem check_newZ (F : ExcBaseFacts N newId initN bmN) (hN : bm.contains (.type N) = true) {rest : List Value} {Q : Unit → Shared → Prop}
    (hC : h.get? C = some (excClassObj nm q C Na bs bm hdct sn sub ab col dd k0 k1 k2 k3 k5 newId)) (hq : Q () ⟨h, g, d, t, os⟩) : wpAny M A (checkBuiltinCall newId ⟨.ref C :: rest, []⟩) Q E ⟨h, g, d, t, os⟩ := by
  have hcont : (Value.ref C :: bm).contains (.type N) = true := by rw [List.contains_cons, hN, Bool.or_true]
  have hstar := F.noStar
  simp only [checkBuiltinCall, F.newKind, F.newSplit, F.newRow]
  repeat (first | refine wpAny_loadPart_at hC ?_ | (refine wpAny_isSubtype_exc hC ?_; rw [hcont]) | refine wpAny_staticBase_exc hC ?_ | refine wpAny_madeBy_exc hC ?_ | simp only [bne_self_eq_false, Bool.false_eq_true, if_false] | wp_step)
  exact hq
end
section
variable {prog : Program} {w : World} {A : Around} {E : Value → Shared → Prop} {R : Result → Shared → Prop} {h : Heap} {g : Array GenState} {d : Drawn} {t : Nat} {os : OsState}
variable {nm q : Str} {C Na : Addr} {bs bm bmN : List Value} {hdct : Bool} {sn : List Str} {sub : List Value} {ab : Bool} {col : Option Bool} {dd : Option Addr} {k0 k1 k2 k3 k5 : Option Value} {N newId initN : String}
theorem newZ (F : ExcBaseFacts N newId initN bmN) (hN : bm.contains (.type N) = true) (hA : bm.contains (.type "AttributeError") = false) (hM : bm.contains (.type "NameError") = false) {rest : List Value}
    (hC : h.get? C = some (excClassObj nm q C Na bs bm hdct sn sub ab col dd k0 k1 k2 k3 k5 newId))
    (hq : R (.ok (.ret (.ref (h.objs.size + 1)))) ⟨(h.push { cls := .type "tuple", data := .seq rest.toArray }).push
      { cls := .ref C, data := .fields #[.ref h.objs.size, .none, .none, .none, .bool false, .none] }, g, d, t, os⟩) (hrest : rest.length ≤ sizeLine) :
    codeAny (model prog w) A (.builtin newId ⟨.ref C :: rest, []⟩) R ⟨h, g, d, t, os⟩ := by
  have hends := F.ends
  have hcB : (Value.ref C :: bm).contains (.type N) = true := by rw [List.contains_cons, hN, Bool.or_true]
  have hcA : (Value.ref C :: bm).contains (.type "AttributeError") = false := by rw [List.contains_cons, hA]; rfl
  have hcN : (Value.ref C :: bm).contains (.type "NameError") = false := by rw [List.contains_cons, hM]; rfl
  refine codeAny_builtinAt F.entry ?_
  unfold Builtin.«BaseException.__new__»
  refine wpAt_bind ?_
  show PySem.wpAt _ _ _ (stack >>= _) _ _ _
  refine wpAt_bind (wpAt_stack fun p below => wpAt_of_wpAny ?_)
  wp_walk
  refine wpAt_of_wpAny ?_
  rw [F.owner]
  repeat (first | with_reducible refine wpAny_madeHere_exc F.canon hC ?_ | with_reducible refine wpAny_loadPart_at hC ?_ | (with_reducible refine wpAny_isSubtype_exc hC ?_; first | rw [hcB] | rw [hcA] | rw [hcN]) | wp_step)
  show R _ _
  rw [Heap.size_push]
  exact hq
theorem typeCallZ (F : ExcBaseFacts N newId initN bmN) (hN : bm.contains (.type N) = true) (hA : bm.contains (.type "AttributeError") = false) (hM : bm.contains (.type "NameError") = false) {rest : List Value} {fI : Addr} {Q : Fin → Shared → Prop}
    (hC : h.get? C = some (excClassObj nm q C Na bs bm hdct sn sub ab col dd k0 k1 k2 k3 k5 newId))
    (hi : W.Looks (model prog w) h (typeLookup (.ref C) "__init__") (some (.ref fI))) (hb : ∀ self, W.Looks (model prog w) h (bindSpecial (.ref fI) self) (.ref fI, [self])) (hrest : rest.length ≤ sizeLine)
    (hq : codeAny (model prog w) A (.call (.ref fI) ⟨.ref (h.objs.size + 1) :: rest, []⟩)
      (fun r s' => match r with | .ok (.ret v) => v = .none ∧ Q (.done (.ret (.ref (h.objs.size + 1)))) s' | .ok _ => False | .error e => E e s')
      ⟨(h.push (W.kdv_tup rest)).push (excO C h.objs.size), g, d, t, os⟩) :
    wpAny (model prog w) A (Builtin.«type.__call__» ⟨.ref C :: rest, []⟩) Q E ⟨h, g, d, t, os⟩ := by
  repeat (first | with_reducible refine wpAny_loadPart_at hC ?_ | with_reducible refine wpAny_madeBy_exc hC ?_ | wp_step)
  refine codeAny_call_builtin_code (Code.quiet_builtin _ F.quiet) (check_newZ F hN hC ?_)
  refine newZ F hN hA hM hC ?_ hrest
  show wpAny _ _ _ _ _ _
  have k : ∀ b o, h.get? b = some o → ((h.push (W.kdv_tup rest)).push (excO C h.objs.size)).get? b = some o := fun b o e => Heap.get?_push_of_some _ (Heap.get?_push_of_some _ e)
  have hC₁ := k _ _ hC
  have hget : ((h.push (W.kdv_tup rest)).push (excO C h.objs.size)).get? (h.objs.size + 1) = some (excO C h.objs.size) := by heap_get
  have hcC : (Value.ref C :: bm).contains (.ref C) = true := by simp
  have i1 := hi.keeps k
  have b1 := (hb (.ref (h.objs.size + 1))).keeps k
  unfold isInstance
  repeat (first | with_reducible refine wpAny_loadPart_at hget ?_ | (with_reducible refine wpAny_isSubtype_exc hC₁ ?_; rw [hcC]) | wp_step)
  show wpAny _ _ (typeLookup (.ref C) _) _ _ _
  refine i1.at ?_
  refine wpAny_holding (wpAny_bind (b1.at ?_))
  refine wpAny_bind (wpAny_call (codeAny_mono hq fun r s' z => ?_))
  rcases r with e | (v | _ | _ | _) <;> first | exact z | exact z.elim | skip
  obtain ⟨rfl, z⟩ := z
  first
    | exact wpAny_pure (wpAny_pure z)
    | (wp_walk; exact z)
theorem callZ_own (F : ExcBaseFacts N newId initN bmN) (hN : bm.contains (.type N) = true) (hA : bm.contains (.type "AttributeError") = false) (hM : bm.contains (.type "NameError") = false) {rest : List Value} {fI : Addr}
    (hC : h.get? C = some (excClassObj nm q C Na bs bm hdct sn sub ab col dd k0 k1 k2 k3 k5 newId))
    (hi : W.Looks (model prog w) h (typeLookup (.ref C) "__init__") (some (.ref fI))) (hb : ∀ self, W.Looks (model prog w) h (bindSpecial (.ref fI) self) (.ref fI, [self])) (hrest : rest.length ≤ sizeLine)
    (hq : codeAny (model prog w) (A.under (.builtin "type.__call__" ⟨.ref C :: rest, []⟩)) (.call (.ref fI) ⟨.ref (h.objs.size + 1) :: rest, []⟩) (W.InitBack (h.objs.size + 1) R)
      ⟨(h.push (W.kdv_tup rest)).push (excO C h.objs.size), g, d, t, os⟩) :
    codeAny (model prog w) A (.call (.ref C) ⟨rest, []⟩) R ⟨h, g, d, t, os⟩ := by
  have f1 := tc_lookup
  have f2 := tc_bind (.ref C)
  have hTy : (⟨h, g, d, t, os⟩ : Shared).TypeIs (.ref C) "type" := ⟨_, hC, rfl⟩
  refine codeAny_of_tree ?_
  show wpAny _ _ (callAny (.ref C) _) _ _ _
  repeat (any_goals (first | assumption | with_reducible refine wpAny_loadPart_at hC ?_ | wp_step))
  refine ⟨rfl, ?_⟩
  refine codeAny_call_builtin_at (Code.quiet_builtin _ (by decide +kernel)) entry_typeCall (wpAny_check_type_call_sub hC (typeCallZ F hN hA hM hC hi hb hrest ?_))
  refine codeAny_mono hq fun r s' z => ?_
  rcases r with e | (v | _ | _ | _) <;> exact z
end
end Z

set_option maxRecDepth 100000
set_option maxHeartbeats 2000000
/-! Z.init: an own exception's __init__ -/
namespace Z
open PySem PySem.W PySem.HandSPX Builtin Builtin.ObjectAttr

section
variable {prog : Program} {w : World} {A : Around} {E : Value → Shared → Prop} {R : Result → Shared → Prop} {hp : Heap} {g : Array GenState} {d : Drawn} {t : Nat} {os : OsState}
theorem osaZ {K : W.Frag} {name : Str} {tk : Tok} {v : Value} {x C : Addr} {fv : Array Value} {cd : ClassData} {bm bmB : List Value}
    (X : K.In hp) (hx : hp.get? x = some { cls := .ref C, data := .fields fv }) (hcd : W.clsIn K C = some cd) (hm : cd.mro = .ref C :: bm) (ht : excTail bmB bm = true) (hpass : ∀ self, refuseLoop self "__setattr__" bmB = pure ()) (hob : bmB.contains (.type "object") = true)
    (hh : cd.hasDict = true) (ha : W.findIn K (.ref C) name = some none)
    (hq : ∀ h' tk' dx, (∀ b o, b ≠ x → hp.get? b = some o → h'.get? b = some o) → hp.objs.size ≤ dx → dx ≠ x → h'.get? x = some { cls := .ref C, dict := some dx, data := .fields fv } →
      h'.Ns1 dx (fun y => if y = name then some v else none) → R (.ok (.ret .none)) ⟨h', g, d, tk', os⟩) :
    codeAny (model prog w) A (.call (.builtin "object.__setattr__") ⟨[.ref x, .str name tk, v], []⟩) R ⟨hp, g, d, t, os⟩ := by
  have I : W.InstAt hp x { cls := .ref C, data := .fields fv } C none := ⟨hx, rfl, rfl, trivial⟩
  have hxs : x ≠ hp.objs.size := Nat.ne_of_lt (Heap.lt_size hx)
  have SF := F.store_object
  have ne : cd.mro.isEmpty = false := by rw [hm]; rfl
  have hob' : cd.mro.contains (.type "object") = true := by
    rw [hm, List.contains_cons, excTail_contains "object" bm ht, hob, Bool.or_true]
  have sub : W.Looks (model prog w) hp (isInstance (.ref x) (.type "object")) true := I.type.andThen (W.looks_mroIn X (by unfold W.mroIn; rw [hcd, Option.bind_some, if_neg (by rw [ne]; decide), hob']))
  refine codeAny_call_builtin SF.slot.plain SF.entry (@W.check_slot (model prog w) _ _ ⟨hp, g, d, t, os⟩ "object.__setattr__" "object" "__setattr__" (.ref x) [.str name tk, v] [] _ SF.kind SF.split sub (SF.args (.ref x) (.str name tk) v) ?_)
  have hmr : W.Looks (model prog w) hp (mroOf (.ref C)) cd.mro := (W.looks_clsIn X hcd).andThen .now
  have L3 : W.Looks (model prog w) hp (storeTaker? none) none := .now
  have hpass' : refuseLoop (.ref x) "__setattr__" cd.mro = pure () := by
    rw [hm, refuseLoop_ref]
    exact excTail_pass (.ref x) (hpass (.ref x)) bm ht
  rw [W.osa_eq, refuse_eq]
  refine wpAny_bind (wpAny_bind (I.type.at (wpAny_bind (hmr.at ?_))))
  rw [hpass']
  refine wpAny_pure (wpAny_bind (I.type.at (wpAny_bind ((W.looks_findIn X ha).at (wpAny_bind (L3.at ?_))))))
  show wpAny _ _ (storeInOwnDict (.ref x) (.ref C) (.str name tk) name v false) _ _ _
  have hcls : W.Looks (model prog w) hp (classData C) cd := W.looks_clsIn X hcd
  obtain ⟨nm, bs, mro, ns, qn, hd, sn, sb, ab, col, del⟩ := cd
  dsimp only at hh
  subst hh
  unfold storeInOwnDict ownDictForStores
  repeat (first | with_reducible refine HandSPX.store_in_new ?_ ?_ | with_reducible refine wpAny_loadPart_at hx ?_ | with_reducible refine hcls.at ?_ | wp_step)
  · exact ⟨_, #[], _, (Heap.get?_update_ne _ _ _ _ hxs.symm).trans (Heap.get?_push_at rfl rfl), rfl, fun e he => absurd he (by simp), fun _ => rfl⟩
  · intro h' tk' hn' hs
    have hx₁ : (hp.push { cls := .type "dict", data := .dict #[] }).get? x = some { cls := .ref C, data := .fields fv } := Heap.get?_push_of_some _ hx
    refine hq h' tk' hp.objs.size (fun b o hb ho => ?_) (Nat.le_refl _) hxs.symm ?_ hn'
    · exact (hs.2 b (Nat.ne_of_lt (Heap.lt_size ho))).trans ((Heap.get?_update_ne _ _ _ _ hb).trans (Heap.get?_push_of_some _ ho))
    · exact (hs.2 x hxs).trans (Heap.get?_update_self _ hx₁ rfl)
theorem check_boundZ {newId initId N B : String} {bmB : List Value} (F : EB newId initId N B bmB) {M : Model} {h : Heap} {nm q : Str} {C Na e : Addr} {oe : Obj} {bs bm : List Value} {hdct : Bool} {sn : List Str} {sub : List Value} {ab : Bool} {col : Option Bool} {dd : Option Addr} {k0 k1 k2 k3 k5 : Option Value} {rest : List Value} {Q : Unit → Shared → Prop}
    (hC : h.get? C = some (excClassObj nm q C Na bs bm hdct sn sub ab col dd k0 k1 k2 k3 k5 newId)) (he : h.get? e = some oe) (hcls : oe.cls = .ref C) (hq : Q () ⟨h, g, d, t, os⟩) : wpAny M A (checkBoundCall initId ⟨.ref e :: rest, []⟩) Q E ⟨h, g, d, t, os⟩ := by
  have hshort := F.noStar
  simp only [checkBoundCall, F.initKind, F.initRow]
  repeat (first | (with_reducible refine wpAny_loadPart_at he ?_; rw [hcls]) | with_reducible refine wpAny_loadPart_at hC ?_ | wp_step)
  refine wpAny_onRaise ?_
  rw [show ∀ (a b : String) (n : Nat), Bind.check ⟨.positional, "*", B, .self, [⟨"args", .varPos, false⟩]⟩ a b n (List.map (fun x => x.fst) ({ pos := Value.ref e :: rest } : Args).kw) = pure () from
    fun a b n => check_star_args _ _ _ _ _ _]
  exact wpAny_pure hq
theorem call_mw {newId initId N B : String} {bmB : List Value} (F : EB newId initId N B bmB) {h : Heap} {nm q : Str} {C Na : Addr} {bs bm : List Value} {hdct : Bool} {sn : List Str} {sub : List Value} {ab : Bool} {col : Option Bool} {dd : Option Addr} {k0 k1 k2 k3 k5 : Option Value}
    {u e t0 : Addr} {rest : List Value} {Q : Value → Shared → Prop}
    (hC : h.get? C = some (excClassObj nm q C Na bs bm hdct sn sub ab col dd k0 k1 k2 k3 k5 newId)) (he : h.get? e = some (excO C t0)) (hu : h.get? u = some (kxs_mw initId e)) (hrest : rest.length ≤ sizeLine)
    (hq : ∀ h' t1, (∀ b o, b ≠ e → h.get? b = some o → h'.get? b = some o) → h'.get? e = some (excO C t1) → Q .none ⟨h', g, d, t, os⟩) :
    wpAny (model prog w) A (call (.ref u) rest) Q E ⟨h, g, d, t, os⟩ := by
  refine wpAny_call (codeAny_of_tree ?_)
  show wpAny _ A.in1 (callAny (.ref u) ⟨rest, []⟩) _ _ _
  simp only [callAny]
  refine wpAny_bind (wpAny_load hu ?_)
  simp only [kxs_mw, show (Value.type "method-wrapper" == Value.type "method" || Value.type "method-wrapper" == Value.type "builtin_function_or_method" || Value.type "method-wrapper" == Value.type "method-wrapper") = true by decide, if_true]
  refine KFB.if_so (by decide) ?_
  refine wpAny_bind (check_boundZ F hC he rfl ?_)
  refine wpAny_bind (wpAny_pure (wpAny_pure ?_))
  refine ⟨plainId_quiet F.initPlain _, codeAny_builtin F.initEntry ?_⟩
  exact exc_init_tree (cls := .ref C) (t0 := t0) (dv := none) (c2 := .none) (c3 := .none) (b4 := .bool false) he hrest fun h' k e' _ => hq h' _ k e'
end

/-- the text of such an __init__ -/
def xArgs (par : Str) (p1 p2 : Pos) : Arguments := { posonlyargs := [], args := [{ arg := "self", annotation := none, pos := p1 }, { arg := par, annotation := none, pos := p2 }], vararg := none, kwonlyargs := [], kw_defaults := [], kwarg := none, defaults := [] }
def xBody (text attr par : Str) (j : Nat) (p0 p1 p2 p3 p4 p5 q1 q2 q3 q4 : Pos) : List Stmt :=
  [.Expr (.Call (.Attribute (.Call (.Name "super" p0) [] [] p1) "__init__" p2) [.Constant (.str text) j p3] [] p4) p5, .Assign [.Attribute (.Name "self" q1) attr q2] (.Name par q3) q4]
structure XScope (par : Str) (sc : Scope) : Prop where
  kind : sc.kind = .function
  co : sc.isCoroutine = false
  gen : sc.isGenerator = false
  noCell : ∀ x ∈ sc.names, x.2 ≠ .cell
  sup : sc.names.lookup ("super" : Str) = some .globalImplicit
  cls : sc.names.lookup ("__class__" : Str) = some .free
  selfL : sc.names.lookup ("self" : Str) = some .local
  parL : sc.names.lookup par = some .local
  ne : par ≠ ("self" : Str)
  nd : (par == ("__debug__" : Str)) = false
/-- what the written part says of an own exception class at C, of its __init__ at fI -/
structure Ext (file : Str) (K : Frag) (newId initId N B : String) (bmB : List Value) (par attr : Str) (C fI : Addr) : Prop where
  cls : ∃ nm q Na bs bm sn sub ab col dd k0 k1 k2 k3 k5, K.lookup C = some (excClassObj nm q C Na bs bm true sn sub ab col dd k0 k1 k2 k3 k5 newId) ∧ excTail bmB bm = true
  sa : findIn K (.ref C) "__setattr__" = some (some (.builtin "object.__setattr__"))
  ga : findIn K (.ref C) "__getattribute__" = some (some (.builtin "BaseException.__getattribute__"))
  gg : findIn K (.ref C) "__getattr__" = some none
  noN : findIn K (.ref C) attr = some none
  iC : findIn K (.ref C) "__init__" = some (some (.ref fI))
  tC : typeIn K (.ref fI) = some (.type "function")
  kC : keepIn K (.ref C) = true
  exC : subIn K (.ref C) (.type "BaseException") = some true
  exB : subIn K (.ref C) (.type B) = some true
  tyC : typeIn K (.ref C) = some (.type "type")
  hdC : hasDictIn K C = true
  meC : mroIn K C (.ref C) = some true
  sup : ks_superIn K C C "__init__" = some (some (.builtin initId))
  opq : nsIn K cStatics "thirdparty.any" = some none
  noSup : nsIn K mainGlobals "super" = some none
  binds : ∀ (qual : Str) (body : List Stmt) (sc : Scope) (doc pm : Value) (an : Option Addr) (cdv ct : Value) (cc : Addr) (r1 r2 : Pos) (a b : Value), bindArgs (ksFn "__init__" qual (xArgs par r1 r2) body sc .none .none doc pm an cdv ct cc) ⟨[a, b], []⟩ = pure [(("self" : Str), a), (par, b)]
  fn : ∃ (oc : Value) (od : Option Addr) (qual : Str) (sc : Scope) (doc pm : Value) (an : Option Addr) (cda cc : Addr) (ct : Value) (osl : Array (Option Value)) (text : Str) (j : Nat) (p0 p1 p2 p3 p4 p5 q1 q2 q3 q4 r1 r2 : Pos),
    K.lookup fI = some ⟨oc, od, .func (ksFn "__init__" qual (xArgs par r1 r2) (xBody text attr par j p0 p1 p2 p3 p4 p5 q1 q2 q3 q4) sc .none .none doc pm an (.ref cda) ct cc), osl⟩ ∧ codeIn K (.ref cda) qual = true ∧ XScope par sc ∧ (p2.endLine == p4.line) = true ∧
      (∃ (cl : Value) (cld : Option Addr) (csl : Array (Option Value)), K.lookup cc = some ⟨cl, cld, .cell (some (.ref C)), csl⟩) ∧
      ∃ (ccl : Value) (cdd : Option Addr) (vs : Array Value) (tf : Tok) (ccs : Array (Option Value)), K.lookup cda = some ⟨ccl, cdd, .fields vs, ccs⟩ ∧ vs[2]? = some (.str file tf)
end Z
namespace Z
open PySem PySem.W PySem.Calls PyProof.Rows PySem.HandSPX
/-- what __init__ leaves of a fresh exception at x -/
structure XInit (attr : Str) (h h' : Heap) (x C dx t1 : Addr) (v : Value) : Prop where
  keep : ∀ b o, b ≠ x → h.get? b = some o → h'.get? b = some o
  obj : h'.get? x = some { cls := .ref C, dict := some dx, data := .fields #[.ref t1, .none, .none, .none, .bool false, .none] }
  dbig : h.objs.size ≤ dx
  dne : dx ≠ x
  ns : h'.Ns1 dx (fun y => if y = attr then some v else none)
structure XMade (attr : Str) (h h' : Heap) (e C d : Addr) (v : Value) : Prop where
  keep : ∀ b o, h.get? b = some o → h'.get? b = some o
  new : h.objs.size ≤ e
  obj : ∃ oe vs, h'.get? e = some oe ∧ oe.cls = .ref C ∧ oe.dict = some d ∧ oe.data = .fields vs ∧ vs[1]? = some .none
  dbig : h.objs.size ≤ d
  dne : d ≠ e
  ns : h'.Ns1 d (fun y => if y = attr then some v else none)
section
variable {prog : Program} {w : World} {A : Around} {E : Value → Shared → Prop} {R : Result → Shared → Prop} {s : Shared} {K : Frag} {newId initId N B : String} {bmB : List Value} {par attr : Str} {C fI : Addr} {mg mb : Str → Option Value}
theorem super_call_eq {text : Str} {j : Nat} {p0 p1 p2 p3 p4 : Pos} (hline : (p2.endLine == p4.line) = true) (env : PySem.Env) : eval (.Call (.Attribute (.Call (.Name "super" p0) [] [] p1) "__init__" p2) [.Constant (.str text) j p3] [] p4) env = (do
        let ov ← attributeBase (.Call (.Name "super" p0) [] [] p1) "__init__" env (eval (.Call (.Name "super" p0) [] [] p1) env)
        standAt p2.atName
        let (f, first) ← holding [ov] (getMethod ov "__init__" (L2.plainOf (.Call (.Name "super" p0) [] [] p1) env))
        callWith p4 f first (backTo p4 (starEach [.Constant (.str text) j p3] env)) []) := by
  show (do
    let ov ← attributeBase (.Call (.Name "super" p0) [] [] p1) "__init__" env (eval (.Call (.Name "super" p0) [] [] p1) env)
    standAt p2.atName
    methodCall (.Call (.Name "super" p0) [] [] p1) "__init__" p2 p4 env ov 1 (backTo p4 (starEach [.Constant (.str text) j p3] env)) []) = _
  simp only [L2.mcall_line (n := 1) (args := backTo p4 (starEach [.Constant (.str text) j p3] env)) (kws := []) (by rfl) hline]
theorem ext_init (F : EB newId initId N B bmB) (T : Ext prog.main.file K newId initId N B bmB par attr C fI) (htop : (prog.main.scope.names.lookup ("super" : Str)).isSome = false) {x t0 : Addr} {v : Value} (X : K.In s.heap) (hlim : s.heap.NoLimit) (G : s.heap.Ns mainGlobals mg) (Bn : s.heap.Ns builtinsNs mb)
    (hms : mg "super" = none) (hmb : mb "super" = bootBuiltins "super") (hx : s.heap.get? x = some (excO C t0)) (hnx : K.lookup x = none) (hroom : A.depth < recursionLimit)
    (hq : ∀ h' tk dx t1, XInit attr s.heap h' x C dx t1 v → R (.ok (.ret .none)) { s with heap := h', toks := tk }) :
    codeAny (model prog w) A (.call (.ref fI) ⟨[.ref x, v], []⟩) R s := by
  obtain ⟨oc, od, qual, sc, doc, pm, an, cda, cc, ct, osl, text, j, p0, p1, p2, p3, p4, p5, q1, q2, q3, q4, r1, r2, ho, hcd, S, hline, ⟨cl, cld, csl, hcell⟩, ccl, cdd, vs, tf, ccs, hcode, hvs⟩ := T.fn
  obtain ⟨nm, q, Na, bs, bm, sn, sub, ab, col, dd, k0, k1, k2, k3, k5, hC, hbm⟩ := T.cls
  have hcl : clsIn K C = some { name := nm, bases := bs, mro := .ref C :: bm, ns := Na, qualname := q, hasDict := true, slotNames := sn, subclasses := sub, abstract := ab, collection := col, hasDel := false } := by unfold clsIn; rw [hC] <;> rfl
  refine ks_codeAny_call_defAt (binds := [("self", .ref x), (par, v)]) hroom (X _ _ ho) rfl hlim (codeRec_of X hcd) rfl (BindsTo.of_eq (T.binds ..)) S.noCell (fun y hy => ?_) (fun h₀ hns hk => ?_) S.co S.gen S.kind
  · rcases List.mem_cons.mp hy with e | hy
    · rw [e]; exact S.selfL
    · rw [List.mem_singleton.mp hy]; exact S.parL
  · have XX : K.In h₀ := X.keeps hk
    have hx₀ := hk _ _ hx
    have Ix : InstAt h₀ x (excO C t0) C none := ⟨hx₀, rfl, rfl, trivial⟩
    have hself : (fun y => ([("self", Value.ref x), (par, v)] : List (Str × Value)).reverse.lookup y) "self" = some (.ref x) := by
      show List.lookup ("self" : Str) [(par, v), ("self", Value.ref x)] = _
      rw [List.lookup_cons, beq_eq_false_iff_ne.mpr (Ne.symm S.ne)]
      rfl
    have hpar : (fun y => ([("self", Value.ref x), (par, v)] : List (Str × Value)).reverse.lookup y) par = some v := by
      show List.lookup par [(par, v), ("self", Value.ref x)] = _
      rw [List.lookup_cons, beq_self_eq_true]
    obtain ⟨oD, hD1, hD2⟩ : ∃ oD, h₀.get? C = some oD ∧ oD.data = .cls { name := nm, bases := bs, mro := .ref C :: bm, ns := Na, qualname := q, hasDict := true, slotNames := sn, subclasses := sub, abstract := ab, collection := col, hasDel := false } := ⟨_, XX _ _ hC, rfl⟩
    -- super().__init__(text)
    have he := super_call_eq (text := text) (j := j) (p0 := p0) (p1 := p1) (p2 := p2) (p3 := p3) (p4 := p4) hline (callEnv (ksFn "__init__" qual (xArgs par r1 r2) (xBody text attr par j p0 p1 p2 p3 p4 p5 q1 q2 q3 q4) sc .none .none doc pm an (.ref cda) ct cc) s.heap.objs.size fI)
    refine ks_wpAt_execs_cons (ks_wpAt_Expr_any (ks_wpAt_MethodCall ?_ he) (by unfold interactive; show (sc.kind == .module && _) = false; rw [S.kind]; rfl))
    refine ks_wpAt_super_base (ar := { arg := "self", annotation := none, pos := r1 }) S.sup S.cls (by decide) rfl (XX _ _ ho) rfl rfl rfl (XX _ _ hcode) rfl hvs (by simp) htop ?_
    refine ks_loadName_global S.kind S.sup (loadGlobal_builtin (G.keeps hk) hms (Bn.keeps hk) (hmb.trans (by first | boot_by_name | rfl | kernel_rfl)) ⟨rfl, ?_⟩)
    refine wpAny_loadName_free S.kind S.cls rfl ⟨_, XX _ _ hcell, rfl⟩ ?_
    refine wpAny_loadName_local S.kind S.selfL hns hself ?_
    refine ks_wpAny_isType_cls hD1 hD2 ⟨rfl, ?_⟩
    refine ks_wpAny_call_super hD1 hD2 hx₀ rfl (fun c e => by cases e) (looks_mroIn XX T.meC) fun h1 hso k1 => ?_
    have X1 : K.In h1 := XX.keeps k1
    have I1 : InstAt h1 x (excO C t0) C none := ⟨k1 _ _ hx₀, rfl, rfl, trivial⟩
    have hm := T.sup
    unfold ks_superIn at hm
    rw [hcl] at hm
    refine kxs_getMethod F.kxs hso (looks_opaque X1 T.opq) (l₀ := .ref C :: bm) (fun A Q E s k q => wpAny_bind ((looks_clsIn X1 hcl) A _ E s k (wpAny_pure q))) rfl X1 hm (I1.type.andThen (looks_subIn X1 T.exB)) (ks_ne X1 I1 hcl) (by decide) ?_
    refine kxs_callWith (i := initId) (u := h1.objs.size) (x := x) rfl ?_
    refine evalArgs_plain (Calls.spliced_cons (Calls.Constant_str (k := j) (pos := p3) (Calls.spliced_nil ⟨Heap.get?_push_size _ rfl, ?_⟩)))
    have k2 : ∀ b o, h₀.get? b = some o → (h1.push (kxs_mw initId x)).get? b = some o := fun b o e => Heap.get?_push_of_some _ (k1 b o e)
    refine call_mw F (k2 _ _ (XX _ _ hC)) (k2 _ _ hx₀) (Heap.get?_push_size _ rfl) (by rw [sizeLine_eq]; show 1 ≤ 16777216; decide) fun h3 t1 k3 hx3 => ?_
    have nx : ∀ b o, K.lookup b = some o → b ≠ x := fun b o e z => by rw [z, hnx] at e; cases e
    have X3 : K.In h3 := fun b o e => k3 b o (nx b o e) (k2 b o (XX b o e))
    have hLx : s.heap.objs.size ≠ x := Nat.ne_of_gt (Heap.lt_size hx)
    have hns3 : h3.Ns s.heap.objs.size (fun y => ([("self", Value.ref x), (par, v)] : List (Str × Value)).reverse.lookup y) := by
      obtain ⟨oL, es, ep, hL, r⟩ := hns
      exact ⟨oL, es, ep, k3 _ _ hLx (k2 _ _ hL), r⟩
    -- self.attr = par
    refine wpAt_of_wpAny (wpAny_execs_cons (plainObj_wpAny_Assign_Attribute ?_ (by rfl)))
    refine wpAny_Name (wpAny_loadName_local S.kind S.parL hns3 hpar ?_) S.nd
    refine wpAny_Name (wpAny_loadName_local S.kind S.selfL hns3 hself ?_) (by decide)
    refine set_plain X3 (ox := excO C t1) (od := none) ⟨hx3, rfl, rfl, trivial⟩ T.sa ?_
    refine osaZ X3 hx3 hcl rfl hbm F.passes F.hasObj rfl T.noN fun h4 tk4 dx k4 dn dne hx4 hn4 => ?_
    refine wpAny_execs_nil (hq h4 tk4 dx t1 ⟨fun b o hb e => k4 b o hb (k3 b o hb (k2 b o (hk b o e))), hx4, ?_, dne, hn4⟩)
    exact Nat.le_of_lt (Nat.lt_of_lt_of_le hns3.lt dn)
theorem ext_made (F : EB newId initId N B bmB) (T : Ext prog.main.file K newId initId N B bmB par attr C fI) (htop : (prog.main.scope.names.lookup ("super" : Str)).isSome = false) {v : Value} (X : K.In s.heap) (hlim : s.heap.NoLimit) (G : s.heap.Ns mainGlobals mg) (Bn : s.heap.Ns builtinsNs mb)
    (hms : mg "super" = none) (hmb : mb "super" = bootBuiltins "super") (hroom : A.depth + 1 < recursionLimit)
    (hq : ∀ h' tk e d, XMade attr s.heap h' e C d v → R (.ok (.ret (.ref e))) { s with heap := h', toks := tk }) :
    codeAny (model prog w) A (.call (.ref C) ⟨[v], []⟩) R s := by
  obtain ⟨nm, q, Na, bs, bm, sn, sub, ab, col, dd, k0, k1, k2, k3, k5, hC, hbm⟩ := T.cls
  obtain ⟨initN, bmN, FN⟩ := F.new
  obtain ⟨hp, g, dr, tk, os⟩ := s
  have k : ∀ b o, hp.get? b = some o → ((hp.push (kdv_tup [v])).push (excO C hp.objs.size)).get? b = some o := fun b o e => Heap.get?_push_of_some _ (Heap.get?_push_of_some _ e)
  have hget : ((hp.push (kdv_tup [v])).push (excO C hp.objs.size)).get? (hp.objs.size + 1) = some (excO C hp.objs.size) := by heap_get
  have hnx : K.lookup (hp.objs.size + 1) = none := by
    cases e : K.lookup (hp.objs.size + 1) with
    | none => rfl
    | some o =>
      have z : hp.get? (hp.objs.size + 1) = some o := X _ _ e
      exact absurd (Nat.lt_of_succ_lt (Heap.lt_size z)) (Nat.lt_irrefl _)
  have one : [v].length ≤ sizeLine := by rw [sizeLine_eq]; exact (by decide : 1 ≤ 16777216)
  refine callZ_own FN ((excTail_contains N bm hbm).trans F.cN) ((excTail_contains _ bm hbm).trans F.noA) ((excTail_contains _ bm hbm).trans F.noN) (X _ _ hC) (looks_findIn X T.iC) (fun self => bind_fn X self T.tC) one ?_
  refine ext_init (s := ⟨(hp.push (kdv_tup [v])).push (excO C hp.objs.size), g, dr, tk, os⟩) F T htop (X.keeps k) (hlim.keeps k) (G.keeps k) (Bn.keeps k) hms hmb hget hnx ?_ fun h' tk' dx t1 ⟨k', hx, dn, dne, hns⟩ => ?_
  · show A.depth + 1 < recursionLimit
    exact hroom
  · have old : ∀ b o, hp.get? b = some o → h'.get? b = some o := fun b o e => k' b o (Nat.ne_of_lt (Nat.lt_succ_of_lt (Heap.lt_size e))) (k b o e)
    have z : hp.objs.size + 1 + 1 ≤ dx := by
      first
        | (simpa only [Heap.size_push] using dn)
        | exact dn
        | (have q := dn; rw [Heap.size_push, Heap.size_push] at q; exact q)
    exact ⟨rfl, hq h' tk' (hp.objs.size + 1) dx ⟨old, Nat.le_succ _, ⟨_, _, hx, rfl, rfl, rfl, rfl⟩, Nat.le_trans (Nat.le_trans (Nat.le_succ _) (Nat.le_succ _)) z, dne, hns⟩⟩
end
end Z
namespace Z
open PySem L2 PySem.Spec PyProof.Rows
theorem relO_one {attr : Str} {v : V} {v' : Value} (r : RelV v v') (f : Str) : RelO (List.lookup f [(attr, v)]) (if f = attr then some v' else none) := by
  by_cases hw : f = attr
  · subst hw
    rw [if_pos rfl]
    have q : List.lookup f [(f, v)] = some v := by simp [List.lookup]
    rw [q]
    exact r
  · rw [if_neg hw]
    have qw : (f == attr) = false := by simpa using hw
    have q2 : List.lookup f [(attr, v)] = none := by simp [List.lookup, qw]
    rw [q2]
    trivial
section
variable {X : Cx} {c : Cf} {XW : WX} {C fI : Addr} {newId initId N B : String} {bmB : List Value} {par attr x : Str}
/-- C(e) -/
def tMkE (C : Addr) (attr : Str) (te : TE) : L2.St → Hp → XK → Prop := fun σ H Q => te σ H fun v H1 => ∀ d, H1 d = none → Q (.ref C) (some d) (upd H1 d (.xd [(attr, v)]))
theorem pmk_ext {a : Expr} {te : TE} {p pos : Pos} {k : Nat} (F : EB newId initId N B bmB) (T : Ext X.prog.main.file X.K newId initId N B bmB par attr C fI) (htop : (X.prog.main.scope.names.lookup ("super" : Str)).isSome = false) (hr : Room k X.A) (gC : X.mg x = some (.ref C)) (hms : X.mg "super" = none)
    (ha : PE X a te) (hg : Gl X x := by rfl) (hdb : (x == ("__debug__" : Str)) = false := by decide)
    (he : starEach (a :: []) X.env = (false, eval a X.env) :: starEach [] X.env := by rfl) (hpl : (backTo pos (starEach [] X.env)).any (·.1) = false := by rfl) :
    PMk X (.Call (.Name x p) [a] [] pos) (tMkE C attr te) := by
  intro pins s σ H Q I h
  refine wpAny_Call_Name_kw (ld_glob I hg gC ?_ hdb)
  refine PySem.W.callWith_K (h₀ := X.base) I.ok.mod.kin T.kC ?_ he hpl
  rw [he]
  show wpAny _ _ (spliced ((false, eval a X.env) :: backTo pos (starEach [] X.env))) _ _ s
  refine Calls.spliced_cons (thn (ha.run pins s σ H _ I h) fun v' s1 ⟨v, H1, I1, rv, q1⟩ => ?_)
  refine Calls.spliced_nil ⟨I1.kIn, ?_⟩
  show wpAny _ _ (call (.ref C) [v']) _ _ _
  have hlim := I1.nolimit
  have G := I1.mod.glob.keeps I1.bk
  obtain ⟨mb, Bn, hmb⟩ := I1.mod.blt
  have Bn := Bn.keeps I1.bk
  obtain ⟨hp, g, dr, tk, os⟩ := s1
  refine wpAny_call (ext_made F T htop I1.kIn hlim G Bn hms (hmb _ (by decide)) (by have := hr.dp; omega) fun h' tk' e d M => ?_)
  show MkP X pins σ Q (.ref e) ⟨h', g, dr, tk', os⟩
  obtain ⟨oe, fv, hoe, hc, hd, hdat, h1⟩ := M.obj
  have hns := M.ns
  obtain ⟨G', g1, g2⟩ := restrict h' fun b => decide (b ≠ e)
  have gk : ∀ b, b ≠ e → G'.get? b = h'.get? b := fun b hb => g1 b (decide_eq_true hb)
  have ge : G'.get? e = none := g2 e (by simp)
  have old : ∀ b o, hp.get? b = some o → G'.get? b = some o := fun b o q => (gk b (Nat.ne_of_lt (Nat.lt_of_lt_of_le (Heap.lt_size q) M.new))).trans (M.keep b o q)
  have ob : ObjOk X.prog X.w (upd H1 d (.xd [(attr, v)])) G' d (.xd [(attr, v)]) := ⟨_, hns.at (fun o q => (gk d M.dne).trans q), fun f => relO_one rv f⟩
  have J : Inv X pins σ (upd H1 d (.xd [(attr, v)])) ⟨G', g, dr, tk', os⟩ := I1.laid (t' := tk') old M.dbig ob
  refine ⟨e, oe, fv, ⟨G', g, dr, tk', os⟩, _, .ref C, some d, rfl, J, fun b o q => ?_, ge, hoe, ⟨hc, hd⟩, hdat, h1, ?_, rfl, I1.bare, raises_own T.exC T.tyC, q1 d (I1.hok.fresh M.dbig)⟩
  · by_cases hb : b = e
    · have q' : G'.get? b = some o := q
      rw [hb, ge] at q'; cases q'
    · exact (gk b hb).symm.trans q
  · rw [upd_ne (Ne.symm M.dne)]
    exact I1.hok.fresh M.new
/-- raise C(e) -/
def raiseD (k : Nat) (attr : Str) (ma : Env → Res RV) : Env → SRes := fun e => (ma e).s fun a e1 => match a.take e1 with
  | some (o, e2) => .err ⟨k, [(attr, o.fz)]⟩ e2
  | none => .stuck
theorem s_raise {a : Expr} {b : Bool} {ma : Env → Res RV} {p pos pos2 : Pos} {k j : Nat} {pin : List Nat} {σ0 : L2.St} (hc : X.calm = true) (tk : Takes X XW) (F : EB newId initId N B bmB) (TX : Ext X.prog.main.file X.K newId initId N B bmB par attr (c.cls j) fI) (htop : (X.prog.main.scope.names.lookup ("super" : Str)).isSome = false)
    (hr : Room k X.A) (gC : X.mg x = some (.ref (c.cls j))) (hms : X.mg "super" = none) (ha : PE X a (T c XW b ma)) (hg : Gl X x := by rfl) (hdb : (x == ("__debug__" : Str)) = false := by decide)
    (he : starEach (a :: []) X.env = (false, eval a X.env) :: starEach [] X.env := by rfl) (hpl : (backTo pos (starEach [] X.env)).any (·.1) = false := by rfl) :
    PS X (.Raise (some (.Call (.Name x p) [a] [] pos)) none pos2) (S c XW pin σ0 (raiseD j attr ma)) := ps_imp (ps_raise hc tk (pmk_ext F TX htop hr gC hms ha hg hdb he hpl)) fun D σ H ⟨W, e, Fs, le, s, pn, post⟩ => by
  refine Tr.s (b1 := b) le s pn post fun a e1 W1 H1 v F1 Fo _ g s1 r d p1 => ?_
  cases q : a.take e1 with
  | none => rw [q] at p1; exact p1.elim
  | some t =>
    obtain ⟨o, e2⟩ := t
    rw [q] at p1
    obtain ⟨W2, F2, g2, s2, dt⟩ := take_fz g.le r s1 d q
    intro dd hdd
    have g3 : Gr W2 H1 F2 (upd W2 dd (.xd [(attr, v)])) (upd H1 dd (.xd [(attr, v)])) F2 := Gr.allocV g2.le hdd
    have g3' : Gr W2 H1 [] (upd W2 dd (.xd [(attr, v)])) (upd H1 dd (.xd [(attr, v)])) [] := Gr.allocV g2.le hdd
    exact p1 _ _ σ F2 _ _ (g2.trans g3) (s2.frame g3' Disj.nil_right) pn ⟨rfl, dd, _, rfl, upd_same, rfl, .cons (dt.mono (.of_same g3.w)) .nil⟩
end
end Z

set_option maxRecDepth 100000
set_option maxHeartbeats 2000000
/-! Z.try: try .. except -/
namespace Z
open PySem L2 PySem.Spec PyProof.Rows

section
variable {X : Cx} {pins : List (Addr × Obj)} {σ : L2.St} {H : Hp} {sI s s' : Shared} {B : Heap}
/-- landed, the exception's object tracked -/
theorem landedX {a dd : Addr} {oe : Obj} {vs : Array Value} {cls : Value} {l : List PySem.Env} {Z : Obj → Prop} (I : Inv X pins σ H sI) (nb : ∀ b o, sI.heap.get? b = some o → b ∉ frs X.stack → B.get? b = some o) (st : B.StaysIn s'.heap) (up : sI.heap.UpToSlots s'.heap)
    (os : s'.os = sI.os) (ag : AllBare s'.gens) (na : H a = none) (nB : B.get? a = none) (nfr : a ∉ frs X.stack) (ho : s'.heap.get? a = some oe) (hc : oe.cls = cls) (hd : oe.dict = some dd) (hv : oe.data = .fields vs) : Inv X pins σ (upd H a (ExH cls dd a)) s' := by
  have nsI : ∀ b o, sI.heap.get? b = some o → b ≠ a := fun b o e z => by
    subst z
    have := nb b o e nfr
    rw [nB] at this; cases this
  have nf : ∀ b ∈ frs X.stack, ∀ o, sI.heap.get? b = some o → ∃ sl, s'.heap.get? b = some { o with slots := sl } := fun b hb o e => by
    obtain ⟨_, o', e', hd⟩ := I.stack.mem hb
    rw [e] at e'; cases e'
    exact up b o e hd
  have hok : HOk X.prog X.w (upd H a (ExH cls dd a)) s'.heap := HOk.laidN ((I.inGround nb).kept st) (fun _ _ q => q) na ⟨⟨oe, vs, ho, hc, hd, hv⟩, ⟨oe, ho⟩, fun h1 h2 ⟨o, v, q, r⟩ k => ⟨o, v, k o q, r⟩⟩
  have J := I.call (ch := []) (h' := s'.heap) (g' := s'.gens) (t' := s'.toks) (d' := s'.drawn) (H' := upd H a (ExH cls dd a))
    ⟨fun b o e _ hb _ => st b o (nb b o e hb), fun b o e _ hb _ => nf b hb o e, fun b o e n _ => by rw [upd_ne (nsI b o e)]; exact n, fun b o e _ => by
      by_cases hb : b ∈ frs X.stack
      · obtain ⟨sl, q⟩ := nf b hb o e
        exact ⟨_, q⟩
      · exact ⟨o, st b o (nb b o e hb)⟩, fun b xs e => by rw [upd_ne (ne_of_none e na)]; exact e, fun b ob u e => by rw [upd_ne (ne_of_none e na)]; exact e, fun b ps e => ⟨#[], by rw [upd_ne (ne_of_none e na), e]; simp⟩⟩
    hok ag (fun _ z => nomatch z)
  obtain ⟨a1, a2, a3, a4, a5⟩ := s'
  have e5 : a5 = sI.os := os
  subst e5
  exact J
theorem _root_.L2.Inv.suiteZ (I : Inv X pins σ H s) (a : Addr) : Inv (X.suite a (X.pn ++ pins)) [] σ H s :=
  ⟨I.ok.suite _ _, I.os, I.bare, I.base, I.loc, I.cell, I.free, I.freeC, fun p hp => I.pin p (by rw [List.append_nil] at hp; exact hp), I.hok, I.len⟩
theorem _root_.L2.Inv.unsuiteZ {a : Addr} {pn' : List (Addr × Obj)} (I : Inv (X.suite a (X.pn ++ pins)) pn' σ H s) (ok : X.Ok) : Inv X pins σ H s :=
  ⟨ok, I.os, I.bare, I.base, I.loc, I.cell, I.free, I.freeC, fun p hp => I.pin p (List.mem_append_left _ hp), I.hok, I.len⟩
end
def setI {α : Type} (oi : Option Nat) (x : α) (σ : List (Option α)) : List (Option α) := match oi with
  | some i => σ.set i (some x)
  | none => σ
def outI {α : Type} (oi : Option Nat) (σ : List (Option α)) : List (Option α) := match oi with
  | some i => σ.set i none
  | none => σ
def endsI (oi : Option Nat) (D : Ends) : Ends := { nx := fun σ H => D.nx (outI oi σ) H, rt := D.rt, bk := fun σ H => D.bk (outI oi σ) H, ct := fun σ H => D.ct (outI oi σ) H }
abbrev TSX := Addr → Value → Addr → TS
/-- what the clauses wish of an exception of the body -/
def wZ (K : PySem.W.Frag) (Wout : WX) (D : Ends) : List (Value × Option Nat × TSX) → WX
  | [] => Wout
  | (c, oi, ts) :: r => fun cls d σ H => ∃ b, PySem.W.exmOne K cls c = some b ∧ (b = true → ∃ dd, d = some dd ∧ ∀ a, H a = none → ts a cls dd (endsI oi D) (setI oi (V.ref a) σ) (upd H a (ExH cls dd a))) ∧ (b = false → wZ K Wout D r cls d σ H)
inductive HdsZ (X : Cx) : List ExceptHandler → List (Value × Option Nat × TSX) → Prop
  | nil : HdsZ X [] []
  | named {x n : Str} {c : Value} {i : Nat} {ts : TSX} {b₀ : Stmt} {suite : List Stmt} {np pos' : Pos} {hds : List ExceptHandler} {l : List (Value × Option Nat × TSX)} (hc : Names X x c) (hi : X.N[i]? = some n) (hln : X.env.kindOf n = some .local)
      (hsu : ∀ (a : Addr) (cls : Value) (dd : Addr) (pn : List (Addr × Obj)), PSs (X.suite a pn) (b₀ :: suite) (ts a cls dd)) (r : HdsZ X hds l) : HdsZ X (.ExceptHandler (some (.Name x np)) (some n) (b₀ :: suite) pos' :: hds) ((c, some i, ts) :: l)
  | bare {x : Str} {c : Value} {ts : TSX} {b₀ : Stmt} {suite : List Stmt} {np pos' : Pos} {hds : List ExceptHandler} {l : List (Value × Option Nat × TSX)} (hc : Names X x c)
      (hsu : ∀ (a : Addr) (cls : Value) (dd : Addr) (pn : List (Addr × Obj)), PSs (X.suite a pn) (b₀ :: suite) (ts a cls dd)) (r : HdsZ X hds l) : HdsZ X (.ExceptHandler (some (.Name x np)) none (b₀ :: suite) pos' :: hds) ((c, none, ts) :: l)
section
variable {X : Cx} {body : List Stmt} {h₀ : ExceptHandler} {hds : List ExceptHandler} {l : List (Value × Option Nat × TSX)} {pos : Pos} {tb : WX → TS} {Wout : WX}
theorem ps_tryZ (hs : X.stack = X.env :: X.outer) (hf : X.env.frame = some X.env.locals) (hN : X.N.Nodup) (tk : Takes X Wout)
    (hb : ∀ (W : WX) (pn : List (Addr × Obj)) (xe : Value → Shared → Prop), Takes (X.tr pn xe) W → PassesOwn (model X.prog X.w) X.A X.env xe → PSs (X.tr pn xe) body (tb W))
    (hh : HdsZ X (h₀ :: hds) l) : PS X (.Try body (h₀ :: hds) [] [] pos) (fun D σ H => tb (wZ X.K Wout D l) D σ H) := by
  refine ⟨fun pins s σ H D I h => ?_⟩
  have ok := I.ok
  have hfr : X.A.frames = some (X.env :: X.outer) := by rw [ok.frames, hs]
  refine wpAny_Try_except ?_
  refine wpAny_mono ((hb (wZ X.K Wout D l) (X.pn ++ pins) (fun e s₁ => wpAny (model X.prog X.w) X.A (noteFrame e X.env) (fun _ s₂ => wpAny (model X.prog X.w) X.A (setFlight e none) (fun _ s₃ =>
    wpAny (model X.prog X.w) X.A (handleBy e X.env (h₀ :: hds)) (SP X pins D) X.xe s₃) X.xe s₂) X.xe s₁) (fun u s' xx => ?_) PassesOwn.looking).run [] s σ H D (I.toTry _) h) (fun f s1 hsp => ?_) (fun e s1 he => he)
  · obtain ⟨a, B, sI, pins', σ', H', cls, d, rfl, J', nb, up, sky, na, os, ag, w⟩ := xx
    have J : Inv X pins σ' H' sI := J'.ofTry ok
    have sky' : Sky B (X.env :: X.outer) a (Zc cls d) X.env.locals s'.heap := by rw [← hs]; exact sky
    show wpAny (model X.prog X.w) X.A (noteFrame (.ref a) X.env) _ _ _
    refine Sky.land Zc.steady hfr hf sky' fun h3 fl3 up3 => ?_
    have J3 : Inv X pins σ' H' { s' with heap := h3 } := J.landed nb fl3.1 (up.trans up3) os ag
    obtain ⟨oe3, vs3, he3, hz3, hd3⟩ := fl3.there
    have notFr : ∀ {h : Heap} {o : Obj} {vs : Array Value}, h.FunFrames B (X.env :: X.outer) → h.get? a = some o → o.data = .fields vs → a ∉ frs (X.env :: X.outer) := fun {h o vs} ff e dd hm => by
      obtain ⟨_, o', e', hnf⟩ := ff.mem hm
      rw [e] at e'; cases e'
      exact hnf _ dd
    have nfr := notFr fl3.2.2.1 he3 hd3
    have S3 := J3.suiteZ a
    have go : ∀ {hds' : List ExceptHandler} {l' : List (Value × Option Nat × TSX)}, HdsZ X hds' l' → wZ X.K Wout D l' cls d σ' H' →
        wpAny (model X.prog X.w) X.A (handleBy (.ref a) X.env hds') (SP X pins D) X.xe { s' with heap := h3 } := by
      intro hds' l' hk
      have LT : PySem.W.Looks (model X.prog X.w) h3 (typeOf (.ref a)) cls := fun A Q E s k q => wpAny_typeOf_ref (k _ _ he3) (by rw [hz3.1]; exact q)
      have test : ∀ {x : Str} {c : Value} {np : Pos} {Q : Value → Shared → Prop} {E : Value → Shared → Prop}, Names X x c → Q c { s' with heap := h3 } → wpAny (model X.prog X.w) (X.A.mark (some (.ref a))) (eval (.Name x np) X.env) Q E { s' with heap := h3 } := fun {x c np Q E} hc q => by
        obtain ⟨hg, hdbg, hm | ⟨hm, hv, hnn⟩⟩ := hc
        · exact ld_glob (X := X.suite a (X.pn ++ pins)) S3 hg hm q hdbg
        · exact ld_blt (X := X.suite a (X.pn ++ pins)) S3 hg hm hv q hnn hdbg
      -- the suite's entry
      have enter : ∀ {dd : Addr} {h4 : Heap}, d = some dd → HandSPX.FlyingZ B (X.env :: X.outer) a (Zc cls d) h4 → h3.UpToSlots h4 → Inv X pins σ' (upd H' a (ExH cls dd a)) { s' with heap := h4 } := fun {dd h4} ed fl4 up4 => by
        obtain ⟨oe4, vs4, he4, hz4, hd4⟩ := fl4.there
        exact landedX (l := X.stack) (Z := fun _ => True) J nb fl4.1 ((up.trans up3).trans up4) os ag na fl4.2.1 (by rw [hs]; exact nfr) he4 hz4.1 (hz4.2.trans ed) hd4
      induction hk with
      | nil =>
        intro w
        refine wpAny_handleBy_nil ?_
        obtain ⟨k1, k2, k3, oe, vs, T, oT, ts', he, hz, hd, h1, hr⟩ := id fl3
        unfold PySem.passOn
        refine wpAny_bind (wpAny_field he hd h1 ?_)
        rw [if_neg (show ¬ ((Value.ref T == Value.none) = true) from by simp)]
        have fin : wpAny (model X.prog X.w) X.A (setFlight (.ref a) X.env.frame) (fun _ s4 => wpAny (model X.prog X.w) X.A (throw (.ref a) : Sem Flow) (SP X pins D) X.xe s4) X.xe { s' with heap := h3 } := by
          rw [hf]
          refine HandSPX.setFlight_upZ fl3 fun h4 hh4 up4 => wpAny_throw (tk _ _ ?_)
          exact ⟨a, B, sI, pins, σ', H', cls, d, rfl, J, nb, (up.trans up3).trans up4, .inr (.inr (by rw [hs]; exact hh4)), na, os, ag, w⟩
        first
          | exact wpAny_bind (wpAny_pure (wpAny_bind fin))
          | exact wpAny_bind fin
      | @bare x c ts b₀ suite np pos' hds2 l2 hc hsu r ih =>
        intro w
        obtain ⟨b, hb1, hyes, hno⟩ := w
        refine wpAny_handleBy_cons (codeAny_handlers_test ?_) (by intro q; cases q)
        have LM := PySem.W.exm_one (M := model X.prog X.w) (J3.kIn) LT hb1
        refine test hc (LM.here ?_)
        cases b with
        | true =>
          obtain ⟨dd, ed, hyes⟩ := hyes rfl
          refine codeAny_handlers_suite ?_
          refine HandSPX.lands_againZ fl3 fun h4 fl4 up4 => ?_
          have S4 := (enter ed fl4 up4).suiteZ a
          refine wpAny_mono ((hsu a cls dd (X.pn ++ pins)).run [] _ _ _ _ S4 (hyes a na)) (fun f s6 hsp => ?_) (fun _ _ z => False.elim z)
          cases f with
          | next =>
            obtain ⟨σ6, H6, S6, q6⟩ := hsp
            exact ⟨_, _, S6.unsuiteZ ok, q6⟩
          | brk =>
            obtain ⟨σ6, H6, S6, q6⟩ := hsp
            exact ⟨_, _, S6.unsuiteZ ok, q6⟩
          | cont =>
            obtain ⟨σ6, H6, S6, q6⟩ := hsp
            exact ⟨_, _, S6.unsuiteZ ok, q6⟩
          | ret u =>
            obtain ⟨v6, σ6, H6, S6, r6, q6⟩ := hsp
            exact ⟨_, _, _, S6.unsuiteZ ok, r6, q6⟩
        | false =>
          show wpAny _ X.A (handleBy (.ref a) X.env hds2) _ _ _
          exact ih (hno rfl)
      | @named x n c i ts b₀ suite np pos' hds2 l2 hc hi hln hsu r ih =>
        intro w
        obtain ⟨b, hb1, hyes, hno⟩ := w
        refine wpAny_handleBy_cons (codeAny_handlers_test ?_) (by intro q; cases q)
        have LM := PySem.W.exm_one (M := model X.prog X.w) (J3.kIn) LT hb1
        refine test hc (LM.here ?_)
        cases b with
        | true =>
          obtain ⟨dd, ed, hyes⟩ := hyes rfl
          refine codeAny_handlers_suite_as ?_
          refine HandSPX.lands_againZ fl3 fun h4 fl4 up4 => ?_
          have S4 := (enter ed fl4 up4).suiteZ a
          refine store_ok (X := X.suite a (X.pn ++ pins)) (v := .ref a) S4 hN hi (.inl hln) rfl (fun s5 S5 => ?_) (.inr hln)
          refine wpAny_mono ((hsu a cls dd (X.pn ++ pins)).run [] s5 _ _ _ S5 (hyes a na)) (fun f s6 hsp => ?_) (fun _ _ z => False.elim z)
          have end_ : ∀ {σ6 : L2.St} {H6 : Hp} {Q : Shared → Prop}, Inv (X.suite a (X.pn ++ pins)) [] σ6 H6 s6 → (∀ s7, Inv X pins (σ6.set i none) H6 s7 → Q s7) →
              wpAny (model X.prog X.w) X.A (do bindName X.env n .none; unbindBehindTheSuite X.env n pos') (fun _ s7 => Q s7) X.xe s6 := fun {σ6 H6 Q} S6 hq => gone_ok (S6.unsuiteZ ok) hN hi hln hq
          cases f with
          | next =>
            obtain ⟨σ6, H6, S6, q6⟩ := hsp
            exact end_ S6 fun s7 J7 => ⟨_, _, J7, q6⟩
          | brk =>
            obtain ⟨σ6, H6, S6, q6⟩ := hsp
            exact end_ S6 fun s7 J7 => ⟨_, _, J7, q6⟩
          | cont =>
            obtain ⟨σ6, H6, S6, q6⟩ := hsp
            exact end_ S6 fun s7 J7 => ⟨_, _, J7, q6⟩
          | ret u =>
            obtain ⟨v6, σ6, H6, S6, r6, q6⟩ := hsp
            exact end_ S6 fun s7 J7 => ⟨_, _, _, J7, r6, q6⟩
        | false =>
          show wpAny _ X.A (handleBy (.ref a) X.env hds2) _ _ _
          exact ih (hno rfl)
    exact go hh w
  · cases f with
    | next =>
      obtain ⟨σ', H', J', q⟩ := hsp
      exact wpAny_execs_nil ⟨σ', H', J'.ofTry ok, q⟩
    | brk =>
      obtain ⟨σ', H', J', q⟩ := hsp
      exact ⟨σ', H', J'.ofTry ok, q⟩
    | cont =>
      obtain ⟨σ', H', J', q⟩ := hsp
      exact ⟨σ', H', J'.ofTry ok, q⟩
    | ret u =>
      obtain ⟨v, σ', H', J', r, q⟩ := hsp
      exact ⟨v, σ', H', J'.ofTry ok, r, q⟩
end

/-! ### denotations -/
/-- at a suite's end -/
def endI (oi : Option Nat) : SRes → SRes
  | .nx e => .nx (outI oi e)
  | .bk e => .bk (outI oi e)
  | .ct e => .ct (outI oi e)
  | .rt o e => .rt o e
  | _ => .stuck
abbrev Hd := (Nat → Option Bool) × Option Nat × (Env → SRes)
def catchD : List Hd → Exn → Env → SRes
  | [], x, e => .err x e
  | (f, oi, ms) :: r, x, e => match f x.c with
    | some true => endI oi (ms (setI oi (.val (.exn x.c x.fs)) e))
    | some false => catchD r x e
    | none => .stuck
def tryD (mb : Env → SRes) (hs : List Hd) : Env → SRes := fun e => match mb e with
  | .err x e1 => catchD hs x e1
  | r => r
def W0 : WX := fun _ _ _ _ => False
/-- the clauses' readings -/
inductive RdH (c : Cf) (K : PySem.W.Frag) (pin : List Nat) (σ0 : L2.St) : List (Value × Option Nat × TSX) → List Hd → Prop
  | nil : RdH c K pin σ0 [] []
  | cons {v : Value} {oi : Option Nat} {f : Nat → Option Bool} {ms : Env → SRes} {l : List (Value × Option Nat × TSX)} {hs : List Hd} (ht : ∀ k b, f k = some b → PySem.W.exmOne K (.ref (c.cls k)) v = some b) (hp : ∀ i, oi = some i → pin.contains i = false) (r : RdH c K pin σ0 l hs) :
      RdH c K pin σ0 ((v, oi, fun _ _ _ => S c W0 pin σ0 ms) :: l) ((f, oi, ms) :: hs)
section
variable {X : Cx} {c : Cf} {XW : WX} {pin : List Nat} {σ0 σ : L2.St} {W H : Hp} {e : Env} {F : List Addr} {l : List (Value × Option Nat × TSX)} {hs : List Hd}
theorem catch_run {K : PySem.W.Frag} {D : Ends} {x : Exn} (r : RdH c K pin σ0 l hs) (post : SPst c XW pin σ0 W H F (catchD hs x e) D) {W' H' : Hp} {σ' : L2.St} {F' : List Addr} {cls : Value} {d : Option Addr} (g : Gr W H F W' H' F') (s : Slots c W' H' σ' e F') (pn : PinOk pin σ0 σ') (rx : ExRep c W' x cls d H') :
    wZ K XW D l cls d σ' H' := by
  induction r with
  | nil => exact post W' H' σ' F' cls d g s pn rx
  | @cons v oi f ms l hs ht hp r ih =>
    unfold catchD at post
    obtain ⟨ec, dd, fs, ed, hd, hn, hl⟩ := id rx
    cases q : f x.c with
    | none => rw [q] at post; exact post.elim
    | some b =>
      refine ⟨b, by rw [ec]; exact ht _ _ q, fun hb => ⟨dd, ed, fun a na => ?_⟩, fun hb => ?_⟩
      · subst hb
        rw [q] at post
        dsimp only at post
        have ha : W' a = none := g.le.free na
        have g2 : Gr W' H' F' (upd W' a (ExH cls dd a)) (upd H' a (ExH cls dd a)) F' := Gr.allocV g.le na
        have g2' : Gr W' H' [] (upd W' a (ExH cls dd a)) (upd H' a (ExH cls dd a)) [] := Gr.allocV g.le na
        have s2 := s.frame g2' Disj.nil_right
        have dx : Dat c (upd W' a (ExH cls dd a)) (.ref a) (.exn x.c x.fs) := .exn (d := dd) (by rw [upd_same, ec]) (by rw [upd_ne (ne_of_none hd ha)]; exact hd) hn (hl.mono (.of_same g2.w))
        have st : ∃ F2, Slots c (upd W' a (ExH cls dd a)) (upd H' a (ExH cls dd a)) (setI oi (V.ref a) σ') (setI oi (.val (.exn x.c x.fs)) e) F2 ∧ (∀ y ∈ F2, y ∈ F') ∧ PinOk pin σ0 (setI oi (V.ref a) σ') := by
          cases oi with
          | none => exact ⟨F', s2, fun _ z => z, pn⟩
          | some i =>
            obtain ⟨F2, s3, sub⟩ := s2.set' i (.val dx) Disj.nil_left
            exact ⟨F2, s3, fun y hy => (sub y hy).elim id fun z => absurd z List.not_mem_nil, pn.set (hp i rfl)⟩
        obtain ⟨F2, s3, sub, pn3⟩ := st
        have gg : Gr W H F (upd W' a (ExH cls dd a)) (upd H' a (ExH cls dd a)) F2 := (g.trans g2).less sub
        refine ⟨_, _, F2, g2.le, s3, pn3, ?_⟩
        have out : ∀ {W3 H3 : Hp} {σ3 : L2.St} {e3 : Env} {F3 : List Addr}, Slots c W3 H3 σ3 e3 F3 → PinOk pin σ0 σ3 → ∃ F4, Slots c W3 H3 (outI oi σ3) (outI oi e3) F4 ∧ (∀ y ∈ F4, y ∈ F3) ∧ PinOk pin σ0 (outI oi σ3) := fun {W3 H3 σ3 e3 F3} s pn => by
          cases oi with
          | none => exact ⟨F3, s, fun _ z => z, pn⟩
          | some i =>
            obtain ⟨F4, s4, sub⟩ := s.drop1 i none
            exact ⟨F4, s4, sub, pn.set (hp i rfl)⟩
        cases q2 : ms (setI oi (.val (.exn x.c x.fs)) e) with
        | nx e3 =>
          rw [q2] at post
          exact fun W3 H3 σ3 F3 g3 s3 pn3 => let ⟨F4, s4, sub4, pn4⟩ := out s3 pn3; post W3 H3 _ F4 ((gg.trans g3).less sub4) s4 pn4
        | bk e3 =>
          rw [q2] at post
          exact fun W3 H3 σ3 F3 g3 s3 pn3 => let ⟨F4, s4, sub4, pn4⟩ := out s3 pn3; post W3 H3 _ F4 ((gg.trans g3).less sub4) s4 pn4
        | ct e3 =>
          rw [q2] at post
          exact fun W3 H3 σ3 F3 g3 s3 pn3 => let ⟨F4, s4, sub4, pn4⟩ := out s3 pn3; post W3 H3 _ F4 ((gg.trans g3).less sub4) s4 pn4
        | rt o e3 =>
          rw [q2] at post
          exact fun W3 H3 σ3 v F3 Fo g3 s3 pn3 r3 d3 => post W3 H3 σ3 v F3 Fo (gg.trans g3) s3 pn3 r3 d3
        | err y e3 => rw [q2] at post; exact post.elim
        | stuck => rw [q2] at post; exact post.elim
      · subst hb
        rw [q] at post
        exact ih post
variable {body : List Stmt} {h₀ : ExceptHandler} {hds : List ExceptHandler} {pos : Pos} {mb : Env → SRes}
/-- try: .. except ..: .. -/
theorem s_try (hst : X.stack = X.env :: X.outer) (hf : X.env.frame = some X.env.locals) (hN : X.N.Nodup) (tk : Takes X XW)
    (hb : ∀ (W : WX) (pn : List (Addr × Obj)) (xe : Value → Shared → Prop), Takes (X.tr pn xe) W → PassesOwn (model X.prog X.w) X.A X.env xe → PSs (X.tr pn xe) body (S c W pin σ0 mb))
    (hh : HdsZ X (h₀ :: hds) l) (hr : RdH c X.K pin σ0 l hs) : PS X (.Try body (h₀ :: hds) [] [] pos) (S c XW pin σ0 (tryD mb hs)) :=
  ps_imp (ps_tryZ hst hf hN tk hb hh) fun D σ H ⟨W, e, F, le, s, pn, post⟩ => by
    refine ⟨W, e, F, le, s, pn, ?_⟩
    unfold tryD at post
    cases q : mb e with
    | nx e1 => rw [q] at post; exact post
    | bk e1 => rw [q] at post; exact post
    | ct e1 => rw [q] at post; exact post
    | rt o e1 => rw [q] at post; exact post
    | stuck => rw [q] at post; exact post
    | err x e1 =>
      rw [q] at post
      exact fun W' H' σ' F' cls d g s' pn' rx => catch_run hr post g s' pn' rx
end
end Z

set_option maxRecDepth 100000
set_option maxHeartbeats 2000000
/-! Z.builtins: what the built-in functions make of data -/
namespace Z
open PySem PySem.W PySem.Spec PySem.Calls PyProof.Rows
section
variable {prog : Program} {w : World} {A : Around} {E : Value → Shared → Prop} {s : Shared} {K : Frag} {x D : Addr} {ox : Obj} {od : Option Obj}
theorem findObj_dataZ {C : Addr} {name : Str} {a g : Value} (hc : (clsIn K C).isSome = true) (ha : findIn K (.ref C) name = some (some a)) (hg : specialIn K a "__get__" = some (some g)) (ht : takesIn K a = some true) : findObj K C od name = some (.bind g a) := by
  obtain ⟨cd, hc⟩ := Option.isSome_iff_exists.mp hc
  unfold findObj
  rw [hc, Option.bind_some, ha, Option.bind_some]
  simp [hg, ht]
theorem kin_classZ {Q : Option Value → Shared → Prop} (hga : findIn K (.ref D) "__getattribute__" = some (some (.builtin "BaseException.__getattribute__"))) (hgt : findIn K (.ref D) "__getattr__" = some none) (hsub : subIn K (.ref D) (.type "BaseException") = some true)
    (hdct : hasDictIn K D = true) (ha : findIn K (.ref D) "__class__" = some (some (.builtin "object.__class__")))
    (hn : specialIn K (.builtin "object.__class__") "__get__" = some (some (.builtin "getset_descriptor.__get__"))) (htk : takesIn K (.builtin "object.__class__") = some true) (hm : mroIn K D (.type "object") = some true)
    (X : K.In s.heap) (I : InstAt s.heap x ox D od) (h : Q (some (.ref D)) { s with toks := s.toks + 1 }) : wpAny (model prog w) A (getAttr? (.ref x) "__class__") Q E s := by
  have hf : findObj K D od "__class__" = some (.bind (.builtin "getset_descriptor.__get__") (.builtin "object.__class__")) := findObj_dataZ (by obtain ⟨cd, hc, _⟩ := any_some hdct; rw [hc]; rfl) ha hn htk
  obtain ⟨hp, g, d, t, os⟩ := s
  have L0 := I.type (M := model prog w)
  have L1 := looks_findIn (M := model prog w) X hga
  have L2 := looks_findIn (M := model prog w) X hgt
  have L3 := looks_find (M := model prog w) X I hf
  have sub : Looks (model prog w) hp (isInstance (.ref x) (.type "BaseException")) true := L0.andThen (looks_subIn X hsub)
  have hx0 : (false && onTheHeap (Value.builtin "BaseException.__getattribute__")) = false := rfl
  have hx2 : (Value.builtin "BaseException.__getattribute__" == Value.builtin "object.__getattribute__") = false := by decide +kernel
  have hx1 : (onTheHeap (Value.ref D) && Value.builtin "BaseException.__getattribute__" == Value.builtin "object.__getattribute__") = false := by rw [hx2]; rfl
  unfold getAttr? getAttrBy? getAttrBy
  refine wpAny_bind (wpAny_mkText (wpAny_bind (wpAny_attempt (wpAny_holding (wpAny_bind (L0.at (wpAny_bind (L1.at ?_))))))))
  show wpAny _ _ (if (onTheHeap (Value.ref D) && Value.builtin "BaseException.__getattribute__" == Value.builtin "object.__getattribute__") = true then _ else _) _ _ _
  rw [hx1, if_neg Bool.false_ne_true]
  unfold getAttrByItsOwn hookBefore
  refine wpAny_bind ?_
  rw [if_pos (show onTheHeap (Value.ref D) = true from rfl)]
  refine L2.at ?_
  refine wpAny_bind (wpAny_attempt (wpAny_holding ?_))
  unfold callGetattribute
  rw [hx0, if_neg Bool.false_ne_true]
  unfold boundAndCalled
  rw [PySem.F.excAttr_ValueError.ga.bind (.ref x)]
  refine wpAny_bind (wpAny_pure ?_)
  show wpAny _ _ (call (.builtin "BaseException.__getattribute__") [.ref x, .str "__class__" t]) _ _ _
  refine wpAny_call (codeAny_call_builtin PySem.F.excAttr_ValueError.ga.plain PySem.F.entry_bexc_ga ?_)
  refine @check_slot (model prog w) _ _ ⟨hp, g, d, t + 1, os⟩ "BaseException.__getattribute__" "BaseException" "__getattribute__" (.ref x) [.str "__class__" t] [] _ (by decide +kernel) (by decide +kernel) sub (PySem.F.args_bexc_ga (.ref x) (.str "__class__" t)) ?_
  unfold Builtin.«object.__getattribute__»
  refine wpAny_bind (wpAny_of_eq (a := ((Value.ref x : Value), [Value.str "__class__" t])) (by first | rfl | (simp only [slotArgs]; rfl)) ?_)
  refine wpAny_bind (wpAny_pure (wpAny_bind (L0.at (wpAny_bind (L3.at ?_)))))
  show wpAny _ _ (holding [Value.builtin "object.__class__"] (call (.builtin "getset_descriptor.__get__") [.builtin "object.__class__", .ref x, .ref D]) >>= ret) _ _ _
  refine wpAny_bind (wpAny_holding (wpAny_call (class_get (s := ⟨hp, g, d, t + 1, os⟩) (ox := ox) (od := od) X I hm ?_)))
  refine wpAny_pure ?_
  show wpAny _ _ (handedOut (.ref D)) _ _ _
  rw [handedOut_of (v := .ref D) rfl]
  first
    | exact wpAny_pure (wpAny_pure h)
    | exact wpAny_pure h
    | exact wpAny_pure (wpAny_bind (wpAny_pure (wpAny_pure h)))
theorem kitx_excZ (C : L2.ExcC K D) : KitX K (.ref x) (.ref D) (fun h => InstAt h x ox D od) where
  ty := fun _ _ _ I => I.type
  it := fun _ _ X _ => by
    obtain ⟨cdD, hcD, _⟩ := any_some C.hd
    unfold clsIn at hcD
    split at hcD
    · rename_i c' d' cd' sl' ho
      intro A' Q' E' s' k q
      unfold isType loadHead
      exact wpAny_bind (wpAny_loadPart (k _ _ (X _ _ ho)) (wpAny_pure q))
    · cases hcD
  ne := fun h tp dd its n sl X htp => by
    obtain ⟨cdD, hcD, _⟩ := any_some C.hd
    refine Bool.eq_false_iff.mpr fun q => ?_
    have e : D = tp := Value.ref.inj (beq_iff_eq.mp q)
    subst e
    unfold clsIn at hcD
    split at hcD
    · rename_i c' d' cd' sl' ho
      have z := (X _ _ ho).symm.trans htp
      cases z
    · cases hcD
  ca := fun X I k => kin_classZ C.hg C.hk C.hs C.hd C.ha C.hn C.ht C.hm X I k
end
end Z
namespace Z
open PySem L2 PySem.Spec PyProof.Rows

/-! ### isinstance -/
inductive Ty where
  | b (n : String) | o (k : Nat)
deriving DecidableEq
def D.tyOf : D → Option Ty
  | .non => some (.b "NoneType")
  | .bl _ => some (.b "bool")
  | .int _ => some (.b "int")
  | .str _ => some (.b "str")
  | .tup _ => some (.b "tuple")
  | .ctp _ => some (.b "tuple")
  | .lst _ => some (.b "list")
  | .dct _ => some (.b "dict")
  | .obj k _ => some (.o k)
  | .exn k _ => some (.o k)
  | _ => none
def D.clsTy : D → Option Ty
  | .ty n => some (.b n)
  | .cl k => some (.o k)
  | _ => none
def Ty.v (c : Cf) : Ty → Value
  | .b n => .type n
  | .o k => .ref (c.cls k)
def anyTy (tab : Ty → Ty → Option Bool) (t : Ty) : List D → Option Bool
  | [] => some false
  | d :: ds => match d.clsTy.bind (tab t) with
    | some true => some true
    | some false => anyTy tab t ds
    | none => none
/-- a table of types: own classes, own exceptions -/
structure IsT where
  tab : Ty → Ty → Option Bool
  ins : List Nat
  exc : List Nat
def tyI (T : IsT) : D → Option Ty
  | .obj k _ => if T.ins.contains k = true then some (.o k) else none
  | .exn k _ => if T.exc.contains k = true then some (.o k) else none
  | d => d.tyOf
def isiF (T : IsT) : List D → Option D
  | [x, .tup cs] => (tyI T x).bind fun t => (anyTy T.tab t cs).map .bl
  | [x, d] => (tyI T x).bind fun t => (d.clsTy.bind (T.tab t)).map .bl
  | _ => none
/-- an own class's instances: what isinstance asks -/
def InsF (K : PySem.W.Frag) (C : Addr) : Prop := Cls K C ∧ PySem.W.findIn K (.ref C) "__class__" = some (some (.builtin "object.__class__")) ∧ PySem.W.specialIn K (.builtin "object.__class__") "__get__" = some (some (.builtin "getset_descriptor.__get__")) ∧
  PySem.W.takesIn K (.builtin "object.__class__") = some true ∧ PySem.W.mroIn K C (.type "object") = some true
/-- what the written part says of the classes in the table -/
structure TabOk (c : Cf) (T : IsT) : Prop where
  one : ∀ t u b, T.tab t u = some b → PySem.W.kitOne c.K (t.v c) (u.v c) = some b
  ins : ∀ k, T.ins.contains k = true → InsF c.K (c.cls k)
  exc : ∀ k, T.exc.contains k = true → ExcC c.K (c.cls k)
def rIsZ (c : Cf) (T : IsT) : List V → Hp → VK → Prop := fun xs H Q => ∃ ds b, DatL c H xs ds ∧ isiF T ds = some (.bl b) ∧ Q (.bl b) H
section
variable {X : Cx} {c : Cf} {T : IsT}
theorem clsTy_val {H : Hp} {v : V} {d : D} {u : Value} {t : Ty} (h : Dat c H v d) (r : RelV v u) (e : d.clsTy = some t) : u = t.v c := by
  cases h with
  | ty n => cases e; exact r
  | cl k => cases e; exact r
  | _ => cases e
theorem anyTy_kit (ok : TabOk c T) {H : Hp} {t : Ty} : ∀ {vs : List V} {ds : List D} {us : List Value} {b : Bool}, DatL c H vs ds → Vals vs us → anyTy T.tab t ds = some b → PySem.W.kitAny c.K (t.v c) us = some b
  | _, _, _, b, .nil, .nil, h => by cases h; rfl
  | _, _, _, b, .cons (d := d) (ds := ds) a k, .cons r rr, h => by
    unfold anyTy at h
    cases q : d.clsTy with
    | none => rw [q] at h; cases h
    | some t' =>
      rw [q] at h
      have eu := clsTy_val a r q
      subst eu
      cases q2 : T.tab t t' with
      | none => rw [show (some t').bind (T.tab t) = none from q2] at h; cases h
      | some b' =>
        rw [show (some t').bind (T.tab t) = some b' from q2] at h
        have o1 := ok.one t t' b' q2
        unfold PySem.W.kitAny
        rw [o1]
        cases b' with
        | true => cases h; rfl
        | false => exact anyTy_kit ok k rr h
/-- what the library's rules ask of the value -/
theorem kit_dat (hK : X.K = c.K) {pins : List (Addr × Obj)} {σ : L2.St} {H : Hp} {s : Shared} {v : V} {d : D} {u : Value} {t : Ty} (I : Inv X pins σ H s) (h : Dat c H v d) (r : RelV v u) (e : d.tyOf = some t)
    (ho : ∀ k fs, d = .obj k fs → InsF c.K (c.cls k)) (he : ∀ k fs, d = .exn k fs → ExcC c.K (c.cls k)) :
    ∃ P : Heap → Prop, PySem.W.KitX X.K u (t.v c) P ∧ P s.heap ∧ u ≠ .builtin "__main__.__loader__#opaque" := by
  have base : ∀ {tv : Value}, TyX X.K H v tv → tv = t.v c → ∃ P : Heap → Prop, PySem.W.KitX X.K u (t.v c) P ∧ P s.heap ∧ u ≠ .builtin "__main__.__loader__#opaque" := fun {tv} ty et => by
    rw [← et]; exact kit_of I r ty
  have sqT : ∀ {a : Addr} {xs : List V}, SqT X.K H a xs → TyX X.K H (.ref a) (.type "tuple") := fun {a xs} z => by
    rcases z with (z | ⟨ob, z⟩) | ⟨oo, its, n, lk, hc, _⟩
    · exact .base (.tup z)
    · exact .fTuple z
    · exact .kTuple lk hc
  cases h with
  | non => cases e; exact base (.base .non) rfl
  | bl b => cases e; exact base (.base (.bl b)) rfl
  | int i => cases e; exact base (.base (.int i)) rfl
  | str z hz => cases e; exact base (.base (.str z)) rfl
  | tup hw k => cases e; exact base (.base (.tup hw)) rfl
  | ctp hw k => cases e; rw [← hK] at hw; exact base (sqT hw) rfl
  | lst hw k =>
    cases e
    rw [← hK] at hw
    rcases hw with (z | ⟨ob, z⟩) | ⟨dd, its, n, lk, hc, _⟩
    · exact base (.base (.lst z)) rfl
    · exact base (.base (.frz z)) rfl
    · exact base (.kList lk hc) rfl
  | dct hw n k =>
    cases e
    rcases hw with z | ⟨ob, z⟩
    · exact base (.base (.dK z)) rfl
    · exact base (.fDict z) rfl
  | dcT hw n k => cases e
  | obj hw n k =>
    cases e
    obtain ⟨cl, h1, h2, h3, h4⟩ := ho _ _ rfl
    rw [← hK] at cl h1 h2 h3 h4
    exact base (.base (.ins hw cl h1 h2 h3 h4)) rfl
  | exn h1 h2 n k =>
    cases e
    obtain rfl : u = Value.ref _ := r
    obtain ⟨⟨oe, vs, ho, hc, hd, hv⟩, _, _⟩ := I.hok _ _ h1
    obtain ⟨mA, hns, _⟩ := I.hok _ _ h2
    obtain ⟨od, hod, _⟩ := lookIn_ns hns
    rw [hK]
    exact ⟨_, kitx_excZ (he _ _ rfl), (⟨ho, hc, by unfold PySem.W.notCls; rw [hv] <;> rfl, by rw [hd]; exact hod⟩ : PySem.W.InstAt s.heap _ oe _ (some od)), fun z => nomatch z⟩
  | fn => cases e
  | ty => cases e
  | cl => cases e
theorem tyI_of {d : D} {t : Ty} (h : tyI T d = some t) : d.tyOf = some t := by
  unfold tyI at h
  split at h
  · split at h
    · exact h
    · cases h
  · split at h
    · exact h
    · cases h
  · exact h
theorem cr_isi (hK : X.K = c.K) (ok : TabOk c T) : CallR X (.builtin "isinstance") (rIsZ c T) := by
  intro pins s σ H vs us Q I r h
  obtain ⟨ds, b, hd, hf, q⟩ := h
  have two : ∃ x d, ds = [x, d] ∧ ((∃ cs, d = .tup cs ∧ (tyI T x).bind (fun t => (anyTy T.tab t cs).map D.bl) = some (.bl b)) ∨ ((tyI T x).bind (fun t => (d.clsTy.bind (T.tab t)).map D.bl) = some (.bl b))) := by
    unfold isiF at hf
    split at hf
    · exact ⟨_, _, rfl, .inl ⟨_, rfl, hf⟩⟩
    · exact ⟨_, _, rfl, .inr hf⟩
    · cases hf
  obtain ⟨x, d, rfl, two⟩ := two
  obtain ⟨v, r1, rfl, hx, h1⟩ := hd.consD
  obtain ⟨v2, r2, rfl, hc, h2⟩ := h1.consD
  obtain rfl := h2.nilD
  obtain ⟨u1, u2, rfl, ru1, ru2⟩ := vals2 r
  have kit : ∀ {t : Ty}, tyI T x = some t → ∃ P : Heap → Prop, PySem.W.KitX X.K u1 (t.v c) P ∧ P s.heap ∧ u1 ≠ .builtin "__main__.__loader__#opaque" := fun {t} ht =>
    kit_dat hK I hx ru1 (tyI_of ht) (fun k fs e => by
      subst e
      unfold tyI at ht
      dsimp only at ht
      by_cases z : T.ins.contains k = true
      · exact ok.ins k z
      · rw [if_neg z] at ht; cases ht) (fun k fs e => by
      subst e
      unfold tyI at ht
      dsimp only at ht
      by_cases z : T.exc.contains k = true
      · exact ok.exc k z
      · rw [if_neg z] at ht; cases ht)
  rcases two with ⟨cs, ed, two⟩ | two
  · subst ed
    obtain ⟨t, ht, two⟩ := Option.bind_eq_some_iff.mp two
    obtain ⟨b', hb, eb⟩ := Option.map_eq_some_iff.mp two
    cases eb
    obtain ⟨P, Z, p, hx⟩ := kit ht
    cases hc with
    | tup hw k =>
      cases (show u2 = Value.ref _ from ru2)
      obtain ⟨_, its, rv, o, h1, h2, n, h3⟩ := (show ObjOk X.prog X.w H s.heap _ (.tup _) from I.hok _ _ hw)
      have ka := anyTy_kit ok k rv hb
      rw [← hK] at ka
      obtain ⟨oc, od, dt, sl⟩ := o
      simp only at h2 h3
      subst h2 h3
      exact PySem.W.kia_tup Z I.kIn p h1 ka hx fun tk => ⟨.bl b, H, I.tok tk, rfl, q⟩
  · obtain ⟨t, ht, two⟩ := Option.bind_eq_some_iff.mp two
    obtain ⟨b', hb, eb⟩ := Option.map_eq_some_iff.mp two
    cases eb
    obtain ⟨t', ht', hb⟩ := Option.bind_eq_some_iff.mp hb
    have eu := clsTy_val hc ru2 ht'
    subst eu
    obtain ⟨P, Z, p, hx⟩ := kit ht
    have o1 := ok.one t t' b hb
    rw [← hK] at o1
    exact PySem.W.kia_one Z I.kIn p o1 hx fun tk => ⟨.bl b, H, I.tok tk, rfl, q⟩
theorem sc_isi : ScL c (rIsZ c T) (isiF T) := fun H vs ds d v Q hd hf hv q => by
  have : ∃ b, d = .bl b := by
    unfold isiF at hf
    split at hf
    · obtain ⟨t, _, z⟩ := Option.bind_eq_some_iff.mp hf
      obtain ⟨b, _, e⟩ := Option.map_eq_some_iff.mp z
      exact ⟨b, e.symm⟩
    · obtain ⟨t, _, z⟩ := Option.bind_eq_some_iff.mp hf
      obtain ⟨b, _, e⟩ := Option.map_eq_some_iff.mp z
      exact ⟨b, e.symm⟩
    · cases hf
  obtain ⟨b, rfl⟩ := this
  cases hv
  exact ⟨ds, b, hd, hf, q⟩
end
end Z

set_option maxRecDepth 100000
set_option maxHeartbeats 2000000
/-! Z.builtins 2: len, abs, int, any, all, sum, max, min, tuple, list, sorted, repr -/
namespace Z
open PySem L2 PySem.Spec PyProof.Rows

def lenF : List D → Option D
  | [.str s] => some (.int s.length)
  | [.lst ds] => some (.int ds.length)
  | [.tup ds] => some (.int ds.length)
  | [.ctp ds] => some (.int ds.length)
  | _ => none
def absF : List D → Option D
  | [.int i] => some (.int (if i < 0 then -i else i))
  | _ => none
def intF : List D → Option D
  | [.int i] => some (.int i)
  | [.bl b] => some (.int (if b = true then 1 else 0))
  | _ => none
def max2F : List D → Option D
  | [.int i, .int j] => some (.int (if j > i then j else i))
  | _ => none
def min2F : List D → Option D
  | [.int i, .int j] => some (.int (if j < i then j else i))
  | _ => none
def boolsD : List D → Option (List Bool)
  | [] => some []
  | .bl b :: r => (boolsD r).map (b :: ·)
  | _ :: _ => none
def intsD : List D → Option (List Int)
  | [] => some []
  | .int i :: r => (intsD r).map (i :: ·)
  | _ :: _ => none
def strsD : List D → Option (List Str)
  | [] => some []
  | .str s :: r => (strsD r).map (s :: ·)
  | _ :: _ => none
def anyF : List D → Option D
  | [.lst ds] => (boolsD ds).map fun bs => .bl (bs.any id)
  | _ => none
def allF : List D → Option D
  | [.lst ds] => (boolsD ds).map fun bs => .bl (bs.all id)
  | _ => none
def sumF : List D → Option D
  | [.lst ds] => (intsD ds).map fun ns => .int ns.sum
  | _ => none
def imax : List Int → Int
  | [] => 0
  | [i] => i
  | i :: r => if i < imax r then imax r else i
def imin : List Int → Int
  | [] => 0
  | [i] => i
  | i :: r => if imin r < i then imin r else i
def maxF : List D → Option D
  | [.lst (d :: ds)] => (intsD (d :: ds)).map fun ns => .int (imax ns)
  | _ => none
def minF : List D → Option D
  | [.lst (d :: ds)] => (intsD (d :: ds)).map fun ns => .int (imin ns)
  | _ => none
section
variable {c : Cf} {W H : Hp}
theorem bools_dat : ∀ {vs : List V} {ds : List D} {bs : List Bool}, DatL c W vs ds → boolsD ds = some bs → vs = bs.map V.bl
  | _, _, _, .nil, h => by cases h; rfl
  | _, _, _, .cons (d := d) (ds := ds) a k, h => by
    cases d with
    | bl b =>
      have h : (boolsD ds).map (b :: ·) = some _ := h
      cases q : boolsD ds with
      | none => rw [q] at h; cases h
      | some r => rw [q] at h; cases h; cases a; rw [bools_dat k q]; rfl
    | _ => cases h
theorem ints_dat : ∀ {vs : List V} {ds : List D} {bs : List Int}, DatL c W vs ds → intsD ds = some bs → vs = bs.map V.int
  | _, _, _, .nil, h => by cases h; rfl
  | _, _, _, .cons (d := d) (ds := ds) a k, h => by
    cases d with
    | int b =>
      have h : (intsD ds).map (b :: ·) = some _ := h
      cases q : intsD ds with
      | none => rw [q] at h; cases h
      | some r => rw [q] at h; cases h; cases a; rw [ints_dat k q]; rfl
    | _ => cases h
theorem strs_dat : ∀ {vs : List V} {ds : List D} {bs : List Str}, DatL c W vs ds → strsD ds = some bs → vs = bs.map V.str ∧ ∀ s ∈ bs, sOk s = true
  | _, _, _, .nil, h => by cases h; exact ⟨rfl, fun _ z => absurd z List.not_mem_nil⟩
  | _, _, _, .cons (d := d) (ds := ds) a k, h => by
    cases d with
    | str b =>
      have h : (strsD ds).map (b :: ·) = some _ := h
      cases q : strsD ds with
      | none => rw [q] at h; cases h
      | some r =>
        rw [q] at h; cases h
        obtain ⟨h1, h2⟩ := strs_dat k q
        cases a with
        | str _ hs => exact ⟨by rw [h1]; rfl, fun s z => (List.mem_cons.mp z).elim (fun e => e ▸ hs) (h2 s)⟩
    | _ => cases h
theorem imax_mem : ∀ {l : List Int}, l ≠ [] → imax l ∈ l
  | [], h => absurd rfl h
  | [i], _ => by simp [imax]
  | i :: j :: r, _ => by
    unfold imax
    split
    · exact List.mem_cons_of_mem _ (imax_mem (by simp))
    · exact List.mem_cons_self
theorem imax_ge : ∀ {l : List Int}, ∀ y ∈ l, y ≤ imax l
  | [], _, h => absurd h List.not_mem_nil
  | [i], y, h => by rw [List.mem_singleton.mp h]; exact Int.le_refl _
  | i :: j :: r, y, h => by
    have ih := imax_ge (l := j :: r)
    unfold imax
    rcases List.mem_cons.mp h with e | h
    · subst e; split <;> omega
    · have := ih y h; split <;> omega
theorem imin_mem : ∀ {l : List Int}, l ≠ [] → imin l ∈ l
  | [], h => absurd rfl h
  | [i], _ => by simp [imin]
  | i :: j :: r, _ => by
    unfold imin
    split
    · exact List.mem_cons_of_mem _ (imin_mem (by simp))
    · exact List.mem_cons_self
theorem imin_le : ∀ {l : List Int}, ∀ y ∈ l, imin l ≤ y
  | [], _, h => absurd h List.not_mem_nil
  | [i], y, h => by rw [List.mem_singleton.mp h]; exact Int.le_refl _
  | i :: j :: r, y, h => by
    have ih := imin_le (l := j :: r)
    unfold imin
    rcases List.mem_cons.mp h with e | h
    · subst e; split <;> omega
    · have := ih y h; split <;> omega
theorem Dat.lstD {v : V} {ds : List D} (h : Dat c H v (.lst ds)) : ∃ a vs, v = .ref a ∧ SqL c.K H a vs ∧ DatL c H vs ds := by cases h with | lst hw k => exact ⟨_, _, rfl, hw, k⟩
theorem sc_len {K : PySem.W.Frag} (hK : K = c.K) : ScL c (fun xs H Q => ∃ x n, xs = [x] ∧ LenV K x H n ∧ Q (.int n) H) lenF := fun H vs ds d v Q hd hf hv q => by
  subst hK
  unfold lenF at hf
  split at hf
  · cases hf; cases hv
    obtain ⟨x, r, rfl, h1, h2⟩ := hd.consD
    obtain rfl := h2.nilD
    cases h1 with
    | str s hs => exact ⟨_, _, rfl, ⟨sOk_len hs, rfl⟩, q⟩
  · cases hf; cases hv
    obtain ⟨x, r, rfl, h1, h2⟩ := hd.consD
    obtain rfl := h2.nilD
    cases h1 with
    | lst hw k => exact ⟨_, _, rfl, .inl ⟨_, hw, rfl⟩, by rw [k.length]; exact q⟩
  · cases hf; cases hv
    obtain ⟨x, r, rfl, h1, h2⟩ := hd.consD
    obtain rfl := h2.nilD
    cases h1 with
    | tup hw k => exact ⟨_, _, rfl, .inr ⟨_, SqT.of hw, rfl⟩, by rw [k.length]; exact q⟩
  · cases hf; cases hv
    obtain ⟨x, r, rfl, h1, h2⟩ := hd.consD
    obtain rfl := h2.nilD
    cases h1 with
    | ctp hw k => exact ⟨_, _, rfl, .inr ⟨_, hw, rfl⟩, by rw [k.length]; exact q⟩
  · cases hf
theorem sc_abs : ScL c (fun xs H Q => ∃ i, xs = [.int i] ∧ Q (.int (if i < 0 then -i else i)) H) absF := fun H vs ds d v Q hd hf hv q => by
  unfold absF at hf
  split at hf
  · cases hf; cases hv
    obtain ⟨x, r, rfl, h1, h2⟩ := hd.consD
    obtain rfl := h2.nilD
    rw [h1.intD]
    exact ⟨_, rfl, q⟩
  · cases hf
theorem sc_int : ScL c (fun xs H Q => (∃ i, xs = [.int i] ∧ Q (.int i) H) ∨ ∃ k, xs = [.bl k] ∧ Q (.int (if k then 1 else 0)) H) intF := fun H vs ds d v Q hd hf hv q => by
  unfold intF at hf
  split at hf
  · cases hf; cases hv
    obtain ⟨x, r, rfl, h1, h2⟩ := hd.consD
    obtain rfl := h2.nilD
    rw [h1.intD]
    exact .inl ⟨_, rfl, q⟩
  · cases hf; cases hv
    obtain ⟨x, r, rfl, h1, h2⟩ := hd.consD
    obtain rfl := h2.nilD
    cases h1
    exact .inr ⟨_, rfl, q⟩
  · cases hf
theorem sc_max2 : ScL c (fun xs H Q => ∃ i j, xs = [.int i, .int j] ∧ Q (.int (if j > i then j else i)) H) max2F := fun H vs ds d v Q hd hf hv q => by
  unfold max2F at hf
  split at hf
  · cases hf; cases hv
    obtain ⟨x, r, rfl, h1, h2⟩ := hd.consD
    obtain ⟨y, r2, rfl, h3, h4⟩ := h2.consD
    obtain rfl := h4.nilD
    rw [h1.intD, h3.intD]
    exact ⟨_, _, rfl, q⟩
  · cases hf
theorem sc_min2 : ScL c (fun xs H Q => ∃ i j, xs = [.int i, .int j] ∧ Q (.int (if j < i then j else i)) H) min2F := fun H vs ds d v Q hd hf hv q => by
  unfold min2F at hf
  split at hf
  · cases hf; cases hv
    obtain ⟨x, r, rfl, h1, h2⟩ := hd.consD
    obtain ⟨y, r2, rfl, h3, h4⟩ := h2.consD
    obtain rfl := h4.nilD
    rw [h1.intD, h3.intD]
    exact ⟨_, _, rfl, q⟩
  · cases hf
theorem oneL {vs : List V} {ds : List D} (hd : DatL c H vs [.lst ds]) : ∃ a ws, vs = [.ref a] ∧ SqL c.K H a ws ∧ DatL c H ws ds := by
  obtain ⟨x, r, rfl, h1, h2⟩ := hd.consD
  obtain rfl := h2.nilD
  obtain ⟨a, ws, rfl, h3, h4⟩ := h1.lstD
  exact ⟨a, ws, rfl, h3, h4⟩
theorem sc_any {K : PySem.W.Frag} (hK : K = c.K) : ScL c (rAny K) anyF := fun H vs ds d v Q hd hf hv q => by
  subst hK
  unfold anyF at hf
  split at hf
  · obtain ⟨bs, hb, e⟩ := Option.map_eq_some_iff.mp hf
    subst e; cases hv
    obtain ⟨a, ws, rfl, h1, h2⟩ := oneL hd
    rw [bools_dat h2 hb] at h1
    exact ⟨a, bs, rfl, h1, q⟩
  · cases hf
theorem sc_all {K : PySem.W.Frag} (hK : K = c.K) : ScL c (rAll K) allF := fun H vs ds d v Q hd hf hv q => by
  subst hK
  unfold allF at hf
  split at hf
  · obtain ⟨bs, hb, e⟩ := Option.map_eq_some_iff.mp hf
    subst e; cases hv
    obtain ⟨a, ws, rfl, h1, h2⟩ := oneL hd
    rw [bools_dat h2 hb] at h1
    exact ⟨a, bs, rfl, h1, q⟩
  · cases hf
theorem sc_sum {K : PySem.W.Frag} (hK : K = c.K) : ScL c (rSum K) sumF := fun H vs ds d v Q hd hf hv q => by
  subst hK
  unfold sumF at hf
  split at hf
  · obtain ⟨bs, hb, e⟩ := Option.map_eq_some_iff.mp hf
    subst e; cases hv
    obtain ⟨a, ws, rfl, h1, h2⟩ := oneL hd
    rw [ints_dat h2 hb] at h1
    exact ⟨a, bs, rfl, h1, q⟩
  · cases hf
theorem ints_cons {d : D} {ds : List D} {ns : List Int} (h : intsD (d :: ds) = some ns) : ns ≠ [] := by
  cases d with
  | int i =>
    have h : (intsD ds).map (i :: ·) = some ns := h
    obtain ⟨r, _, e⟩ := Option.map_eq_some_iff.mp h
    rw [← e]; simp
  | _ => cases h
theorem sc_max {K : PySem.W.Frag} (hK : K = c.K) : ScL c (rMax K) maxF := fun H vs ds d v Q hd hf hv q => by
  subst hK
  unfold maxF at hf
  split at hf
  · obtain ⟨ns, hb, e⟩ := Option.map_eq_some_iff.mp hf
    subst e; cases hv
    obtain ⟨a, ws, rfl, h1, h2⟩ := oneL hd
    rw [ints_dat h2 hb] at h1
    have hne := ints_cons hb
    refine ⟨a, ns, rfl, h1, List.length_pos_iff.mpr hne, fun m hm hall => ?_⟩
    have : m = imax ns := Int.le_antisymm (imax_ge m hm) (hall _ (imax_mem hne))
    rw [this]; exact q
  · cases hf
theorem sc_min {K : PySem.W.Frag} (hK : K = c.K) : ScL c (rMin K) minF := fun H vs ds d v Q hd hf hv q => by
  subst hK
  unfold minF at hf
  split at hf
  · obtain ⟨ns, hb, e⟩ := Option.map_eq_some_iff.mp hf
    subst e; cases hv
    obtain ⟨a, ws, rfl, h1, h2⟩ := oneL hd
    rw [ints_dat h2 hb] at h1
    have hne := ints_cons hb
    refine ⟨a, ns, rfl, h1, List.length_pos_iff.mpr hne, fun m hm hall => ?_⟩
    have : m = imin ns := Int.le_antisymm (hall _ (imin_mem hne)) (imin_le m hm)
    rw [this]; exact q
  · cases hf

/-! ### tuple, list -/
def tupleF : List D → Option D
  | [.lst ds] => some (.tup ds)
  | [.tup ds] => some (.tup ds)
  | [.ctp ds] => some (.ctp ds)
  | _ => none
def listF : List D → Option (List D)
  | [.lst ds] => some ds
  | [.tup ds] => some ds
  | [.ctp ds] => some ds
  | _ => none
theorem ShL.consD {vs : List V} {d : D} {ds : List D} (h : ShL c W H vs (d :: ds)) : ∃ v r, vs = v :: r ∧ Sh c W H v d ∧ ShL c W H r ds := by cases h with | cons a k => exact ⟨_, _, rfl, a, k⟩
theorem ShL.nilD {vs : List V} (h : ShL c W H vs []) : vs = [] := by cases h; rfl
theorem Sh.lstD {v : V} {ds : List D} (le : Le W H) (h : Sh c W H v (.lst ds)) : ∃ a vs, v = .ref a ∧ SqL c.K H a vs ∧ DatL c W vs ds := by
  cases h with
  | val h => cases h with | lst hw k => exact ⟨_, _, rfl, le.sqL hw, k⟩
  | lst hh k => exact ⟨_, _, rfl, SqL.of hh, k⟩
theorem nw_tuple {K : PySem.W.Frag} (hK : K = c.K) : NwT c (fun xs H Q => ∃ p ys, xs = [.ref p] ∧ ((SqL K H p ys ∧ ∀ l, H l = none → Q (.ref l) (upd H l (.tup ys))) ∨ (SqT K H p ys ∧ Q (.ref p) H))) tupleF := fun W H vs ds d Q le sh hf q => by
  subst hK
  unfold tupleF at hf
  split at hf
  · cases hf
    obtain ⟨x, r, rfl, h1, h2⟩ := sh.consD
    obtain rfl := h2.nilD
    obtain ⟨a, ws, rfl, h3, h4⟩ := h1.lstD le
    refine ⟨a, ws, rfl, .inl ⟨h3, fun l hl => ?_⟩⟩
    have g : Gr W H [] (upd W l (.tup ws)) (upd H l (.tup ws)) [] := Gr.allocV le hl
    exact q _ _ _ g (same_alloc hl) (.tup upd_same (h4.mono (.of_same g.w)))
  · cases hf
    obtain ⟨x, r, rfl, h1, h2⟩ := sh.consD
    obtain rfl := h2.nilD
    cases h1 with
    | val h =>
      cases h with
      | tup hw k => exact ⟨_, _, rfl, .inr ⟨SqT.of (le.tup hw), q _ W H (Gr.refl le) (Same.refl _) (.tup hw k)⟩⟩
  · cases hf
    obtain ⟨x, r, rfl, h1, h2⟩ := sh.consD
    obtain rfl := h2.nilD
    cases h1 with
    | val h =>
      cases h with
      | ctp hw k => exact ⟨_, _, rfl, .inr ⟨le.sqT hw, q _ W H (Gr.refl le) (Same.refl _) (.ctp hw k)⟩⟩
  · cases hf
theorem nw_list {K : PySem.W.Frag} (hK : K = c.K) : NwL c (fun xs H Q => ∃ p ys, xs = [.ref p] ∧ (SqL K H p ys ∨ SqT K H p ys) ∧ ∀ l, H l = none → Q (.ref l) (upd H l (.lst ys))) listF := fun W H vs ds es Q le sh hf q => by
  subst hK
  unfold listF at hf
  split at hf
  · cases hf
    obtain ⟨x, r, rfl, h1, h2⟩ := sh.consD
    obtain rfl := h2.nilD
    obtain ⟨a, ws, rfl, h3, h4⟩ := h1.lstD le
    exact ⟨a, ws, rfl, .inl h3, fun l hl => q l ws hl h4⟩
  · cases hf
    obtain ⟨x, r, rfl, h1, h2⟩ := sh.consD
    obtain rfl := h2.nilD
    cases h1 with
    | val h =>
      cases h with
      | tup hw k => exact ⟨_, _, rfl, .inr (SqT.of (le.tup hw)), fun l hl => q l _ hl k⟩
  · cases hf
    obtain ⟨x, r, rfl, h1, h2⟩ := sh.consD
    obtain rfl := h2.nilD
    cases h1 with
    | val h =>
      cases h with
      | ctp hw k => exact ⟨_, _, rfl, .inr (le.sqT hw), fun l hl => q l _ hl k⟩
  · cases hf
end
end Z

set_option maxRecDepth 100000
set_option maxHeartbeats 2000000
/-! Z.builtins 3: sorted, repr, join -/
namespace Z
open PySem L2 PySem.Spec PyProof.Rows
section
variable {α : Type}
def mergeF (le : α → α → Bool) : Nat → List α → List α → List α
  | 0, xs, ys => xs ++ ys
  | _ + 1, [], ys => ys
  | _ + 1, x :: xs, [] => x :: xs
  | n + 1, x :: xs, y :: ys => match le x y with
    | true => x :: mergeF le n xs (y :: ys)
    | false => y :: mergeF le n (x :: xs) ys
theorem mergeF_eq {le : α → α → Bool} : ∀ (n : Nat) (xs ys : List α), xs.length + ys.length ≤ n → mergeF le n xs ys = List.merge xs ys le
  | 0, xs, ys, h => by
    have h1 : xs = [] := List.length_eq_zero_iff.mp (by omega)
    have h2 : ys = [] := List.length_eq_zero_iff.mp (by omega)
    subst h1 h2; simp [mergeF]
  | n + 1, [], ys, h => by simp [mergeF]
  | n + 1, x :: xs, [], h => by simp [mergeF]
  | n + 1, x :: xs, y :: ys, h => by
    simp only [List.length_cons] at h
    unfold mergeF
    rw [List.cons_merge_cons]
    cases q : le x y with
    | true => rw [if_pos rfl]; dsimp only; rw [mergeF_eq n xs (y :: ys) (by simp only [List.length_cons]; omega)]
    | false => rw [if_neg (by simp)]; dsimp only; rw [mergeF_eq n (x :: xs) ys (by simp only [List.length_cons]; omega)]
def msortF (le : α → α → Bool) : Nat → List α → List α
  | 0, xs => xs
  | _ + 1, [] => []
  | _ + 1, [a] => [a]
  | n + 1, a :: b :: xs => mergeF le (xs.length + 2) (msortF le n ((a :: b :: xs).take ((xs.length + 3) / 2))) (msortF le n ((a :: b :: xs).drop ((xs.length + 3) / 2)))
theorem msortF_eq {le : α → α → Bool} : ∀ (n : Nat) (xs : List α), xs.length ≤ n → msortF le n xs = xs.mergeSort le
  | 0, xs, h => by
    have h1 : xs = [] := List.length_eq_zero_iff.mp (by omega)
    subst h1; simp [msortF]
  | n + 1, [], _ => by simp [msortF]
  | n + 1, [a], _ => by simp [msortF]
  | n + 1, a :: b :: xs, h => by
    simp only [List.length_cons] at h
    unfold msortF
    rw [List.mergeSort]
    simp only [List.MergeSort.Internal.splitInTwo_fst, List.MergeSort.Internal.splitInTwo_snd]
    have l1 : ((a :: b :: xs).take ((xs.length + 3) / 2)).length ≤ n := by rw [List.length_take]; simp only [List.length_cons]; omega
    have l2 : ((a :: b :: xs).drop ((xs.length + 3) / 2)).length ≤ n := by rw [List.length_drop]; simp only [List.length_cons]; omega
    rw [msortF_eq n _ l1, msortF_eq n _ l2, mergeF_eq]
    · rfl
    · rw [List.length_mergeSort, List.length_mergeSort, List.length_take, List.length_drop]; simp only [List.length_cons]; omega
end
def D.key (d : D) : PyData := d.py.getD .none
theorem pyL_map : ∀ {ds : List D} {ps : List PyData}, pyL ds = some ps → ps = ds.map D.key
  | [], _, h => by unfold pyL at h; cases h; rfl
  | d :: ds, _, h => by
    unfold pyL at h
    cases q : d.py with
    | none => rw [q] at h; cases h
    | some p =>
      rw [q] at h
      cases r : pyL ds with
      | none => rw [r] at h; cases h
      | some ps =>
        rw [r] at h
        have h : some (p :: ps) = _ := h
        cases h
        rw [List.map_cons, ← pyL_map r]
        unfold D.key
        rw [q]; rfl
/-! ### sorted -/
def isTupN : PyData → Bool
  | .tuple (_ :: _) => true
  | _ => false
def notTup : PyData → Bool
  | .none => false
  | .tuple _ => false
  | _ => true
def canSort (ps : List PyData) : Bool := ps.all (fun p => ps.all fun q => PySem.W.alike p q) && (ps.all isTupN || ps.all notTup) && ps.all (fun p => decide (p.depth ≤ 32)) && decide (ps.length ≤ sizeLine)
def sortD (ds : List D) : List D := msortF (PySem.W.dataLe false D.key) ds.length ds
theorem sortD_eq (ds : List D) : sortD ds = ds.mergeSort (PySem.W.dataLe false D.key) := msortF_eq _ _ (Nat.le_refl _)
def sortedF : List D → Option (List D)
  | [.lst ds] => (pyL ds).bind fun ps => if canSort ps = true then some (sortD ds) else none
  | _ => none
def rSorted (c : Cf) : List V → Hp → VK → Prop := fun xs H Q => ∃ (p : Addr) (W : Hp) (ys : List V) (ds es : List D), xs = [.ref p] ∧ Le W H ∧ SqL c.K H p ys ∧ DatL c W ys ds ∧ sortedF [.lst ds] = some es ∧ ∀ l zs, H l = none → DatL c W zs es → Q (.ref l) (upd H l (.lst zs))
section
variable {c : Cf} {W H : Hp}
theorem DatL.each : ∀ {vs : List V} {us : List Value} {ds : List D}, DatL c W vs ds → Vals vs us → PySem.W.EachIs (fun u d => ∃ v, RelV v u ∧ Dat c W v d) us ds
  | _, _, _, .nil, .nil => .nil
  | _, _, _, .cons a k, .cons r rr => .cons ⟨_, r, a⟩ (DatL.each k rr)
theorem each_dat : ∀ {us : List Value} {ds : List D}, PySem.W.EachIs (fun u d => ∃ v, RelV v u ∧ Dat c W v d) us ds → ∃ vs, Vals vs us ∧ DatL c W vs ds
  | _, _, .nil => ⟨[], .nil, .nil⟩
  | _, _, .cons ⟨v, r, a⟩ k => let ⟨vs, rr, kk⟩ := each_dat k; ⟨v :: vs, .cons r rr, .cons a kk⟩
end
section
variable {X : Cx} {c : Cf}
theorem each_reads {pins : List (Addr × Obj)} {σ : L2.St} {H W : Hp} {s : Shared} (hK : X.K = c.K) (I : Inv X pins σ H s) (le : Le W H) : ∀ {us : List Value} {ds : List D} {ps : List PyData}, pyL ds = some ps → PySem.W.EachIs (fun u d => ∃ v, RelV v u ∧ Dat c W v d) us ds → PySem.W.EachIs (fun u d => ∃ as, Reads s.heap u (D.key d) as) us ds
  | _, [], _, _, .nil => .nil
  | _ :: _, d :: ds, _, h, .cons ⟨v, r, a⟩ k => by
    unfold pyL at h
    cases q : d.py with
    | none => rw [q] at h; cases h
    | some p =>
      rw [q] at h
      cases r2 : pyL ds with
      | none => rw [r2] at h; cases h
      | some ps =>
        refine .cons ?_ (each_reads hK I le r2 k)
        have hd := (a.mono le).dp q
        rw [← hK] at hd
        have e : D.key d = p := by unfold D.key; rw [q]; rfl
        rw [e]
        exact Dp.reads I p v _ hd r
theorem cr_sorted (hK : X.K = c.K) (hu : X.A.units + 64 < cLine) : CallR X (.builtin "sorted") (rSorted c) := by
  intro pins s σ H xs us Q I r h
  obtain ⟨p, W, ys, ds, es, rfl, le, hq, hd, hs, q⟩ := h
  obtain ⟨u, rfl, rx⟩ := vals1 r
  cases rx
  rw [← hK] at hq
  obtain ⟨its, r', pl, hz⟩ := I.list hq
  have hs : ((pyL ds).bind fun ps => if canSort ps = true then some (sortD ds) else none) = some es := hs
  cases hp : pyL ds with
  | none => rw [hp] at hs; cases hs
  | some ps =>
    rw [hp] at hs
    have hs : (if canSort ps = true then some (sortD ds) else none) = some es := hs
    split at hs
    · rename_i hc
      cases hs
      have hps := pyL_map hp
      unfold canSort at hc
      rw [Bool.and_eq_true, Bool.and_eq_true, Bool.and_eq_true] at hc
      obtain ⟨⟨⟨h1, h2⟩, h3⟩, h4⟩ := hc
      have e1 : PySem.W.EachIs (fun u d => ∃ v, RelV v u ∧ Dat c W v d) its ds := hd.each r'
      have e2 := each_reads hK I le hp e1
      have hal : PySem.W.AllAlike (ds.map D.key) := by
        rw [← hps]
        intro d hd d' hd'
        exact List.all_eq_true.mp (List.all_eq_true.mp h1 d hd) d' hd'
      have hso : PySem.W.Sortable (ds.map D.key) := by
        rw [← hps]
        rcases Bool.or_eq_true _ _ ▸ h2 with h2 | h2
        · refine .inl fun d hd => ?_
          have := List.all_eq_true.mp h2 d hd
          cases d with
          | tuple xs => cases xs with
            | nil => cases this
            | cons x r => exact ⟨x, r, rfl⟩
          | _ => cases this
        · refine .inr fun d hd => ?_
          have := List.all_eq_true.mp h2 d hd
          cases d with
          | none => cases this
          | tuple xs => cases this
          | _ => exact ⟨nofun, nofun⟩
      have hL : ds.length ≤ sizeLine := by
        have := of_decide_eq_true h4
        rw [hps, List.length_map] at this; exact this
      refine PySem.W.sorted_data (R := fun u d => ∃ v, RelV v u ∧ Dat c W v d) (enc := D.key) (pl.isList) e1 e2 hal hso hL (fun b hb => ?_) (fun out hl ho => ?_)
      · have hb' : D.key b ∈ ps := by rw [hps]; exact List.mem_map.mpr ⟨b, hb, rfl⟩
        have := of_decide_eq_true (List.all_eq_true.mp h3 _ hb')
        omega
      · rw [← sortD_eq] at ho
        obtain ⟨zs, rz, dz⟩ := each_dat ho
        obtain ⟨e, he⟩ := sortedAll_at s.heap its out.toArray
        refine ⟨.ref (s.heap.objs.size + 1), upd H (s.heap.objs.size + 1) (.lst zs), ?_, rfl, q _ zs (I.hok.fresh (Nat.le_succ _)) dz⟩
        exact I.laid (t' := s.toks) (fun _ _ hb => sortedAll_old hb) (Nat.le_succ _) (show ObjOk X.prog X.w _ _ _ (.lst zs) from ⟨by rw [rz.length, hl]; exact hL, out, e, rz, he⟩)
    · cases hs
theorem nw_sorted : NwL c (rSorted c) sortedF := fun W H vs ds es Q le sh hf q => by
  have hf0 := hf
  unfold sortedF at hf
  split at hf
  · obtain ⟨x, r, rfl, h1, h2⟩ := sh.consD
    obtain rfl := h2.nilD
    obtain ⟨a, ws, rfl, h3, h4⟩ := h1.lstD le
    exact ⟨a, W, ws, _, _, rfl, le, h3, h4, hf0, fun l zs hl hz => q l zs hl hz⟩
  · cases hf
/-! ### repr -/
def reprOk (p : PyData) : Bool := p.showable && !p.hasDict && decide (p.depth ≤ 32) && sOk p.shown
def reprF : List D → Option D
  | [d] => d.py.bind fun p => if reprOk p = true then some (.str p.shown) else none
  | _ => none
def rRepr (K : PySem.W.Frag) : List V → Hp → VK → Prop := fun xs H Q => ∃ (v : V) (p : PyData), xs = [v] ∧ Dp K H v p ∧ reprOk p = true ∧ Q (.str p.shown) H
theorem cr_repr (hu : X.A.units + 64 < cLine) (hgd : X.A.guards = some []) : CallR X (.builtin "repr") (rRepr X.K) := by
  intro pins s σ H xs us Q I r h
  obtain ⟨v, p, rfl, hd, ok, q⟩ := h
  obtain ⟨u, rfl, rx⟩ := vals1 r
  unfold reprOk at ok
  rw [Bool.and_eq_true, Bool.and_eq_true, Bool.and_eq_true] at ok
  obtain ⟨⟨⟨h1, h2⟩, h3⟩, h4⟩ := ok
  have hsz : p.shown.length ≤ sizeLine := sOk_len h4
  have hd2 : p.depth ≤ 32 := of_decide_eq_true h3
  obtain ⟨as, rd⟩ := Dp.reads I p v u hd rx
  have fin0 : ∀ t, EP X pins σ Q (.str p.shown t) { s with toks := s.toks + 1 } := fun t => ⟨.str p.shown, H, I.tok _, ⟨t, rfl⟩, q⟩
  cases p with
  | none => cases hd; cases rx; exact PySem.P.repr_of_none (fin0 _)
  | bool b =>
    cases hd; cases rx
    refine PySem.P.repr_of_bool ?_
    have := fin0 s.toks
    unfold PyData.shown at this
    exact this
  | int i =>
    cases hd
    obtain ⟨t, rfl⟩ := rx
    refine PySem.P.repr_of_int (of_decide_eq_true (by simpa [PyData.showable] using h1)) ?_
    have := fin0 s.toks
    unfold PyData.shown at this
    exact this
  | str x =>
    cases hd
    obtain ⟨t, rfl⟩ := rx
    have h := fin0 s.toks
    unfold PyData.shown at h hsz
    exact PySem.P.repr_of_str h hsz
  | list ds =>
    cases hd with
    | lst hs ha =>
      cases rx
      exact repr_of_reads' rd h1 (fun z => by rw [z] at h2; cases h2) hgd (by omega) (fun _ _ h => h) (fun h' u tk hk => ⟨.str _, H, I.un (Un.kept hk) (I.hok.kept hk), ⟨u, rfl⟩, q⟩) hsz
  | tuple ds =>
    cases hd with
    | tup hs ha =>
      cases rx
      exact repr_of_reads' rd h1 (fun z => by rw [z] at h2; cases h2) hgd (by omega) (fun _ _ h => h) (fun h' u tk hk => ⟨.str _, H, I.un (Un.kept hk) (I.hok.kept hk), ⟨u, rfl⟩, q⟩) hsz
  | dict _ => cases hd
theorem sc_repr {K : PySem.W.Frag} (hK : K = c.K) : ScL c (rRepr K) reprF := fun H vs ds d v Q hd hf hv q => by
  subst hK
  unfold reprF at hf
  split at hf
  · rename_i dd
    obtain ⟨x, r, rfl, h1, h2⟩ := hd.consD
    obtain rfl := h2.nilD
    cases z : dd.py with
    | none => rw [z] at hf; cases hf
    | some p =>
      rw [z] at hf
      have hf : (if reprOk p = true then some (D.str p.shown) else none) = some d := hf
      split at hf
      · cases hf
        rename_i hok
        have hs : sOk p.shown = true := by
          unfold reprOk at hok
          rw [Bool.and_eq_true] at hok; exact hok.2
        rw [sv_str, if_pos hs] at hv
        cases hv
        exact ⟨x, p, rfl, h1.dp z, hok, q⟩
      · cases hf
  · cases hf
end
end Z

set_option maxRecDepth 100000
set_option maxHeartbeats 2000000
/-! Z.methods: methods of texts and lists, stores into places -/
namespace Z
open PySem L2 PySem.Spec PyProof.Rows
/-- s.m(x) of a text: a scalar -/
def m1D (f : Str → D → Option D) (mo ma : Env → Res RV) : Env → Res RV := fun e => (mo e).bind fun a e1 => match a with
  | .tmp (.val (.str s)) => (ma e1).bind fun b e2 => Res.of e2 ((b.fz e2).bind fun y => scal (f s y))
  | _ => .stuck
def joinF (s : Str) : D → Option D
  | .lst ds => (strsD ds).bind fun ys => if (ys.map (·.length)).sum + ys.length * s.length ≤ 16777216 then some (.str (Txt.join s ys)) else none
  | .tup ds => (strsD ds).bind fun ys => if (ys.map (·.length)).sum + ys.length * s.length ≤ 16777216 then some (.str (Txt.join s ys)) else none
  | _ => none
/-- o.m(..) that changes the list o -/
def mutD (g : List O → List O → Option (List O × O)) (mo : Env → Res RV) (mas : Env → Res (List RV)) : Env → Res RV := fun e => (mo e).bind fun a e1 => match a, a.get e1 with
  | .pl i p, some (.lst _) => (mas e1).bind fun as e2 => match takes e2 as with
    | some (os, e3) => match (RV.pl i p).get e3 with
      | some (.lst xs) => match g xs os with
        | some (ys, r) => .ok (.tmp r) (e3.put i p (.lst ys))
        | none => .stuck
      | _ => .stuck
    | none => .stuck
  | _, _ => .stuck
def appendG : List O → List O → Option (List O × O)
  | xs, [o] => if xs.length < 1000000 then some (xs ++ [o], .val .non) else none
  | _, _ => none
def extendG : List O → List O → Option (List O × O)
  | xs, [.lst os] => if xs.length + os.length < 1000000 then some (xs ++ os, .val .non) else none
  | _, _ => none
def popG : List O → List O → Option (List O × O)
  | xs, [] => match xs.getLast? with
    | some o => some (xs.dropLast, o)
    | none => none
  | _, _ => none
def popAtG : List O → List O → Option (List O × O)
  | xs, [.val (.int i)] => if -(2 ^ 63) ≤ i ∧ i < 2 ^ 63 then (seqIndex? i xs.length).bind fun k => (xs[k]?).map fun o => (xs.eraseIdx k, o) else none
  | _, _ => none
section
variable {X : Cx} {c : Cf} {XW : WX} {W H W1 H1 W2 H2 : Hp} {σ : L2.St} {e e1 e2 : Env} {F G F1 F2 : List Addr} {b b1 b2 b3 : Bool}
variable {x o : Expr} {ma mo : Env → Res RV} {mas : Env → Res (List RV)} {pos apos : Pos}
def ScM (c : Cf) (r : V → List V → Hp → VK → Prop) (f : Str → D → Option D) : Prop := ∀ (H : Hp) (s : Str) (y : V) (dy d : D) (v : V) (Q : VK), sOk s = true → Dat c H y dy → f s dy = some d → sv d = some v → Q v H → r (.str s) [y] H Q
theorem d_m1 {id : String} {name : Str} {r : V → List V → Hp → VK → Prop} {f : Str → D → Option D} (slot : Slot "str" name id) (ty : typeOf (.builtin id) = pure (.type "method_descriptor")) (rule : MtR X id r) (hs : ScM c r f) (ho : PE X o (T c XW b1 mo)) (he : PE X x (T c XW b2 ma))
    (hst : starEach [x] X.env = [(false, eval x X.env)] := by rfl) (hbase : attributeBase o name X.env (eval o X.env) = eval o X.env := by rfl) (hline : (apos.endLine == pos.line) = true := by rfl) :
    PE X (.Call (.Attribute o name apos) [x] [] pos) (T c XW (b1 && b2) (m1D f mo ma)) := pe_imp (pe_m1 slot ty rule ho he hst hbase hline) fun σ H Q ⟨W, e, F, le, s, p⟩ => by
  refine Tr.then0 (b2 := b2) le s p (fun z => by simpa using z) fun a e1 W1 H1 v F1 Fa qa g1 sm1 s1 r1 d1 p1 => ?_
  match a, r1, p1 with
  | .tmp (.val (.str z)), r1, p1 =>
    have p1 : Pst c XW b2 (rRV c) W1 H1 σ (F1 ++ Fa) ((ma e1).bind fun b e2 => Res.of e2 ((b.fz e2).bind fun y => scal (f z y))) Q := p1
    cases r1 with
    | val hd =>
    cases hd with
    | str _ hz =>
    refine ⟨⟨z, rfl⟩, ?_⟩
    rw [List.append_nil] at p1
    refine Tr.then0 (b1 := b2) (b2 := true) g1.le s1 p1 (fun k => ⟨k, rfl⟩) fun b' e2 W2 H2 y F2 Fb qb g2 sm2 s2 r2 d2 p2 => ?_
    obtain ⟨t, ht, p2⟩ := Res.of_ok p2
    cases q : b'.fz e2 with
    | none => rw [q] at ht; cases ht
    | some dy =>
      rw [q] at ht
      obtain ⟨d', w, e1', e2', rfl⟩ := scal_of (show scal (f z dy) = some t from ht)
      exact hs H2 z y dy d' w Q hz (r2.dat g2.le s2 q) e1' e2' (Pst.scalar g2.le p2 s2 (fun y hy => List.mem_append_left _ hy) e2')
theorem sc_join {K : PySem.W.Frag} (hK : K = c.K) : ScM c (fun x xs H Q => ∃ a p, ∃ ys : List Str, x = .str a ∧ xs = [.ref p] ∧ (SqL K H p (ys.map V.str) ∨ SqT K H p (ys.map V.str)) ∧ (ys.map (·.length)).sum + ys.length * a.length ≤ 16777216 ∧ Q (.str (Txt.join a ys)) H) joinF := fun H s y dy d v Q hs hy hf hv q => by
  subst hK
  unfold joinF at hf
  split at hf
  · rename_i ds
    cases z : strsD ds with
    | none => rw [z] at hf; cases hf
    | some ys =>
      rw [z] at hf
      have hf : (if (ys.map (·.length)).sum + ys.length * s.length ≤ 16777216 then some (D.str (Txt.join s ys)) else none) = some d := hf
      split at hf
      · cases hf
        cases hy with
        | lst hw k =>
          rw [sv_str] at hv
          split at hv
          · cases hv
            obtain ⟨e1, _⟩ := strs_dat k z
            rw [e1] at hw
            exact ⟨s, _, ys, rfl, rfl, .inl hw, by assumption, q⟩
          · cases hv
      · cases hf
  · rename_i ds
    cases z : strsD ds with
    | none => rw [z] at hf; cases hf
    | some ys =>
      rw [z] at hf
      have hf : (if (ys.map (·.length)).sum + ys.length * s.length ≤ 16777216 then some (D.str (Txt.join s ys)) else none) = some d := hf
      split at hf
      · cases hf
        cases hy with
        | tup hw k =>
          rw [sv_str] at hv
          split at hv
          · cases hv
            obtain ⟨e1, _⟩ := strs_dat k z
            rw [e1] at hw
            exact ⟨s, _, ys, rfl, rfl, .inr (SqT.of hw), by assumption, q⟩
          · cases hv
      · cases hf
  · cases hf
theorem d_join (hK : X.K = c.K) (ho : PE X o (T c XW b1 mo)) (he : PE X x (T c XW b2 ma))
    (hst : starEach [x] X.env = [(false, eval x X.env)] := by rfl) (hbase : attributeBase o "join" X.env (eval o X.env) = eval o X.env := by rfl) (hline : (apos.endLine == pos.line) = true := by rfl) :
    PE X (.Call (.Attribute o "join" apos) [x] [] pos) (T c XW (b1 && b2) (m1D joinF mo ma)) := d_m1 PySem.F.slot_str_join PySem.F.type_str_join mt_join (sc_join hK) ho he hst hbase hline
/-! ### what a place holds -/
/-- a list at a place: what stands there, how it may be exchanged -/
theorem list_place {i : Nat} {p : List Stp} {v : V} {os : List O} (s : Slots c W H σ e F) (r : RVr c W H σ v (.pl i p) G) (hg : (RV.pl i p).get e = some (.lst os)) :
    ∃ a vs Fx R, v = .ref a ∧ H a = some (.lst vs) ∧ W a = none ∧ RepL c W H vs os Fx ∧ a ∉ Fx ∧ a ∈ F ∧ (∀ y ∈ Fx, y ∈ F) ∧ (∀ y ∈ R, y ∈ F) ∧ Disj R (a :: Fx) ∧
      ∀ (vs' : List V) (os' : List O) (Fy : List Addr), RepL c W H vs' os' Fy → a ∉ Fy → Disj Fy R → ∃ F', Slots c W (upd H a (.lst vs')) σ (e.put i p (.lst os')) F' ∧ ∀ y ∈ F', y ∈ R ∨ y = a ∨ y ∈ Fy := by
  obtain ⟨_, v0, h0, ha⟩ := r
  have hg : (e.at i).bind (·.get p) = some (.lst os) := hg
  cases q : e.at i with
  | none => rw [q] at hg; cases hg
  | some o0 =>
    rw [q] at hg
    obtain ⟨Gh, R, rw_, gs, rs, dj, ex⟩ := s.hole (Env.at_some q) h0 ha (show o0.get p = some (.lst os) from hg)
    cases rw_ with
    | lst hH hW k n =>
      rename_i a vs Fx
      refine ⟨a, vs, Fx, R, rfl, hH, hW, k, n, gs a List.mem_cons_self, fun y hy => gs y (List.mem_cons_of_mem _ hy), rs, dj.symm, fun vs' os' Fy ky ny dy => ?_⟩
      have nR : a ∉ R := fun z => dj a List.mem_cons_self z
      have hR : ∀ y ∈ R, (upd H a (.lst vs')) y = H y ∧ W y = none := fun y hy => ⟨upd_ne fun z => nR (z ▸ hy), (s.dom y (rs y hy)).2⟩
      have r' : Rep c W (upd H a (.lst vs')) (.ref a) (.lst os') (a :: Fy) := .lst upd_same hW (ky.agree (Same.refl _) fun y hy => ⟨upd_ne fun z => ny (z ▸ hy), (ky.dom y hy).2⟩) ny
      obtain ⟨F', s', sub⟩ := ex W (upd H a (.lst vs')) (.lst os') (a :: Fy) (Same.refl _) hR r' (fun y hy z => (List.mem_cons.mp hy).elim (fun w => nR (w ▸ z)) fun w => dy y w z)
      refine ⟨F', ?_, fun y hy => (sub y hy).imp id fun z => List.mem_cons.mp z⟩
      have ep : e.put i p (.lst os') = e.set i (some (o0.put p (.lst os'))) := by unfold Env.put; rw [q]
      rw [ep]; exact s'
def MuL (c : Cf) (r : V → List V → Hp → VK → Prop) (g : List O → List O → Option (List O × O)) : Prop := ∀ (W H : Hp) (a : Addr) (vs ws : List V) (xs os ys : List O) (ro : O) (Fx Fo : List Addr) (Q : VK), H a = some (.lst vs) → Le W H → RepL c W H vs xs Fx → RepL c W H ws os Fo → Disj Fx Fo → g xs os = some (ys, ro) →
  (∀ vs' v Fy Fr, RepL c W H vs' ys Fy → Rep c W H v ro Fr → Disj Fy Fr → (∀ y ∈ Fy, y ∈ Fx ∨ y ∈ Fo) → (∀ y ∈ Fr, y ∈ Fx ∨ y ∈ Fo) → Q v (upd H a (.lst vs'))) → r (.ref a) ws H Q
theorem mut_run {r : V → List V → Hp → VK → Prop} {g : List O → List O → Option (List O × O)} {K : PySem.W.Frag} {Q : VK} (hg : MuL c r g) (hp : b2 = true ∨ NP mo) : T c XW false (mutD g mo mas) σ H Q → T c XW b1 mo σ H fun v H1 => tyV K "list" v H1 ∧ TAr c XW b2 mas σ H1 fun xs H2 => r v xs H2 Q := fun ⟨W, e, F, le, s, p⟩ => by
  refine Tr.then0 (b2 := false) le s p (fun z => nomatch z) fun a e1 W1 H1 v F1 Fa qa g1 sm1 s1 r1 d1 p1 => ?_
  cases a with
  | tmp o => exact p1.elim
  | pl i pa =>
  cases hq : (RV.pl i pa).get e1 with
  | none =>
    have p1 : Pst c XW false (rRV c) W1 H1 σ (F1 ++ Fa) (match (RV.pl i pa), (RV.pl i pa).get e1 with | .pl i p, some (.lst _) => _ | _, _ => .stuck) Q := p1
    rw [hq] at p1; exact p1.elim
  | some o1 =>
    have p1 : Pst c XW false (rRV c) W1 H1 σ (F1 ++ Fa) (match (RV.pl i pa), (RV.pl i pa).get e1 with | .pl i p, some (.lst _) => _ | _, _ => .stuck) Q := p1
    rw [hq] at p1
    cases o1 with
    | lst os1 =>
      obtain ⟨a0, vs0, _, _, ev, hH, _⟩ := list_place s1 r1 hq
      subst ev
      have eF : Fa = [] := r1.1
      subst eF
      rw [List.append_nil] at p1
      refine ⟨.inl ⟨rfl, _, SqL.of hH⟩, ?_⟩
      refine Tr.then0 (b1 := b2) (b2 := false) g1.le s1 p1 (fun z => nomatch z) fun as e2 W2 H2 xs F2 Fb qb g2 sm2 s2 r2 d2 p2 => ?_
      cases q : takes e2 as with
      | none => rw [q] at p2; exact p2.elim
      | some t =>
        obtain ⟨os, e3⟩ := t
        rw [q] at p2
        obtain ⟨W3, F3, Fo, g3, s3, r3, d3⟩ := r2.takes g2.le s2 d2 q
        have r1' : RVr c W2 H2 σ (.ref a0) (.pl i pa) [] := r1.later g2 Disj.nil_left (hp.elim (fun z => .inl (sm2 z)) fun z => .inr fun i' p' ee => by cases ee; exact z e _ _ e1 qa)
        have r1'' : RVr c W3 H2 σ (.ref a0) (.pl i pa) [] := r1'
        cases q3 : (RV.pl i pa).get e3 with
        | none => have p2 : Pst c XW false (rRV c) W2 H2 σ (F2 ++ Fb) (match (RV.pl i pa).get e3 with | some (.lst xs) => _ | _ => .stuck) Q := p2
                  rw [q3] at p2; exact p2.elim
        | some o3 =>
          have p2 : Pst c XW false (rRV c) W2 H2 σ (F2 ++ Fb) (match (RV.pl i pa).get e3 with | some (.lst xs) => _ | _ => .stuck) Q := p2
          rw [q3] at p2
          cases o3 with
          | lst xs3 =>
            obtain ⟨a, vs, Fx, R, ev, hH3, hW3, kx, nx, aF, sx, sR, dR, ex⟩ := list_place s3 r1'' q3
            have ev : a0 = a := by cases ev; rfl
            subst ev
            cases q4 : g xs3 os with
            | none => have p2 : Pst c XW false (rRV c) W2 H2 σ (F2 ++ Fb) (match g xs3 os with | some (ys, r) => _ | none => .stuck) Q := p2
                      rw [q4] at p2; exact p2.elim
            | some t4 =>
              obtain ⟨ys, ro⟩ := t4
              have p2 : Pst c XW false (rRV c) W2 H2 σ (F2 ++ Fb) (match g xs3 os with | some (ys, r) => _ | none => .stuck) Q := p2
              rw [q4] at p2
              have dxo : Disj Fx Fo := d3.sub sx
              have naFo : a0 ∉ Fo := d3 a0 aF
              refine hg W3 H2 a0 vs xs xs3 os ys ro Fx Fo Q hH3 g3.le kx r3 dxo q4 fun vs' vr Fy Fr ky kr dyr sy sr => ?_
              have nay : a0 ∉ Fy := fun z => (sy _ z).elim nx naFo
              have nar : a0 ∉ Fr := fun z => (sr _ z).elim nx naFo
              have dRo : Disj R Fo := d3.sub sR
              have dR' : ∀ {Z : List Addr}, (∀ y ∈ Z, y ∈ Fx ∨ y ∈ Fo) → Disj Z R := fun sz y hy z => (sz y hy).elim (fun w => dR y z (List.mem_cons_of_mem _ w)) fun w => dRo y z w
              obtain ⟨F', s', sub⟩ := ex vs' ys Fy ky nay (dR' sy)
              have kr' : Rep c W3 (upd H2 a0 (.lst vs')) vr ro Fr := kr.agree (Same.refl _) fun y hy => ⟨upd_ne fun z => nar (z ▸ hy), (kr.dom y hy).2⟩
              have gg : Gr W2 H2 (F2 ++ Fb) W3 (upd H2 a0 (.lst vs')) (F3 ++ Fo) := g3.trans (Gr.write g3.le (List.mem_append_left _ aF) hW3)
              refine p2 W3 (upd H2 a0 (.lst vs')) vr F' Fr (gg.less fun y hy => ?_) (fun z => nomatch z) s' kr' fun y hy z => ?_
              · have inn : ∀ {y : Addr}, y ∈ Fx ∨ y ∈ Fo → y ∈ F3 ++ Fo := fun h => h.elim (fun w => List.mem_append_left _ (sx _ w)) fun w => List.mem_append_right _ w
                rcases List.mem_append.mp hy with hy | hy
                · rcases sub y hy with w | w | w
                  · exact List.mem_append_left _ (sR y w)
                  · exact List.mem_append_left _ (w ▸ aF)
                  · exact inn (sy y w)
                · exact inn (sr y hy)
              · rcases sub y hy with w | w | w
                · exact dR' sr y z w
                · exact nar (w ▸ z)
                · exact dyr y w z
          | _ => exact p2.elim
    | _ => exact p1.elim
/-- xs.m(..) -/
theorem d_mut {id : String} {name : Str} {r : V → List V → Hp → VK → Prop} {g : List O → List O → Option (List O × O)} {xs : List Expr} (slot : Slot "list" name id) (hty : typeOf (.builtin id) = pure (.type "method_descriptor")) (hm : MtR X id r) (hg : MuL c r g) (ho : PE X o (T c XW b1 mo)) (ha : PA X (x :: xs) (TAr c XW b2 mas)) (hp : b2 = true ∨ NP mo := by exact .inl rfl)
    (hbase : attributeBase o name X.env (eval o X.env) = eval o X.env := by rfl)
    (hfew : ((backTo pos (starEach (x :: xs) X.env)).all (fun x => !x.1) && (backToKw pos (keywordEach [] X.env)).all (fun x => x.1.isSome)
      && decide ((x :: xs).length + ([] : List Keyword).length + (if ([] : List Keyword).isEmpty then 0 else 1) < 30)) = true := by rfl)
    (hline : (apos.endLine == pos.line) = true := by rfl) (hs : starEach (x :: xs) X.env = (false, eval x X.env) :: starEach xs X.env := by rfl) (hplain : (backTo pos (starEach xs X.env)).any (·.1) = false := by rfl) :
    PE X (.Call (.Attribute o name apos) (x :: xs) [] pos) (T c XW false (mutD g mo mas)) := pe_imp (pe_bm PySem.F.plainAttrs_list slot hty hm ho ha hbase hfew hline hs hplain) fun σ H Q => mut_run hg hp
theorem d_mut0 {id : String} {name : Str} {r : V → List V → Hp → VK → Prop} {g : List O → List O → Option (List O × O)} (slot : Slot "list" name id) (hty : typeOf (.builtin id) = pure (.type "method_descriptor")) (hm : MtR X id r) (hg : MuL c r g) (ho : PE X o (T c XW b1 mo))
    (hbase : attributeBase o name X.env (eval o X.env) = eval o X.env := by rfl) (hline : (apos.endLine == pos.line) = true := by rfl) :
    PE X (.Call (.Attribute o name apos) [] [] pos) (T c XW false (mutD g mo nilA)) := pe_imp (pe_bm0 PySem.F.plainAttrs_list slot hty hm ho hbase hline) fun σ H Q h =>
  Tr.imp (mut_run (K := X.K) (b2 := true) hg (.inl rfl) h) fun v H1 ⟨h1, h2⟩ => ⟨h1, nilA_run h2⟩
theorem RepL.oneD {vs : List V} {os : List O} (h : RepL c W H vs os F) (e : os.length = 1) : ∃ v o, vs = [v] ∧ os = [o] ∧ Rep c W H v o F := by
  cases h with
  | nil => cases e
  | cons r k d =>
    cases k with
    | nil => exact ⟨_, _, rfl, rfl, by rw [List.append_nil]; exact r⟩
    | cons => cases e
theorem sz6 {n : Nat} (h : n < 1000000) : n < sizeLine := Nat.lt_of_lt_of_le h (by rw [sizeLine_eq]; decide)
theorem mu_append : MuL c rAppend appendG := fun W H a vs ws xs os ys ro Fx Fo Q hH le kx ko d hg q => by
  unfold appendG at hg
  split at hg
  · split at hg
    · cases hg
      obtain ⟨v, o, rfl, eo, ro⟩ := ko.oneD rfl
      cases eo
      refine ⟨a, vs, v, rfl, rfl, hH, by rw [kx.length]; exact sz6 (by assumption), q _ _ _ _ (kx.append (RepL.one ro) d) (.val .non) Disj.nil_right (fun y hy => List.mem_append.mp hy) fun y hy => absurd hy List.not_mem_nil⟩
    · cases hg
  · cases hg
theorem mu_extend : MuL c rExtend extendG := fun W H a vs ws xs os ys ro Fx Fo Q hH le kx ko d hg q => by
  unfold extendG at hg
  split at hg
  · split at hg
    · cases hg
      obtain ⟨v, o, rfl, eo, ro⟩ := ko.oneD rfl
      cases eo
      cases ro with
      | lst hb hw kz nz =>
        refine ⟨a, _, vs, _, rfl, rfl, hH, hb, ?_, q _ _ _ _ (kx.append kz fun y hy z => d y hy (List.mem_cons_of_mem _ z)) (.val .non) Disj.nil_right (fun y hy => (List.mem_append.mp hy).imp id (List.mem_cons_of_mem _)) fun y hy => absurd hy List.not_mem_nil⟩
        rw [kx.length, kz.length]; exact Nat.le_of_lt (sz6 (by assumption))
    · cases hg
  · cases hg
end
end Z

set_option maxRecDepth 100000
set_option maxHeartbeats 2000000
/-! Z.stores: stores into lists, dicts, fields; augmented assignment -/
namespace Z
open PySem L2 PySem.Spec PyProof.Rows
section
variable {κ : Type} [DecidableEq κ]
def hasO (k : κ) (kvs : List (κ × O)) : Bool := kvs.any fun p => decide (p.1 = k)
/-- d[k] = o -/
def putO (k : κ) (o : O) : List (κ × O) → Option (List (κ × O))
  | [] => some [(k, o)]
  | (k', o') :: r => if k' = k then (if hasO k r = true then none else some ((k', o) :: r)) else (putO k o r).map ((k', o') :: ·)
theorem putK_same {p : κ × V} {r : List (κ × V)} {k : κ} {v : V} (h : p.1 = k) (hn : (r.any fun kv => decide (kv.1 = k)) = false) : putK (p :: r) k v = (p.1, v) :: r := by
  unfold putK
  rw [List.any_cons, decide_eq_true h, Bool.true_or, if_pos rfl, List.map_cons, if_pos h]
  congr 1
  refine (List.map_congr_left fun kv hkv => ?_).trans (List.map_id r)
  have := List.any_eq_false.mp hn kv hkv
  rw [if_neg (by simpa using this)]; rfl
theorem putK_other {p : κ × V} {r : List (κ × V)} {k : κ} {v : V} (h : ¬ p.1 = k) : putK (p :: r) k v = p :: putK r k v := by
  unfold putK
  rw [List.any_cons, decide_eq_false h, Bool.false_or]
  split
  · rw [List.map_cons, if_neg h]
  · rfl
theorem keys_any {k : κ} : ∀ {kvs : List (κ × V)} {os : List (κ × O)}, kvs.map (·.1) = os.map (·.1) → (kvs.any fun kv => decide (kv.1 = k)) = hasO k os
  | [], [], _ => rfl
  | [], _ :: _, h => by cases h
  | _ :: _, [], h => by cases h
  | p :: r, q :: os, h => by
    have h1 : p.1 = q.1 := (List.cons.inj h).1
    have ih := keys_any (k := k) (List.cons.inj h).2
    unfold hasO at ih ⊢
    rw [List.any_cons, List.any_cons, ih, h1]
theorem putO_len {k : κ} {o : O} : ∀ {os os' : List (κ × O)}, putO k o os = some os' → os'.length ≤ os.length + 1
  | [], _, h => by unfold putO at h; cases h; exact Nat.le_refl _
  | (k', o') :: r, os', h => by
    unfold putO at h
    split at h
    · split at h
      · cases h
      · cases h; simp
    · cases q : putO k o r with
      | none => rw [q] at h; cases h
      | some r' => rw [q] at h; cases h; have := putO_len q; simp only [List.length_cons]; omega
theorem putO_run {c : Cf} {W H : Hp} {k : κ} {o : O} {v : V} {Fv : List Addr} (rv : Rep c W H v o Fv) : ∀ {kvs : List (κ × V)} {os os' : List (κ × O)} {F : List Addr}, kvs.map (·.1) = os.map (·.1) → RepL c W H (kvs.map (·.2)) (os.map (·.2)) F → Disj F Fv → putO k o os = some os' →
    (putK kvs k v).map (·.1) = os'.map (·.1) ∧ ∃ F', RepL c W H ((putK kvs k v).map (·.2)) (os'.map (·.2)) F' ∧ ∀ a ∈ F', a ∈ F ∨ a ∈ Fv
  | [], [], os', F, _, hr, d, h => by
    unfold putO at h; cases h
    refine ⟨rfl, Fv, RepL.one rv, fun a z => .inr z⟩
  | [], _ :: _, _, _, h, _, _, _ => by cases h
  | _ :: _, [], _, _, h, _, _, _ => by cases h
  | p :: r, (k', o') :: os, os', F, hk, hr, d, h => by
    have h1 : p.1 = k' := (List.cons.inj hk).1
    have h2 := (List.cons.inj hk).2
    unfold putO at h
    have hr : RepL c W H (p.2 :: r.map (·.2)) (o' :: os.map (·.2)) F := hr
    cases hr with
    | cons r1 k1 d1 =>
      rename_i F1 G1
      split at h
      · rename_i he
        split at h
        · cases h
        · rename_i hn
          cases h
          have hn' : (r.any fun kv => decide (kv.1 = k)) = false := by rw [keys_any h2]; simpa using hn
          rw [putK_same (h1.trans he) hn']
          refine ⟨?_, Fv ++ G1, .cons rv k1 d.right.symm, fun a z => ?_⟩
          · rw [List.map_cons, List.map_cons, h2, h1]
          · rcases List.mem_append.mp z with z | z
            · exact .inr z
            · exact .inl (List.mem_append_right _ z)
      · rename_i he
        cases q : putO k o os with
        | none => rw [q] at h; cases h
        | some r' =>
          rw [q] at h; cases h
          rw [putK_other (fun z => he (h1.symm.trans z))]
          obtain ⟨e1, F', rr, sub⟩ := putO_run rv h2 k1 d.right q
          refine ⟨?_, F1 ++ F', .cons r1 rr (fun a z z' => (sub a z').elim (d1 a z) (d.left a z)), fun a z => ?_⟩
          · rw [List.map_cons, List.map_cons, e1, h1]
          · rcases List.mem_append.mp z with z | z
            · exact .inl (List.mem_append_left _ z)
            · exact (sub a z).imp (List.mem_append_right _) id
end
/-- o[k] = ov, the place of o is ro -/
def storeIx (e : Env) (ro : RV) (k : D) (ov : O) : Option Env := match ro with
  | .pl i p => match (RV.pl i p).get e with
    | some (.lst os) => match k with
      | .int j => (ixN os.length j).map fun n => e.put i p (.lst (os.set n ov))
      | _ => none
    | some (.dct kvs) => if kvs.length < 1000000 then (D.keyOf k).bind fun k => (putO k ov kvs).map fun kvs' => e.put i p (.dct kvs') else none
    | some (.dcT kvs) => match k with
      | .tup ds => if kvs.length < 1000000 then (D.keysOf ds).bind fun k => (putO k ov kvs).map fun kvs' => e.put i p (.dcT kvs') else none
      | _ => none
    | _ => none
  | _ => none
def rSetX : TSet := fun o i v H Q => rSetL o i v H Q ∨ rSetD o i v H Q
section
variable {X : Cx} {c : Cf} {XW : WX} {pin : List Nat} {σ0 σ σ' : L2.St} {W H W1 H1 W2 H2 : Hp} {e e1 e2 : Env} {F G F1 F2 : List Addr} {b b1 b2 b3 : Bool}
theorem set_all (hu : X.A.units + 1 < cLine) : PSet X rSetX := fun pins s σ H o i v ov iv u Q I ro ri rv h => h.elim (set_list pins s σ H o i v ov iv u Q I ro ri rv) (set_dict hu pins s σ H o i v ov iv u Q I ro ri rv)
/-- what stands at a place, how it may be exchanged -/
theorem place_hole {i : Nat} {p : List Stp} {v : V} {o1 : O} (s : Slots c W H σ e F) (r : RVr c W H σ v (.pl i p) G) (hg : (RV.pl i p).get e = some o1) :
    ∃ Gh R, Rep c W H v o1 Gh ∧ (∀ y ∈ Gh, y ∈ F) ∧ (∀ y ∈ R, y ∈ F) ∧ Disj Gh R ∧
      ∀ (H' : Hp) (o' : O) (G' : List Addr), (∀ y ∈ R, H' y = H y) → Rep c W H' v o' G' → Disj G' R → ∃ F', Slots c W H' σ (e.put i p o') F' ∧ ∀ y ∈ F', y ∈ R ∨ y ∈ G' := by
  obtain ⟨_, v0, h0, ha⟩ := r
  have hg : (e.at i).bind (·.get p) = some o1 := hg
  cases q : e.at i with
  | none => rw [q] at hg; cases hg
  | some o0 =>
    rw [q] at hg
    obtain ⟨Gh, R, rw_, gs, rs, dj, ex⟩ := s.hole (Env.at_some q) h0 ha (show o0.get p = some o1 from hg)
    refine ⟨Gh, R, rw_, gs, rs, dj, fun H' o' G' hR r' d' => ?_⟩
    obtain ⟨F', s', sub⟩ := ex W H' o' G' (Same.refl _) (fun y hy => ⟨hR y hy, (s.dom y (rs y hy)).2⟩) r' d'
    have ep : e.put i p o' = e.set i (some (o0.put p o')) := by unfold Env.put; rw [q]
    exact ⟨F', by rw [ep]; exact s', sub⟩
theorem RepL.set {vs : List V} {os : List O} {n : Nat} {w : V} {ow : O} {Fv : List Addr} (k : RepL c W H vs os F) (h : n < os.length) (rw_ : Rep c W H w ow Fv) (d : Disj F Fv) : ∃ F', RepL c W H (vs.set n w) (os.set n ow) F' ∧ ∀ a ∈ F', a ∈ F ∨ a ∈ Fv := by
  obtain ⟨v, Gh, R, _, _, _, sR, _, ex⟩ := k.hole (List.getElem?_eq_getElem h)
  obtain ⟨F', k', sub⟩ := ex W H w ow Fv (Same.refl _) (fun a ha => ⟨rfl, (k.dom a (sR a ha)).2⟩) rw_ (fun y hy z => d y (sR y z) hy)
  exact ⟨F', k', fun a ha => (sub a ha).imp (sR a) id⟩
/-- the store -/
theorem store_run {ro : RV} {v y w : V} {dk : D} {ow : O} {Fv : List Addr} {Q : Hp → Prop} (le : Le W H) (s : Slots c W H σ e F) (r : RVr c W H σ v ro G) (hk : Dat c H y dk) (hv : Rep c W H w ow Fv) (dv : Disj F Fv) (h : storeIx e ro dk ow = some e1)
    (q : ∀ (H' : Hp) (F' : List Addr), Gr W H (F ++ Fv) W H' F' → Slots c W H' σ e1 F' → Q H') : rSetX v y w H Q := by
  cases ro with
  | tmp o => cases h
  | pl i p =>
    cases hg : (RV.pl i p).get e with
    | none =>
      unfold storeIx at h
      dsimp only at h
      rw [hg] at h; cases h
    | some o1 =>
      obtain ⟨Gh, R, ro, gs, rs, dj, ex⟩ := place_hole s r hg
      unfold storeIx at h
      dsimp only at h
      rw [hg] at h
      have fin : ∀ (a : Addr) (u : HO) (o' : O) (G' : List Addr), a ∈ Gh → W a = none → Rep c W (upd H a u) v o' G' → (∀ y ∈ G', y ∈ Gh ∨ y ∈ Fv) → e.put i p o' = e1 → Q (upd H a u) := fun a u o' G' aG aW r' sg ee => by
        have hR : ∀ y ∈ R, (upd H a u) y = H y := fun y hy => upd_ne fun z => dj a aG (z ▸ hy)
        obtain ⟨F', s', sub⟩ := ex (upd H a u) o' G' hR r' fun y hy z => (sg y hy).elim (fun w => dj y w z) fun w => dv y (rs y z) w
        rw [ee] at s'
        refine q _ F' ((Gr.write le (List.mem_append_left _ (gs a aG)) aW).less fun y hy => ?_) s'
        rcases sub y hy with z | z
        · exact List.mem_append_left _ (rs y z)
        · rcases sg y z with z | z
          · exact List.mem_append_left _ (gs y z)
          · exact List.mem_append_right _ z
      have away : ∀ {a : Addr} {u : HO} {x : V} {o : O} {E : List Addr}, Rep c W H x o E → a ∉ E → Rep c W (upd H a u) x o E := fun r n => r.agree (Same.refl _) fun y hy => ⟨upd_ne fun z => n (z ▸ hy), (r.dom y hy).2⟩
      have awayL : ∀ {a : Addr} {u : HO} {x : List V} {o : List O} {E : List Addr}, RepL c W H x o E → a ∉ E → RepL c W (upd H a u) x o E := fun r n => r.agree (Same.refl _) fun y hy => ⟨upd_ne fun z => n (z ▸ hy), (r.dom y hy).2⟩
      cases o1 with
      | lst os =>
        cases dk with
        | int j =>
          cases hk
          have h : (ixN os.length j).map (fun n => e.put i p (.lst (os.set n ow))) = some e1 := h
          cases hn : ixN os.length j with
          | none => rw [hn] at h; cases h
          | some n =>
            rw [hn] at h
            have h := Option.some.inj h
            cases ro with
            | lst hH hW k nn =>
              rename_i a vs Fx
              have dx : Disj Fx Fv := fun y hy z => dv y (gs y (List.mem_cons_of_mem _ hy)) z
              obtain ⟨F', k', sub⟩ := k.set (ixN_seq hn).2.1 hv dx
              have na : a ∉ F' := fun z => (sub a z).elim nn fun w => dv a (gs a List.mem_cons_self) w
              refine .inl ⟨a, vs, j, n, rfl, rfl, hH, by rw [k.length]; exact hn, ?_⟩
              refine fin a _ (.lst (os.set n ow)) (a :: F') List.mem_cons_self hW (.lst upd_same hW (awayL k' na) na) (fun y hy => ?_) h
              rcases List.mem_cons.mp hy with z | z
              · exact .inl (z ▸ List.mem_cons_self)
              · exact (sub y z).imp (List.mem_cons_of_mem _) id
        | _ => cases h
      | dct kvs =>
        have h : (if kvs.length < 1000000 then (D.keyOf dk).bind fun k => (putO k ow kvs).map fun kvs' => e.put i p (.dct kvs') else none) = some e1 := h
        split at h
        · rename_i hl
          cases hkk : D.keyOf dk with
          | none => rw [hkk] at h; cases h
          | some k0 =>
            rw [hkk] at h
            have h : (putO k0 ow kvs).map (fun kvs' => e.put i p (.dct kvs')) = some e1 := h
            cases hp : putO k0 ow kvs with
            | none => rw [hp] at h; cases h
            | some kvs' =>
              rw [hp] at h
              have h := Option.some.inj h
              cases ro with
              | dct hH hW hkeys k nn =>
                rename_i a vs Fx
                have dx : Disj Fx Fv := fun y hy z => dv y (gs y (List.mem_cons_of_mem _ hy)) z
                obtain ⟨ke, F', k', sub⟩ := putO_run hv hkeys k dx hp
                have na : a ∉ F' := fun z => (sub a z).elim nn fun w => dv a (gs a List.mem_cons_self) w
                have hlen : vs.length = kvs.length := by have := congrArg List.length hkeys; simpa using this
                refine .inr ⟨a, _, rfl, (by rw [keyOf_dat hk hkk]; exact DPut.k hH (by rw [hlen]; exact sz6 hl)), ?_⟩
                refine fin a _ (.dct kvs') (a :: F') List.mem_cons_self hW (.dct upd_same hW ke (awayL k' na) na) (fun y hy => ?_) h
                rcases List.mem_cons.mp hy with z | z
                · exact .inl (z ▸ List.mem_cons_self)
                · exact (sub y z).imp (List.mem_cons_of_mem _) id
        · cases h
      | dcT kvs =>
        cases dk with
        | tup ds =>
          have h : (if kvs.length < 1000000 then (D.keysOf ds).bind fun k => (putO k ow kvs).map fun kvs' => e.put i p (.dcT kvs') else none) = some e1 := h
          split at h
          · rename_i hl
            cases hkk : D.keysOf ds with
            | none => rw [hkk] at h; cases h
            | some k0 =>
              rw [hkk] at h
              have h : (putO k0 ow kvs).map (fun kvs' => e.put i p (.dcT kvs')) = some e1 := h
              cases hp : putO k0 ow kvs with
              | none => rw [hp] at h; cases h
              | some kvs' =>
                rw [hp] at h
                have h := Option.some.inj h
                cases ro with
                | dcT hH hW hkeys k nn =>
                  rename_i a vs Fx
                  have dx : Disj Fx Fv := fun y hy z => dv y (gs y (List.mem_cons_of_mem _ hy)) z
                  obtain ⟨ke, F', k', sub⟩ := putO_run hv hkeys k dx hp
                  have na : a ∉ F' := fun z => (sub a z).elim nn fun w => dv a (gs a List.mem_cons_self) w
                  have hlen : vs.length = kvs.length := by have := congrArg List.length hkeys; simpa using this
                  cases hk with
                  | tup ht kt =>
                    rw [keysOf_dat kt hkk] at ht
                    refine .inr ⟨a, _, rfl, DPut.t hH ht (by rw [hlen]; exact sz6 hl), ?_⟩
                    refine fin a _ (.dcT kvs') (a :: F') List.mem_cons_self hW (.dcT upd_same hW ke (awayL k' na) na) (fun y hy => ?_) h
                    rcases List.mem_cons.mp hy with z | z
                    · exact .inl (z ▸ List.mem_cons_self)
                    · exact (sub y z).imp (List.mem_cons_of_mem _) id
          · cases h
        | _ => cases h
      | _ => cases h
/-- an expression is run in a statement, G is owned beside -/
theorem Tr.sG {γ δ : Type} {rel1 : L2.St → Hp → Hp → δ → γ → List Addr → Prop} {ma : Env → Res γ} {k : γ → Env → SRes} {D : Ends} {K : δ → Hp → Prop} (le : Le W H) (s : Slots c W H σ e F) (dG : Disj F G) (hG : ∀ a ∈ G, H a ≠ none ∧ W a = none) (pn : PinOk pin σ0 σ) (post : SPst c XW pin σ0 W H (F ++ G) ((ma e).s k) D)
    (hk : ∀ a e1 W1 H1 v F1 Fo, ma e = .ok a e1 → Gr W H F W1 H1 (F1 ++ Fo) → (b1 = true → Same H H1) → Slots c W1 H1 σ e1 F1 → rel1 σ W1 H1 v a Fo → Disj F1 Fo → Disj (F1 ++ Fo) G → (∀ a ∈ G, H1 a ≠ none ∧ W1 a = none) → SPst c XW pin σ0 W1 H1 ((F1 ++ Fo) ++ G) (k a e1) D → K v H1) : Tr c XW b1 rel1 ma σ H K := by
  refine ⟨W, e, F, le, s, ?_⟩
  cases q : ma e with
  | stuck => rw [q] at post; exact post
  | err x e1 =>
    rw [q] at post
    exact fun W' H' F' cls d g k r => post W' H' σ F' cls d (g.more fun a z => List.mem_append_left _ z) k pn r
  | ok a e1 =>
    rw [q] at post
    intro W1 H1 v F1 Fo g sm k r d
    have d1 : Disj (F1 ++ Fo) G := g.disj (fun a z => (hG a z).1) dG
    exact hk a e1 W1 H1 v F1 Fo q g sm k r d d1 (fun a z => ⟨g.there a (hG a z).1, g.out (hG a z).1 (hG a z).2 fun y => dG a y z⟩) (SPst.after post (g.frame G))
/-- o[i] = x -/
def setIxD (mo mi mv : Env → Res RV) : Env → SRes := fun e => (mv e).s fun a e1 => match a.take e1 with
  | some (ov, e2) => (mo e2).s fun ro e3 => (mi e3).s fun ri e4 => match (ri.fz e4).bind fun k => storeIx e4 ro k ov with
    | some e5 => .nx e5
    | none => .stuck
  | none => .stuck
theorem setIx_run {mo mi mv : Env → Res RV} {D : Ends} (hp : b2 = true ∨ NP mo) (h : S c XW pin σ0 (setIxD mo mi mv) D σ H) : tAsg (T c XW b mv) (gSub (T c XW b1 mo) (T c XW b2 mi) rSetX) D σ H := by
  obtain ⟨W, e, F, le, s, pn, p⟩ := h
  refine Tr.s (b1 := b) le s pn p fun a e1 W1 H1 w F1 Fo _ g s1 r d p1 => ?_
  cases q : a.take e1 with
  | none => rw [q] at p1; exact p1.elim
  | some t =>
    obtain ⟨ov, e2⟩ := t
    rw [q] at p1
    obtain ⟨W2, F2, Fv, g2, s2, rv2, d2⟩ := r.take g.le s1 d q
    have p2 : SPst c XW pin σ0 W2 H1 (F2 ++ Fv) ((mo e2).s fun ro e3 => (mi e3).s fun ri e4 => match (ri.fz e4).bind fun k => storeIx e4 ro k ov with
      | some e5 => .nx e5
      | none => .stuck) D := SPst.after p1 g2
    refine Tr.sG (b1 := b1) g2.le s2 d2 (fun y hy => rv2.dom y hy) pn p2 fun ro e3 W3 H3 v F3 Fb qb g3 sm3 s3 r3 d3 dG3 hG3 p3 => ?_
    have rv3 : Rep c W3 H3 w ov Fv := rv2.frame g3 d2.symm
    refine Tr.sG (b1 := b2) (G := Fb ++ Fv) g3.le s3 (Disj.app' d3 dG3.left) (fun y hy => (List.mem_append.mp hy).elim (fun z => r3.dom y z) fun z => hG3 y z) pn (by rw [← List.append_assoc]; exact p3) fun ri e4 W4 H4 y F4 Fk qk g4 sm4 s4 r4 d4 dG4 hG4 p4 => ?_
    have rv4 : Rep c W4 H4 w ov Fv := rv3.frame g4 dG3.left.symm
    have r3' := r3.later g4 d3.symm (hp.elim (fun z => .inl (sm4 z)) fun z => .inr fun i' p' ee => by subst ee; exact z e2 _ _ e3 qb)
    cases qf : ri.fz e4 with
    | none => rw [qf] at p4; exact p4.elim
    | some dk =>
      rw [qf] at p4
      have p4 : SPst c XW pin σ0 W4 H4 ((F4 ++ Fk) ++ (Fb ++ Fv)) (match storeIx e4 ro dk ov with
        | some e5 => .nx e5
        | none => .stuck) D := p4
      cases q5 : storeIx e4 ro dk ov with
      | none => rw [q5] at p4; exact p4.elim
      | some e5 =>
        rw [q5] at p4
        refine store_run g4.le s4 r3' (r4.dat g4.le s4 qf) rv4 dG4.left.right' q5 fun H' F' g5 s5 => ?_
        refine p4 W4 H' σ F' (g5.more fun z hz => ?_) s5 pn
        rcases List.mem_append.mp hz with hz | hz
        · exact List.mem_append_left _ (List.mem_append_left _ hz)
        · exact List.mem_append_right _ (List.mem_append_right _ hz)
variable {o i x y : Expr} {mo mi mv ma : Env → Res RV} {pos pos' tpos : Pos}
theorem s_setIx (hu : X.A.units + 1 < cLine) (hv : PE X x (T c XW b mv)) (ho : PE X o (T c XW b1 mo)) (hi : PE X i (T c XW b2 mi)) (hp : b2 = true ∨ NP mo := by exact .inl rfl) (ha : ∀ v, assign (.Subscript o i tpos) X.env v = (do
      let ov ← holding [v] (eval o X.env)
      let iv ← holding [v, ov] (eval i X.env)
      standAt tpos
      holding [v, ov, iv] (setItem ov iv v)
      release [v, ov, iv] []) := by intro _; rfl) (hs : swapsWithSole [.Subscript o i tpos] x pos.line X.env = pure false := by rfl) (hw : swappedStores [.Subscript o i tpos] x X.env = pure none := by rfl)
    (h1 : (assignEach [.Subscript o i tpos] X.env).map (·.2) = [assign (.Subscript o i tpos) X.env] := by rfl) :
    PS X (.Assign [.Subscript o i tpos] x pos) (S c XW pin σ0 (setIxD mo mi mv)) := ps_imp (ps_asg hv (pg_sub ho hi (set_all hu) ha) hs hw h1) fun D σ H => setIx_run hp
/-! ### fields -/
def putFO (f : Str) (o : O) : List (Str × O) → List (Str × O)
  | [] => [(f, o)]
  | (g, x) :: r => if g = f then (g, o) :: r else (g, x) :: putFO f o r
theorem putFO_run {f : Str} {o : O} {v : V} {Fv : List Addr} (rv : Rep c W H v o Fv) : ∀ {fs : List (Str × V)} {os : List (Str × O)} {F : List Addr}, fs.map (·.1) = os.map (·.1) → RepL c W H (fs.map (·.2)) (os.map (·.2)) F → Disj F Fv →
    (putF f v fs).map (·.1) = (putFO f o os).map (·.1) ∧ ∃ F', RepL c W H ((putF f v fs).map (·.2)) ((putFO f o os).map (·.2)) F' ∧ ∀ a ∈ F', a ∈ F ∨ a ∈ Fv
  | [], [], F, _, hr, d => ⟨rfl, Fv, RepL.one rv, fun a z => .inr z⟩
  | [], _ :: _, _, h, _, _ => by cases h
  | _ :: _, [], _, h, _, _ => by cases h
  | (g, x) :: r, (g', x') :: os, F, hk, hr, d => by
    have h1 : g = g' := (List.cons.inj hk).1
    have h2 := (List.cons.inj hk).2
    subst h1
    have hr : RepL c W H (x :: r.map (·.2)) (x' :: os.map (·.2)) F := hr
    unfold putF putFO
    cases hr with
    | cons r1 k1 d1 =>
      rename_i F1 G1
      split
      · refine ⟨?_, Fv ++ G1, .cons rv k1 d.right.symm, fun a z => ?_⟩
        · rw [List.map_cons, List.map_cons, h2]
        · rcases List.mem_append.mp z with z | z
          · exact .inr z
          · exact .inl (List.mem_append_right _ z)
      · obtain ⟨e1, F', rr, sub⟩ := putFO_run rv h2 k1 d.right
        refine ⟨by rw [List.map_cons, List.map_cons, e1], F1 ++ F', .cons r1 rr (fun a z z' => (sub a z').elim (d1 a z) (d.left a z)), fun a z => ?_⟩
        rcases List.mem_append.mp z with z | z
        · exact .inl (List.mem_append_left _ z)
        · exact (sub a z).imp (List.mem_append_right _) id
/-- o.f = v, of the classes ks -/
def storeAt (ks : List Nat) (e : Env) (ro : RV) (f : Str) (ov : O) : Option Env := match ro with
  | .pl i p => match (RV.pl i p).get e with
    | some (.obj k fs) => if ks.contains k = true ∧ fs.length < 1000 then some (e.put i p (.obj k (putFO f ov fs))) else none
    | _ => none
  | _ => none
def setAtD (ks : List Nat) (f : Str) (mo mv : Env → Res RV) : Env → SRes := fun e => (mv e).s fun a e1 => match a.take e1 with
  | some (ov, e2) => (mo e2).s fun ro e3 => match storeAt ks e3 ro f ov with
    | some e4 => .nx e4
    | none => .stuck
  | none => .stuck
theorem setAt_run {ks : List Nat} {f : Str} {D : Ends} (hK : X.K = c.K) (hc : ∀ k, ks.contains k = true → Cls X.K (c.cls k) ∧ NoAttr X.K (c.cls k) f) (h : S c XW pin σ0 (setAtD ks f mo mv) D σ H) : sFld X.K (T c XW b1 mo) (T c XW b mv) f D σ H := by
  obtain ⟨W, e, F, le, s, pn, p⟩ := h
  refine Tr.s (b1 := b) le s pn p fun a e1 W1 H1 w F1 Fo _ g s1 r d p1 => ?_
  cases q : a.take e1 with
  | none => rw [q] at p1; exact p1.elim
  | some t =>
    obtain ⟨ov, e2⟩ := t
    rw [q] at p1
    obtain ⟨W2, F2, Fv, g2, s2, rv2, d2⟩ := r.take g.le s1 d q
    have p2 : SPst c XW pin σ0 W2 H1 (F2 ++ Fv) ((mo e2).s fun ro e3 => match storeAt ks e3 ro f ov with
      | some e5 => .nx e5
      | none => .stuck) D := SPst.after p1 g2
    refine Tr.sG (b1 := b1) g2.le s2 d2 (fun y hy => rv2.dom y hy) pn p2 fun ro e3 W3 H3 v F3 Fb qb g3 sm3 s3 r3 d3 dG3 hG3 p3 => ?_
    have rv3 : Rep c W3 H3 w ov Fv := rv2.frame g3 d2.symm
    cases q5 : storeAt ks e3 ro f ov with
    | none => rw [q5] at p3; exact p3.elim
    | some e5 =>
      rw [q5] at p3
      cases ro with
      | tmp o => cases q5
      | pl i p =>
        unfold storeAt at q5
        dsimp only at q5
        cases hg : (RV.pl i p).get e3 with
        | none => rw [hg] at q5; cases q5
        | some o1 =>
          rw [hg] at q5
          cases o1 with
          | obj k fs =>
            dsimp only at q5
            split at q5
            · rename_i hkl
              have q5 := Option.some.inj q5
              obtain ⟨Gh, R, ro, gs, rs, dj, ex⟩ := place_hole s3 r3 hg
              cases ro with
              | obj hH hW hkeys kk nn =>
                rename_i a dx vs Fx
                have dx' : Disj Fx Fv := fun y hy z => dG3.left y (gs y (List.mem_cons_of_mem _ hy)) z
                obtain ⟨ke, F', k', sub⟩ := putFO_run (f := f) rv3 hkeys kk dx'
                have na : a ∉ F' := fun z => (sub a z).elim nn fun w => dG3.left a (gs a List.mem_cons_self) w
                have hlen : vs.length = fs.length := by have := congrArg List.length hkeys; simpa using this
                obtain ⟨c1, c2⟩ := hc k hkl.1
                refine ⟨a, c.cls k, dx, vs, rfl, hH, c1, c2, by rw [hlen]; exact hkl.2, ?_⟩
                have hR : ∀ y ∈ R, (upd H3 a (.ins (c.cls k) dx (putF f w vs))) y = H3 y := fun y hy => upd_ne fun z => dj a List.mem_cons_self (z ▸ hy)
                have rep : Rep c W3 (upd H3 a (.ins (c.cls k) dx (putF f w vs))) (.ref a) (.obj k (putFO f ov fs)) (a :: F') := .obj upd_same hW ke (k'.agree (Same.refl _) fun y hy => ⟨upd_ne fun z => na (z ▸ hy), (k'.dom y hy).2⟩) na
                have inn : ∀ y ∈ a :: F', y ∈ a :: Fx ∨ y ∈ Fv := fun y hy => (List.mem_cons.mp hy).elim (fun z => .inl (z ▸ List.mem_cons_self)) fun z => (sub y z).imp (List.mem_cons_of_mem _) id
                obtain ⟨F4, s4, sub4⟩ := ex _ _ (a :: F') hR rep fun y hy z => (inn y hy).elim (fun w => dj y w z) fun w => dG3.left y (rs y z) w
                rw [q5] at s4
                refine p3 W3 _ σ F4 (((Gr.write (F := F3 ++ Fb ++ Fv) g3.le (List.mem_append_left _ (List.mem_append_left _ (gs a List.mem_cons_self))) hW)).less fun y hy => ?_) s4 pn
                rcases sub4 y hy with z | z
                · exact List.mem_append_left _ (List.mem_append_left _ (rs y z))
                · rcases inn y z with z | z
                  · exact List.mem_append_left _ (List.mem_append_left _ (gs y z))
                  · exact List.mem_append_right _ z
            · cases q5
          | _ => cases q5
theorem s_setAt {f : Str} {ks : List Nat} (hK : X.K = c.K) (hv : PE X x (T c XW b mv)) (ho : PE X o (T c XW b1 mo)) (hc : ∀ k, ks.contains k = true → Cls X.K (c.cls k) ∧ NoAttr X.K (c.cls k) f) (hs : swapsWith x (some (.Attribute o f pos')) pos.line X.env = pure false := by rfl) :
    PS X (.Assign [.Attribute o f pos'] x pos) (S c XW pin σ0 (setAtD ks f mo mv)) := ps_imp (ps_fld ho hv hs) fun D σ H => setAt_run hK hc
/-! ### augmented -/
def augD (f : D → D → Option D) (i : Nat) (ma : Env → Res RV) : Env → SRes := fun e => match e.at i with
  | some (.val d0) => (ma e).s fun a e1 => match (a.fz e1).bind fun y => scal (f d0 y) with
    | some (.tmp o) => .nx (e1.set i (some o))
    | _ => .stuck
  | _ => .stuck
theorem s_aug {op : Operator} {r : R2} {f : D → D → Option D} {k : Nat} {n : Str} (hN : X.N.Nodup) (hi : X.N[k]? = some n) (hx : Loc X.env.scope n) (ho : OpR X (inplaceOp op) r) (hs : Sc2 c r f) (he : PE X x (T c XW b ma)) (hp : pin.contains k = false := by rfl)
    (hf : X.fn n = true ∨ X.env.scope.names.lookup n = some .local := by first | exact .inl rfl | exact .inr rfl | assumption) :
    PS X (.AugAssign (.Name n pos') op x pos) (S c XW pin σ0 (augD f k ma)) := ps_imp (ps_aug hN hi hx he ho hf) fun D σ H ⟨W, e, F, le, s, pn, p⟩ => by
  unfold augD at p
  cases q : e.at k with
  | none => rw [q] at p; exact p.elim
  | some o0 =>
    rw [q] at p
    cases o0 with
    | val d0 =>
      have p : SPst c XW pin σ0 W H F ((ma e).s fun a e1 => match (a.fz e1).bind fun y => scal (f d0 y) with
        | some (.tmp o) => .nx (e1.set k (some o))
        | _ => .stuck) D := p
      obtain ⟨v0, G0, hv0, rep0, _⟩ := s.get (Env.at_some q)
      cases rep0 with
      | val hd0 =>
      refine ⟨v0, hv0, ?_⟩
      refine Tr.s (b1 := b) le s pn p fun a e1 W1 H1 w F1 Fo _ g s1 r d p1 => ?_
      cases qf : a.fz e1 with
      | none => rw [qf] at p1; exact p1.elim
      | some dy =>
        rw [qf] at p1
        have p1 : SPst c XW pin σ0 W1 H1 (F1 ++ Fo) (match scal (f d0 dy) with
          | some (.tmp o) => .nx (e1.set k (some o))
          | _ => .stuck) D := p1
        cases qs : scal (f d0 dy) with
        | none => rw [qs] at p1; exact p1.elim
        | some t =>
          obtain ⟨d', w', e1', e2', rfl⟩ := scal_of qs
          rw [qs] at p1
          have hd1 : Dat c H1 v0 d0 := (hd0.mono (.of_same g.w)).mono g.le
          refine hs H1 v0 w d0 dy d' w' _ hd1 (r.dat g.le s1 qf) e1' e2' ?_
          obtain ⟨F3, s3, sub⟩ := s1.set' k (.val (sv_dat e2')) (fun _ z => absurd z List.not_mem_nil)
          exact p1 W1 H1 _ F3 ((Gr.refl g.le).less fun y hy => List.mem_append_left _ ((sub y hy).elim id fun z => absurd z List.not_mem_nil)) s3 (pn.set hp)
    | _ => exact p.elim
/-! ### x, y = a, b -/
def parD (i j : Nat) (mas : Env → Res (List RV)) : Env → SRes := fun e => (mas e).s fun as e1 => match takes e1 as with
  | some ([o1, o2], e2) => .nx ((e2.set i (some o1)).set j (some o2))
  | _ => .stuck
theorem s_par {k l : Nat} {x y : Str} {a b' : Expr} {mas : Env → Res (List RV)} {px py pt : Pos} {kt k2 pt2} (hc : X.calm = true) (hN : X.N.Nodup) (hi : X.N[k]? = some x) (hj : X.N[l]? = some y) (hij : k ≠ l)
    (hx : X.env.scope.names.lookup x = some .local) (hy : X.env.scope.names.lookup y = some .local) (ha : PA X [a, b'] (TAr c XW b mas)) (hpk : pin.contains k = false := by rfl) (hpl : pin.contains l = false := by rfl)
    (hw : swappedStores [.Tuple [.Name x px, .Name y py] kt pt] (.Tuple [a, b'] k2 pt2) X.env = pure (some [x, y]) := by rfl)
    (hs : swapsWithSole [.Tuple [.Name x px, .Name y py] kt pt] (.Tuple [a, b'] k2 pt2) pos.line X.env = pure false := by rfl) :
    PS X (.Assign [.Tuple [.Name x px, .Name y py] kt pt] (.Tuple [a, b'] k2 pt2) pos) (S c XW pin σ0 (parD k l mas)) := ps_imp (ps_par hc hN hi hj hij hx hy ha hw hs) fun D σ H ⟨W, e, F, le, s, pn, p⟩ => by
  refine Tr.s (b1 := b) le s pn p fun as e1 W1 H1 vs F1 Fo _ g s1 r d p1 => ?_
  cases q : takes e1 as with
  | none => rw [q] at p1; exact p1.elim
  | some t =>
    obtain ⟨os, e2⟩ := t
    rw [q] at p1
    obtain ⟨W2, F2, Fo2, g2, s2, r2, d2⟩ := r.takes g.le s1 d q
    match os, r2, p1 with
    | [o1, o2], r2, p1 =>
      cases r2 with
      | cons r3 k3 d3 =>
        cases k3 with
        | cons r4 k4 d4 =>
          cases k4 with
          | nil =>
            rename_i F3 F4
            refine ⟨_, _, rfl, ?_⟩
            have dd := d2
            obtain ⟨Fa, sa, suba⟩ := s2.set' k r3 d2.left'.symm
            have dFa : Disj F4 Fa := fun y hy z => (suba y z).elim (fun w => d2 y w (List.mem_append_right _ (List.mem_append_left _ hy))) fun w => d3 y w (List.mem_append_left _ hy)
            obtain ⟨Fb, sb, subb⟩ := sa.set' l r4 dFa
            have p1 : SPst c XW pin σ0 W1 H1 (F1 ++ Fo) (.nx ((e2.set k (some o1)).set l (some o2))) D := p1
            refine p1 W2 H1 _ Fb (g2.less fun y hy => ?_) sb ((pn.set hpk).set hpl)
            rcases subb y hy with z | z
            · rcases suba y z with z | z
              · exact List.mem_append_left _ z
              · exact List.mem_append_right _ (List.mem_append_left _ z)
            · exact List.mem_append_right _ (List.mem_append_right _ (List.mem_append_left _ z))
    | [], _, p1 => exact p1.elim
    | [_], _, p1 => exact p1.elim
    | _ :: _ :: _ :: _, _, p1 => exact p1.elim
end
end Z

set_option maxRecDepth 100000
set_option maxHeartbeats 2000000
/-! Z.more 2: slices, sums of lists, dicts, fields of exceptions, calls of a local def -/
namespace Z
open PySem L2 PySem.Spec PyProof.Rows
/-! ### slices -/
def cutD {α : Type} (xs : List α) (lo hi : Option Int) : List α := (xs.drop (HT.sIx xs.length 0 lo)).take (HT.sIx xs.length xs.length hi - HT.sIx xs.length 0 lo)
def noneP : Env → Res (Option Int) := fun e => .ok none e
def someP (m : Env → Res RV) : Env → Res (Option Int) := fun e => (m e).bind fun a e1 => match a with
  | .tmp (.val (.int i)) => .ok (some i) e1
  | _ => .stuck
def slF (x : D) (lo hi : Option Int) : Option RV := match x with
  | .str z => scal (some (.str (Txt.slice z lo hi)))
  | .lst ds => some (.tmp (.lst ((cutD ds lo hi).map .val)))
  | .tup ds => some (rv (.tup (cutD ds lo hi)))
  | _ => none
def slD (mo : Env → Res RV) (ml mh : Env → Res (Option Int)) : Env → Res RV := fun e => (mo e).bind fun a e1 => (ml e1).bind fun lo e2 => (mh e2).bind fun hi e3 => Res.of e3 ((a.sh e3).bind fun x => slF x lo hi)
def revD (mo : Env → Res RV) : Env → Res RV := fun e => (mo e).bind fun a e1 => Res.of e1 ((a.sh e1).bind fun x => match x with
  | .lst ds => some (.tmp (.lst (ds.reverse.map .val)))
  | _ => none)
section
variable {X : Cx} {c : Cf} {XW : WX} {W H W1 H1 W2 H2 : Hp} {σ : L2.St} {e e1 e2 : Env} {F G F1 F2 : List Addr} {b b1 b2 b3 : Bool}
variable {x y o : Expr} {ma mb mo : Env → Res RV} {ml mh : Env → Res (Option Int)} {pos p2 : Pos} {lo hi : Option Expr}
abbrev rOI : L2.St → Hp → Hp → Option Int → Option Int → List Addr → Prop := fun _ _ _ v a F => v = a ∧ F = []
abbrev TO' (c : Cf) (XW : WX) (b : Bool) (m : Env → Res (Option Int)) : TO := Tr c XW b rOI m
theorem po_imp {lo : Option Expr} {t t' : TO} (h : PO X lo t) (k : ∀ σ H Q, t' σ H Q → t σ H Q) : PO X lo t' := ⟨fun pins s σ H Q I hw => h.run pins s σ H Q I (k σ H Q hw)⟩
theorem p_none : PO X none (TO' c XW true noneP) := po_imp po_none fun σ H Q ⟨W, e, F, le, s, p⟩ => p W H none F [] (by rw [List.append_nil]; exact Gr.refl le) (fun _ => Same.refl _) s ⟨rfl, rfl⟩ Disj.nil_right
theorem p_some (h : PE X x (T c XW b ma)) : PO X (some x) (TO' c XW b (someP ma)) := po_imp (po_some h) fun σ H Q ⟨W, e, F, le, s, p⟩ => by
  refine Tr.then0 (b2 := true) le s p (fun z => ⟨z, rfl⟩) fun a e1 W1 H1 v F1 Fa qa g1 sm1 s1 r1 d1 p1 => ?_
  match a, r1, p1 with
  | .tmp (.val (.int i)), r1, p1 =>
    cases r1 with
    | val hd =>
      cases hd
      rw [List.append_nil] at p1
      exact ⟨i, rfl, p1 W1 H1 (some i) F1 [] (by rw [List.append_nil]; exact Gr.refl g1.le) (fun _ => Same.refl _) s1 ⟨rfl, rfl⟩ Disj.nil_right⟩
def rSlZ (K : PySem.W.Frag) : V → Option Int → Option Int → Hp → VK → Prop := fun x lo hi H Q => rSlL K x lo hi H Q ∨ (rSlA K x lo hi H Q ∨ C8.rSlX x lo hi H Q)
theorem sl_all : SlR X (rSlZ X.K) := SlR.or sl_list (SlR.or sl_tupA C8.sl_txt)
theorem RVr.sh' {v : V} {a : RV} {Fa : List Addr} {d : D} (le : Le W H) (r : RVr c W H σ v a Fa) (s : Slots c W H σ e F) (h : a.sh e = some d) : Dat c H v d ∨ ∃ ad vs ds, v = .ref ad ∧ d = .lst ds ∧ H ad = some (.lst vs) ∧ DatL c W vs ds := by
  cases r.sh s h with
  | val hd => exact .inl (hd.mono le)
  | lst hh k => exact .inr ⟨_, _, _, rfl, rfl, hh, k⟩
theorem DatL.cut {vs : List V} {ds : List D} {lo hi : Option Int} (k : DatL c W vs ds) : DatL c W (cutV vs lo hi) (cutD ds lo hi) := by
  unfold cutV cutD
  rw [k.length]
  exact (k.drop _).take _
theorem cut_all {α : Type} {xs : List α} {lo hi : Option Int} (h : HT.sIx xs.length 0 lo = 0 ∧ HT.sIx xs.length xs.length hi = xs.length) : cutD xs lo hi = xs := by
  unfold cutD
  rw [h.1, h.2, List.drop_zero, Nat.sub_zero, List.take_length]
/-- a new list at the end; a new tuple -/
theorem Pst.newL {es : List D} {Q : VK} (le : Le W H) (p : Pst c XW b (rRV c) W H σ G (.ok (.tmp (.lst (es.map .val))) e) Q) (s : Slots c W H σ e F) (sG : ∀ y ∈ F, y ∈ G) {a : Addr} {xs : List V} (ha : H a = none) (hd : DatL c W xs es) : Q (.ref a) (upd H a (.lst xs)) := by
  have g2 : Gr W H [] W (upd H a (.lst xs)) [a] := Gr.alloc (F := []) le ha
  refine Pst.val (Gt := []) (Fo := [a]) p s sG g2 Disj.nil_right (fun _ z => absurd z List.not_mem_nil) (fun _ => same_alloc ha) ?_
  exact .lst upd_same (le.free ha) (repL_vals hd) List.not_mem_nil
theorem Pst.newT {es : List D} {Q : VK} (le : Le W H) (p : Pst c XW b (rRV c) W H σ G (.ok (rv (.tup es)) e) Q) (s : Slots c W H σ e F) (sG : ∀ y ∈ F, y ∈ G) {a : Addr} {xs : List V} (ha : H a = none) (hd : DatL c W xs es) : Q (.ref a) (upd H a (.tup xs)) := by
  have g2 : Gr W H [] (upd W a (.tup xs)) (upd H a (.tup xs)) [] := Gr.allocV (F := []) le ha
  exact Pst.val (Gt := []) (Fo := []) p s sG g2 Disj.nil_right (fun _ z => absurd z List.not_mem_nil) (fun _ => same_alloc ha) (.val (.tup upd_same (hd.mono (.of_same g2.w))))
theorem Pst.oldV {d : D} {v : V} {Q : VK} (le : Le W H) (p : Pst c XW b (rRV c) W H σ G (.ok (rv d) e) Q) (s : Slots c W H σ e F) (sG : ∀ y ∈ F, y ∈ G) (hd : Dat c W v d) : Q v H :=
  Pst.val (Gt := []) (Fo := []) p s sG (Gr.refl le) Disj.nil_right (fun _ z => absurd z List.not_mem_nil) (fun _ => Same.refl _) (.val hd)
theorem Sh.tupD {v : V} {ds : List D} (h : Sh c W H v (.tup ds)) : ∃ a vs, v = .ref a ∧ W a = some (.tup vs) ∧ DatL c W vs ds := by
  cases h with
  | val h => cases h with | tup hw k => exact ⟨_, _, rfl, hw, k⟩
theorem sl_run {ml mh : Env → Res (Option Int)} {Q : VK} (h2 : b2 = true) (h3 : b3 = true) : T c XW b1 (slD mo ml mh) σ H Q → tSl (rSlZ c.K) (T c XW b1 mo) (TO' c XW b2 ml) (TO' c XW b3 mh) σ H Q := fun ⟨W, e, F, le, s, p⟩ => by
  refine Tr.then0 (b2 := true) le s p (fun z => ⟨z, rfl⟩) fun a e1 W1 H1 x F1 Fa qa g1 sm1 s1 r1 d1 p1 => ?_
  refine Tr.then (G := Fa) (b1 := b2) (b2 := true) g1.le s1 d1 (fun y hy => r1.dom y hy) p1 (fun z => ⟨h2, rfl⟩) fun lo e2 W2 H2 lo' F2 Fb qb g2 sm2 s2 r2 d2 dG2 hG2 p2 => ?_
  obtain ⟨rfl, rfl⟩ := r2
  have r1' := r1.later g2 d1.symm (.inl (sm2 h2))
  rw [List.append_nil] at p2 dG2
  refine Tr.then (G := Fa) (b1 := b3) (b2 := true) g2.le s2 dG2 (fun y hy => hG2 y hy) p2 (fun z => ⟨h3, rfl⟩) fun hi e3 W3 H3 hi' F3 Fc qc g3 sm3 s3 r3 d3 dG3 hG3 p3 => ?_
  obtain ⟨rfl, rfl⟩ := r3
  rw [List.append_nil] at p3 dG3
  have r1'' := r1'.later g3 dG2.symm (.inl (sm3 h3))
  obtain ⟨t, ht, p3⟩ := Res.of_ok p3
  cases q : a.sh e3 with
  | none => rw [q] at ht; cases ht
  | some dx =>
    rw [q] at ht
    have ht : slF dx lo' hi' = some t := ht
    have sG : ∀ y ∈ F3, y ∈ F3 ++ Fa := fun y hy => List.mem_append_left _ hy
    have sx := r1''.sh s3 q
    unfold slF at ht
    split at ht
    · obtain ⟨d', w, e1', e2', rfl⟩ := scal_of ht
      have e1' := Option.some.inj e1'
      cases sx with
      | val hd =>
        cases hd with
        | str _ hz =>
          refine .inr (.inr ⟨_, rfl, sOk_len hz, ?_⟩)
          have e2'' := e2'
          rw [← e1', sv_str] at e2''
          split at e2''
          · cases e2''
            exact Pst.scalar g3.le p3 s3 sG e2'
          · cases e2''
    · cases ht
      obtain ⟨ad, vs, rfl, hq, k⟩ := sx.lstD g3.le
      exact .inl ⟨ad, vs, rfl, hq, fun p hp => Pst.newL g3.le p3 s3 sG hp k.cut⟩
    · rename_i ds
      cases ht
      obtain ⟨ad, vs, rfl, hw, k⟩ := sx.tupD
      refine .inr (.inl ⟨ad, vs, rfl, SqT.of (g3.le.tup hw), fun hall => ?_, fun _ p hp => Pst.newT g3.le p3 s3 sG hp k.cut⟩)
      rw [k.length] at hall
      refine Pst.oldV g3.le p3 s3 sG ?_
      rw [cut_all hall]
      exact .tup hw k
    · cases ht
theorem d_sl (hK : X.K = c.K) (ho : PE X o (T c XW b1 mo)) (hl : PO X lo (TO' c XW b2 ml)) (hh : PO X hi (TO' c XW b3 mh)) (h2 : b2 = true := by rfl) (h3 : b3 = true := by rfl) : PE X (.Subscript o (.Slice lo hi none p2) pos) (T c XW b1 (slD mo ml mh)) :=
  pe_imp (pe_slice sl_all ho hl hh) fun σ H Q => by rw [hK]; exact sl_run h2 h3
theorem d_rev {k : Nat} {q1 q2 q3 q4 : Pos} (hK : X.K = c.K) (ho : PE X o (T c XW b mo)) : PE X (.Subscript o (.Slice none none (some (.UnaryOp .USub (.Constant (.int 1) k q1) q2)) q3) q4) (T c XW b (revD mo)) :=
  pe_imp (pe_revL ho) fun σ H Q ⟨W, e, F, le, s, p⟩ => by
    refine Tr.then0 (b2 := true) le s p (fun z => ⟨z, rfl⟩) fun a e1 W1 H1 x F1 Fa qa g1 sm1 s1 r1 d1 p1 => ?_
    obtain ⟨t, ht, p1⟩ := Res.of_ok p1
    cases q : a.sh e1 with
    | none => rw [q] at ht; cases ht
    | some dx =>
      rw [q] at ht
      cases dx with
      | lst ds =>
        have et : RV.tmp (.lst (ds.reverse.map .val)) = t := Option.some.inj ht
        subst et
        obtain ⟨ad, vs, rfl, hq, kk⟩ := (r1.sh s1 q).lstD g1.le
        exact ⟨ad, vs, rfl, by rw [hK]; exact hq, fun p hp => Pst.newL g1.le p1 s1 (fun y hy => List.mem_append_left _ hy) hp kk.reverse⟩
      | _ => cases ht
/-! ### sums of lists, tuples -/
def addF (x y : D) : Option RV := match x, y with
  | .lst xs, .lst ys => if xs.length + ys.length ≤ 1000000 then some (.tmp (.lst ((xs ++ ys).map .val))) else none
  | .tup xs, .tup ys => if xs.length + ys.length ≤ 1000000 then some (rv (.tup (xs ++ ys))) else none
  | x, y => scal (D.add x y)
def addD (ma mb : Env → Res RV) : Env → Res RV := fun e => (ma e).bind fun a e1 => (mb e1).bind fun b e2 => Res.of e2 ((a.sh e2).bind fun x => (b.sh e2).bind fun y => addF x y)
def rCatL (K : PySem.W.Frag) : R2 := fun x y H Q => ∃ a b xs ys, x = .ref a ∧ y = .ref b ∧ SqL K H a xs ∧ SqL K H b ys ∧ xs.length + ys.length ≤ sizeLine ∧ ∀ p, H p = none → Q (.ref p) (upd H p (.lst (xs ++ ys)))
theorem op_catL : OpR X (binaryOp .Add) (rCatL X.K) := by
  intro pins s σ H x y v u Q I rx ry h
  obtain ⟨a, b, xs, ys, rfl, rfl, ha, hb, hz, q⟩ := h
  cases rx
  cases ry
  obtain ⟨its, r1, p1, _⟩ := I.list ha
  obtain ⟨its2, r2, p2, _⟩ := I.list hb
  obtain ⟨⟨cls, dd, data, sl⟩, ho, hc, n, hd⟩ := p1.isList
  obtain ⟨⟨cls2, dd2, data2, sl2⟩, ho2, hc2, n2, hd2⟩ := p2.isList
  simp only at hc hd hc2 hd2
  subst hc hd hc2 hd2
  have e : its.toArray ++ its2.toArray = (its ++ its2).toArray := by simp
  have hsz : its.toArray.size + its2.toArray.size ≤ sizeLine := by rw [List.size_toArray, List.size_toArray, ← r1.length, ← r2.length]; exact hz
  refine concat_meets ⟨_, ho, rfl⟩ ⟨_, ho2, rfl⟩ noFill_list_add seq_list_add PySem.F.slot_list_add PySem.F.entry_list_add (PySem.F.args_list_add_2 _ _) (list_addW a b its.toArray its2.toArray n n2 dd dd2 sl sl2 hsz) ⟨ho, ho2, ?_⟩
  rw [e]
  exact ⟨.ref _, _, I.lnew (t' := s.toks) (r1.append r2) (by rw [List.length_append]; omega), rfl, q _ I.fresh⟩
def rAddZ (K : PySem.W.Frag) : R2 := fun x y H Q => (rI0 (fun i j => .int (i + j)) x y H Q ∨ rAddS x y H Q) ∨ (rCatL K x y H Q ∨ rCatA K x y H Q)
theorem op_addZ : OpR X (binaryOp .Add) (rAddZ X.K) := OpR.or op_addA (OpR.or op_catL op_catA)
theorem sz6' {n : Nat} (h : n ≤ 1000000) : n ≤ sizeLine := Nat.le_trans h (by rw [sizeLine_eq]; decide)
theorem DatL.nil_iff {vs : List V} {ds : List D} (k : DatL c W vs ds) : vs = [] ↔ ds = [] := by cases k <;> simp
theorem add_run {Q : VK} (hb : b = true → b1 = true ∧ b2 = true) (hp : b2 = true ∨ NP ma) : T c XW b (addD ma mb) σ H Q → tOp (rAddZ c.K) (T c XW b1 ma) (T c XW b2 mb) σ H Q :=
  two_run hb hp fun W H e F Fa Fb x y a a' le s ra rb da db dab p => by
    obtain ⟨t, ht, p⟩ := Res.of_ok p
    have sG : ∀ y ∈ F, y ∈ F ++ (Fa ++ Fb) := fun y hy => List.mem_append_left _ hy
    cases q1 : a.sh e with
    | none => rw [q1] at ht; cases ht
    | some dx =>
      cases q2 : a'.sh e with
      | none => rw [q1, q2] at ht; cases ht
      | some dy =>
        rw [q1, q2] at ht
        have ht : addF dx dy = some t := ht
        have hx := ra.sh s q1
        have hy := rb.sh s q2
        unfold addF at ht
        split at ht
        · split at ht
          · cases ht
            obtain ⟨a1, vs, rfl, h1, k1⟩ := hx.lstD le
            obtain ⟨a2, ws, rfl, h2, k2⟩ := hy.lstD le
            exact .inr (.inl ⟨a1, a2, vs, ws, rfl, rfl, h1, h2, by rw [k1.length, k2.length]; exact sz6' (by assumption), fun p0 hp0 => Pst.newL le p s sG hp0 (k1.append k2)⟩)
          · cases ht
        · split at ht
          · cases ht
            obtain ⟨a1, vs, rfl, h1, k1⟩ := hx.tupD
            obtain ⟨a2, ws, rfl, h2, k2⟩ := hy.tupD
            refine .inr (.inr ⟨a1, a2, vs, ws, rfl, rfl, SqT.of (le.tup h1), SqT.of (le.tup h2), by rw [k1.length, k2.length]; exact sz6' (by assumption), fun z => ?_, fun _ z => ?_, fun _ _ p0 hp0 => Pst.newT le p s sG hp0 (k1.append k2)⟩)
            · have e0 := k1.nil_iff.mp z
              subst e0
              exact Pst.oldV le p s sG (.tup h2 k2)
            · have e0 := k2.nil_iff.mp z
              subst e0
              refine Pst.oldV le p s sG ?_
              rw [List.append_nil]
              exact .tup h1 k1
          · cases ht
        · obtain ⟨d', w, e1', e2', rfl⟩ := scal_of ht
          have f1 : a.fz e = some dx ∨ D.add dx dy = none := by
            unfold RV.sh at q1
            unfold RV.fz
            cases qg : a.get e with
            | none => rw [qg] at q1; cases q1
            | some o1 =>
              rw [qg] at q1
              have q1 : o1.sh = some dx := q1
              cases o1 with
              | val d => left; cases q1; rfl
              | lst os =>
                right
                have q1 : (vals os).map D.lst = some dx := q1
                cases qv : vals os with
                | none => rw [qv] at q1; cases q1
                | some ds => rw [qv] at q1; cases q1; rfl
              | _ => cases q1
          have f2 : a'.fz e = some dy ∨ D.add dx dy = none := by
            unfold RV.sh at q2
            unfold RV.fz
            cases qg : a'.get e with
            | none => rw [qg] at q2; cases q2
            | some o1 =>
              rw [qg] at q2
              have q2 : o1.sh = some dy := q2
              cases o1 with
              | val d => left; cases q2; rfl
              | lst os =>
                right
                have q2 : (vals os).map D.lst = some dy := q2
                cases qv : vals os with
                | none => rw [qv] at q2; cases q2
                | some ds => rw [qv] at q2; cases q2; cases dx <;> rfl
              | _ => cases q2
          rcases f1 with f1 | f1
          · rcases f2 with f2 | f2
            · exact .inl (sc_add H x y dx dy d' w Q (ra.dat le s f1) (rb.dat le s f2) e1' e2' (Pst.scalar le p s sG e2'))
            · rw [f2] at e1'; cases e1'
          · rw [f1] at e1'; cases e1'
theorem d_add (hK : X.K = c.K) (ha : PE X x (T c XW b1 ma)) (hb : PE X y (T c XW b2 mb)) (hp : b2 = true := by rfl) : PE X (.BinOp x .Add y pos) (T c XW (b1 && b2) (addD ma mb)) := pe_imp (pe_op op_addZ ha hb) fun σ H Q => by rw [hK]; exact add_run (fun z => by simpa using z) (.inl hp)
theorem d_addE (hK : X.K = c.K) (ha : PE X x (T c XW b1 ma)) (hb : PE X y (T c XW b2 mb)) (hp : NP ma) : PE X (.BinOp x .Add y pos) (T c XW false (addD ma mb)) := pe_imp (pe_op op_addZ ha hb) fun σ H Q => by rw [hK]; exact add_run (fun z => nomatch z) (.inr hp)
/-! ### {} -/
def newD : Env → Res RV := fun e => .ok (.tmp (.dct [])) e
def newDT : Env → Res RV := fun e => .ok (.tmp (.dcT [])) e
theorem d_dnew : PE X (.Dict [] [] pos) (T c XW true newD) := pe_imp pe_dnewK fun σ H Q ⟨W, e, F, le, s, p⟩ a ha => by
  have g2 : Gr W H [] W (upd H a (.dK [])) [a] := Gr.alloc (F := []) le ha
  exact Pst.val (Gt := []) (Fo := [a]) p s (fun _ h => h) g2 Disj.nil_right (fun _ z => absurd z List.not_mem_nil) (fun _ => same_alloc ha) (.dct (F := []) upd_same (le.free ha) rfl .nil List.not_mem_nil)
theorem d_dnewT : PE X (.Dict [] [] pos) (T c XW true newDT) := pe_imp pe_dnewT fun σ H Q ⟨W, e, F, le, s, p⟩ a ha => by
  have g2 : Gr W H [] W (upd H a (.dT [])) [a] := Gr.alloc (F := []) le ha
  exact Pst.val (Gt := []) (Fo := [a]) p s (fun _ h => h) g2 Disj.nil_right (fun _ z => absurd z List.not_mem_nil) (fun _ => same_alloc ha) (.dcT (F := []) upd_same (le.free ha) rfl .nil List.not_mem_nil)
/-! ### fields of a caught exception -/
def exFD (ks : List Nat) (f : Str) (ma : Env → Res RV) : Env → Res RV := fun e => (ma e).bind fun a e1 => match a with
  | .tmp (.val (.exn k fs)) => if ks.contains k = true then Res.of e1 ((lookD f fs).map rv) else .stuck
  | _ => .stuck
theorem d_exF {f : Str} {ks : List Nat} (hK : X.K = c.K) (ha : PE X x (T c XW b1 ma)) (hc : ∀ k, ks.contains k = true → XfC X.K (c.cls k) ∧ PySem.W.findIn X.K (.ref (c.cls k)) f = some none)
    (hb : attributeBase x f X.env (eval x X.env) = eval x X.env := by rfl) : PE X (.Attribute x f pos) (T c XW b1 (exFD ks f ma)) := by
  refine ⟨fun pins s σ H Q I ⟨W, e, F, le, sl, p⟩ => ?_⟩
  refine attr_of hb (thn (ha.run pins s σ H (fun v H1 => ∃ (a C d : Addr) (fs : List (Str × V)) (w : V), v = .ref a ∧ H1 a = some (ExH (.ref C) d a) ∧ H1 d = some (.xd fs) ∧ XfC X.K C ∧ PySem.W.findIn X.K (.ref C) f = some none ∧ fs.lookup f = some w ∧ Q w H1) I ?_) fun u s1 hh => ?_)
  · refine Tr.then0 (b2 := true) le sl p (fun z => ⟨z, rfl⟩) fun a e1 W1 H1 v F1 Fa qa g1 sm1 s1 r1 d1 p1 => ?_
    match a, r1, p1 with
    | .tmp (.val (.exn k fs)), r1, p1 =>
      have p1 : Pst c XW true (rRV c) W1 H1 σ (F1 ++ Fa) (if ks.contains k = true then Res.of e1 ((lookD f fs).map rv) else .stuck) Q := p1
      by_cases hk : ks.contains k = true
      · rw [if_pos hk] at p1
        obtain ⟨t, ht, p1⟩ := Res.of_ok p1
        cases q : lookD f fs with
        | none => rw [q] at ht; cases ht
        | some d' =>
          rw [q] at ht
          have et : rv d' = t := Option.some.inj ht
          subst et
          cases r1 with
          | val hd =>
            cases hd with
            | exn hw hx hn kk =>
              obtain ⟨w, h2, h3⟩ := lookD_val hn kk q
              obtain ⟨c1, c2⟩ := hc k hk
              refine ⟨_, _, _, _, w, rfl, g1.le.ext hw, g1.le.xd hx, c1, c2, ?_, Pst.oldV g1.le p1 s1 (fun y hy => List.mem_append_left _ hy) h3⟩
              rw [lookup_valV, lookV_val]; exact h2
      · rw [if_neg hk] at p1; exact p1.elim
  · obtain ⟨v, H1, I1, rx, a, C, d, fs, w, ev, h1, h2, TC, hno, l, q⟩ := hh
    subst ev
    obtain rfl : u = Value.ref a := rx
    obtain ⟨⟨oe, vs, ge, ec, ed, ef⟩, _⟩ := I1.hok a _ h1
    have hx : ObjOk X.prog X.w H1 s1.heap d (.xd fs) := I1.hok d _ h2
    obtain ⟨mA, hns, hr⟩ := hx
    obtain ⟨od, ho, hl⟩ := lookIn_ns hns
    obtain ⟨u, hu, ru⟩ := RelO.some_of (v := w) (o := mA f) (by rw [← l]; exact hr f)
    have J : PySem.W.InstAt s1.heap a oe C (some od) := ⟨ge, ec, by unfold PySem.W.notCls; rw [ef] <;> rfl, by rw [ed]; exact ho⟩
    exact HandSPX.exc_get I1.kIn J TC.ga TC.gg TC.exC (PySem.W.findObj_own TC.hdC hno rfl (by rw [hl, hu])) (handed_of ru) ⟨w, H1, I1.tok _, ru, q⟩
/-! ### a call of a local that holds a def -/
structure CallT (X : Cx) (c : Cf) (k n j : Nat) (ix : List Nat) (dds : List D) (F : List O → CRes) : Prop where
  ex : ∃ (fd : FuncData) (ps : List Str) (g : List Value → List Value → List Value) (gV : List V → List V → List V) (dvs : List V), FnG X.prog X.w X.K X.mg X.base (L2.CX X.prog X.w) k (c.fn j) fd ps (spD c ix.length F) ∧ PySem.W.keepIn X.K (.ref (c.fn j)) = true ∧ KBn X.K fd ps n [] g gV ∧ Sh1 c n 0 ix dvs dds gV
def callV (n i : Nat) (tab : Nat → Option (List Nat × List D × (List O → CRes))) (mas : Env → Res (List RV)) : Env → Res RV := fun e => match e.at i with
  | some (.val (.fn j)) => match tab j with
    | some (ix, dds, F) => callZ n 0 ix dds F mas nilA e
    | none => .stuck
  | _ => .stuck
theorem d_callV {n i k : Nat} {tab : Nat → Option (List Nat × List D × (List O → CRes))} {mas : Env → Res (List RV)} {nm : Str} {p0 : Pos} {es : List Expr} (hp : HP X XW) (hT : ∀ j ix dds F, tab j = some (ix, dds, F) → CallT X c k n j ix dds F) (hr : Room k X.A) (hgd : X.A.guards = some []) (hnm : PE X (.Name nm p0) (tVar i))
    (hc : PCl X pos es [] [] (TAr c XW b1 mas) (TAr c XW true nilA)) : PE X (.Call (.Name nm p0) es [] pos) (T c XW false (callV n i tab mas)) := by
  refine ⟨fun pins s σ H Q I h => ?_⟩
  obtain ⟨W, e, F, le, sl, p⟩ := h
  unfold callV at p
  cases q : e.at i with
  | none => rw [q] at p; exact p.elim
  | some o1 =>
    rw [q] at p
    match o1, p, q with
    | .val (.fn j), p, q =>
      have p : Pst c XW false (rRV c) W H σ F (match tab j with
        | some (ix, dds, F) => callZ n 0 ix dds F mas nilA e
        | none => .stuck) Q := p
      cases q2 : tab j with
      | none => rw [q2] at p; exact p.elim
      | some t =>
        obtain ⟨ix, dds, Fj⟩ := t
        rw [q2] at p
        obtain ⟨v0, G0, hv0, rep0, _⟩ := sl.get (Env.at_some q)
        have ev : v0 = .ref (c.fn j) := by cases rep0 with | val hd => cases hd; rfl
        subst ev
        obtain ⟨fd, ps, g, gV, dvs, Fn, hk, hb, sh⟩ := (hT j ix dds Fj q2).ex
        refine wpAny_Call_Name_kw (thn (hnm.run pins s σ H (fun v H1 => v = .ref (c.fn j) ∧ H1 = H) I ⟨_, hv0, rfl, rfl⟩) fun u s1 ⟨v, H1, I1, r1, q1⟩ => ?_)
        obtain ⟨rfl, rfl⟩ := q1
        cases r1
        have hz : T c XW false (callZ n ([] : List Str).length ix dds Fj mas nilA) σ H1 Q := ⟨W, e, F, le, sl, p⟩
        exact hc.run pins s1 σ H1 _ (.ref (c.fn j)) [] _ I1 hk (callZ_run (b2 := true) sh (.inl rfl) hz) fun s' us ws vs zs H' I' r rz ⟨l1, l2, q⟩ => run_fnZ Fn hr hgd hb (hp.pass σ) I' r rz l1 l2 q
end
end Z

set_option maxRecDepth 100000
set_option maxHeartbeats 2000000
/-! Z.keys: a dict is walked -/
namespace Z
open PySem L2 PySem.Spec PyProof.Rows
def keyD : Key → D
  | .inl i => .int i
  | .inr s => .str s
def keyOkD : Key → Bool
  | .inl _ => true
  | .inr s => sOk s
/-- the keys of the dict in slot i: from then on frozen -/
def keysD (i : Nat) (e : Env) : Option (List D × Env) := match e.at i with
  | some (.dct kvs) => if kvs.all (fun p => keyOkD p.1) = true ∧ kvs.length ≤ 1000000 then some (kvs.map fun p => keyD p.1, e.put i [] (.val (O.dct kvs).fz)) else none
  | some (.val (.dct kvs)) => if kvs.all (fun p => keyOkD p.1) = true ∧ kvs.length ≤ 1000000 then some (kvs.map fun p => keyD p.1, e) else none
  | _ => none
def noErr {α : Type} : Res α → Res α
  | .err _ _ => .stuck
  | r => r
def noErrS : SRes → SRes
  | .err _ _ => .stuck
  | r => r
def lcKD (vs : List Nat) (i : Nat) (t : Tgt) (mt : Env → Res Bool) (me : Env → Res RV) : Env → Res RV := fun e => match keysD i e with
  | some (ds, e1) => noErr (finL vs e1 (compL t.st mt me vs ds [] (clear vs e1)))
  | none => .stuck
def forKS (i : Nat) (t : Tgt) (mb : Env → SRes) : Env → SRes := fun e => match keysD i e with
  | some (ds, e1) => noErrS (loopD t.st mb ds e1)
  | none => .stuck
section
variable {X : Cx} {c : Cf} {XW : WX} {pin : List Nat} {σ0 σ σ' : L2.St} {W H W1 H1 W2 H2 : Hp} {e e1 e2 : Env} {F G F1 F2 : List Addr} {b b1 b2 b3 p : Bool}
theorem keyD_dat {k : Key} (h : keyOkD k = true) : Dat c W (kV k) (keyD k) := by
  cases k with
  | inl i => exact .int i
  | inr s => exact .str s h
theorem iter_keys {d : Addr} {od : Obj} {kvs : List (Key × V)} {ks : List Key} (hW : W d ≠ none) (hH : H d = some (.frz od (.dK kvs))) (hk : kvs.map (·.1) = ks) (hok : ks.all keyOkD = true) (hl : ks.length ≤ sizeLine) : IterOk c false W H (Itk d od kvs) (ks.map keyD) := by
  refine ⟨by rw [List.length_map]; exact hl, fun i W' H' sw le' _ kp => ?_⟩
  have hd : H' d = some (.frz od (.dK kvs)) := kp d _ hW hH
  have hlen : kvs.length = ks.length := by rw [← hk, List.length_map]
  refine ⟨fun hi => ?_, fun hi => ⟨hd, by rw [List.length_map] at hi; omega⟩⟩
  rw [List.length_map] at hi
  refine ⟨⟨hd, by omega⟩, fun x H'' hy => ?_⟩
  obtain ⟨rfl, k, v, hkv, rfl⟩ := hy
  have hki : ks[i]? = some k := by rw [← hk, List.getElem?_map, hkv]; rfl
  have hm : k ∈ ks := List.mem_of_getElem? hki
  refine ⟨W', Gr.refl le', keyD k, by rw [List.getElem?_map, hki]; rfl, keyD_dat (List.all_eq_true.mp hok k hm)⟩
/-- a dict that is frozen: locked or not -/
theorem dct_at {d : Addr} {v : V} {ds : List (Key × D)} (le : Le W H) (h : Dat c W v (.dct ds)) : ∃ d kvs, v = .ref d ∧ W d ≠ none ∧ kvs.map (·.1) = ds.map (·.1) ∧ (H d = some (.dK kvs) ∨ ∃ od, H d = some (.frz od (.dK kvs))) := by
  cases h with
  | dct hr hn hk =>
    rename_i a kvs
    refine ⟨a, kvs, rfl, ?_, hn, ?_⟩
    · rcases hr with hr | ⟨o, hr⟩ <;> rw [hr] <;> simp
    · have := le.rd hr (fun _ _ z => nomatch z)
      rcases this with h | ⟨o, h⟩
      · exact .inl h
      · exact .inr ⟨o, h⟩
theorem le_lock {d : Addr} {od : Obj} {u : HO} (le : Le W H) (hu : isDict u = true) (h : H d = some u) : Le W (upd H d (.frz od u)) := fun a o hw => by
  by_cases z : a = d
  · subst z
    obtain ⟨o', h', sm⟩ := le a o hw
    rw [h] at h'; cases h'
    refine ⟨_, upd_same, ?_⟩
    rcases sm with sm | ⟨w, hw1, l1, l2⟩
    · subst sm; exact .inr ⟨_, hu, .inl rfl, .inr ⟨od, rfl⟩⟩
    · rcases l2 with l2 | ⟨ob, l2⟩
      · subst l2; exact .inr ⟨_, hw1, l1, .inr ⟨od, rfl⟩⟩
      · rw [l2] at hu; cases hu
  · obtain ⟨o', h', sm⟩ := le a o hw
    exact ⟨o', by rw [upd_ne z]; exact h', sm⟩
theorem le_unlock {d : Addr} {od : Obj} {u : HO} (le : Le W H) (hu : isDict u = true) (h : H d = some (.frz od u)) : Le W (upd H d u) := fun a o hw => by
  by_cases z : a = d
  · subst z
    obtain ⟨o', h', sm⟩ := le a o hw
    rw [h] at h'; cases h'
    refine ⟨_, upd_same, ?_⟩
    rcases sm with sm | ⟨w, hw1, l1, l2⟩
    · subst sm; exact .inr ⟨u, hu, .inr ⟨od, rfl⟩, .inl rfl⟩
    · rcases l2 with l2 | ⟨ob, l2⟩
      · subst l2; cases hw1
      · cases l2; exact .inr ⟨_, hw1, l1, .inl rfl⟩
  · obtain ⟨o', h', sm⟩ := le a o hw
    exact ⟨o', by rw [upd_ne z]; exact h', sm⟩
/-- back from the locked heap -/
theorem Gr.unlock {d : Addr} {od : Obj} {u : HO} {W' H' : Hp} {F' : List Addr} (hu : isDict u = true) (h : H d = some u) (hW : W d ≠ none) (hF : d ∉ F) (g : Gr W (upd H d (.frz od u)) F W' H' F') : Gr W H F W' (upd H' d u) F' where
  w := g.w
  le := le_unlock g.le hu (g.kept d _ upd_same hF)
  new := fun a o ho => (g.new a o ho).imp id fun z => z.imp id fun y => by
    by_cases e : a = d
    · subst e; rw [upd_same] at y; cases y
    · rw [upd_ne e] at y; exact y
  kept := fun a o ho n => by
    by_cases e : a = d
    · subst e; rw [h] at ho; cases ho; exact upd_same
    · rw [upd_ne e]; exact g.kept a o (by rw [upd_ne e]; exact ho) n
  there := fun a ha => by
    by_cases e : a = d
    · subst e; rw [upd_same]; simp
    · rw [upd_ne e]; exact g.there a (by rw [upd_ne e]; exact ha)
  own := fun a ha => (g.own a ha).imp id fun y => by
    by_cases e : a = d
    · subst e; rw [upd_same] at y; cases y
    · rw [upd_ne e] at y; exact y
theorem Slots.at_upd {d : Addr} {o : HO} (s : Slots c W H σ e F) (hW : W d ≠ none) : Slots c W (upd H d o) σ e F := s.agree (Same.refl _) fun a ha => ⟨upd_ne fun z => hW (z ▸ (s.dom a ha).2), (s.dom a ha).2⟩
theorem Rep.at_upd {d : Addr} {o : HO} {v : V} {w : O} (s : Rep c W H v w F) (hW : W d ≠ none) : Rep c W (upd H d o) v w F := s.agree (Same.refl _) fun a ha => ⟨upd_ne fun z => hW (z ▸ (s.dom a ha).2), (s.dom a ha).2⟩
/-- what a locked run ends with -/
theorem lock_post {d : Addr} {od : Obj} {u : HO} {r : Res RV} {Q : VK} (hu : isDict u = true) (h : H d = some u) (hW : W d ≠ none) (hF : d ∉ F) (ht : ∀ a e, r = .ok a e → ∃ o, a = .tmp o) (p : Pst c XW b (rRV c) W H σ F (noErr r) Q) :
    Pst c XW b (rRV c) W (upd H d (.frz od u)) σ F r fun v H' => H' d = some (.frz od u) ∧ Q v (upd H' d u) := by
  cases r with
  | ok a e1 =>
    obtain ⟨o, rfl⟩ := ht a e1 rfl
    intro W' H' v F' Fo g sm s r dj
    have hd : H' d = some (.frz od u) := g.kept d _ upd_same hF
    have hW' : W' d ≠ none := by
      cases q : W d with
      | none => exact absurd q hW
      | some w => rw [g.w d w q]; simp
    refine ⟨hd, p W' (upd H' d u) v F' Fo (g.unlock hu h hW hF) (fun z a o ho => ?_) (s.at_upd hW') (Rep.at_upd r hW') dj⟩
    by_cases e : a = d
    · subst e; rw [h] at ho; cases ho; exact upd_same
    · rw [upd_ne e]; exact sm z a o (by rw [upd_ne e]; exact ho)
  | err x e1 => exact p.elim
  | stuck => exact p.elim
theorem noErr_post {r : Res RV} {Q : VK} (p : Pst c XW b (rRV c) W H σ F (noErr r) Q) : Pst c XW b (rRV c) W H σ F r Q := by
  cases r with
  | ok a e1 => exact p
  | err x e1 => exact p.elim
  | stuck => exact p.elim
theorem finL_tmp {vs : List Nat} {e1 : Env} {r : Res (List O)} : ∀ a e, finL vs e1 r = .ok a e → ∃ o, a = .tmp o := fun a e h => by
  cases r with
  | ok os e2 => cases h; exact ⟨_, rfl⟩
  | err x e2 => cases h
  | stuck => cases h
/-- the dict is frozen -/
theorem keys_run {i : Nat} {ds : List D} (le : Le W H) (s : Slots c W H σ e F) (h : keysD i e = some (ds, e1)) :
    ∃ W' F' d kvs ks, Gr W H F W' H F' ∧ Slots c W' H σ e1 F' ∧ σ[i]? = some (some (.ref d)) ∧ W' d ≠ none ∧ d ∉ F' ∧ (H d = some (.dK kvs) ∨ ∃ od, H d = some (.frz od (.dK kvs))) ∧ kvs.map (·.1) = ks ∧ ks.all keyOkD = true ∧ ks.length ≤ sizeLine ∧ ds = ks.map keyD := by
  unfold keysD at h
  cases q : e.at i with
  | none => rw [q] at h; cases h
  | some o0 =>
    rw [q] at h
    have fin : ∀ (W' : Hp) (F' : List Addr) (v : V) (es : List (Key × D)), Gr W H F W' H F' → Slots c W' H σ e1 F' → σ[i]? = some (some v) → Dat c W' v (.dct es) → es.all (fun p => keyOkD p.1) = true → es.length ≤ 1000000 → ds = es.map (fun p => keyD p.1) →
        ∃ W' F' d kvs ks, Gr W H F W' H F' ∧ Slots c W' H σ e1 F' ∧ σ[i]? = some (some (.ref d)) ∧ W' d ≠ none ∧ d ∉ F' ∧ (H d = some (.dK kvs) ∨ ∃ od, H d = some (.frz od (.dK kvs))) ∧ kvs.map (·.1) = ks ∧ ks.all keyOkD = true ∧ ks.length ≤ sizeLine ∧ ds = ks.map keyD := fun W' F' v es g s' hv hd h1 h2 h3 => by
      obtain ⟨d, kvs, rfl, hW, hk, hH⟩ := dct_at (d := 0) g.le hd
      exact ⟨W', F', d, kvs, es.map (·.1), g, s', hv, hW, fun z => hW (s'.dom d z).2, hH, hk, by rw [List.all_map]; exact h1, by rw [List.length_map]; exact sz6' h2, by rw [List.map_map]; exact h3⟩
    cases o0 with
    | dct kvs =>
      have h : (if kvs.all (fun p => keyOkD p.1) = true ∧ kvs.length ≤ 1000000 then some (kvs.map fun p => keyD p.1, e.put i [] (.val (O.dct kvs).fz)) else none) = some (ds, e1) := h
      split at h
      · rename_i hc
        have h := Option.some.inj h
        have h1 : kvs.map (fun p => keyD p.1) = ds := congrArg Prod.fst h
        have h2 : e.put i [] (.val (O.dct kvs).fz) = e1 := congrArg Prod.snd h
        obtain ⟨v0, G0, hv0, rep0, _⟩ := s.get (Env.at_some q)
        have r0 : RVr c W H σ v0 (.pl i []) [] := ⟨rfl, v0, hv0, .nil⟩
        have tk : (RV.pl i []).take e = some (.val (O.dct kvs).fz, e1) := by
          show ((e.at i).bind (·.get [])).map _ = _
          rw [q]
          show some (O.val (O.dct kvs).fz, e.put i [] (.val (O.dct kvs).fz)) = _
          rw [h2]
        obtain ⟨W', F', Fo, g, s', rr, dd⟩ := r0.take le s Disj.nil_right tk
        cases rr with
        | val hd =>
          rw [List.append_nil, List.append_nil] at g
          have ef : (O.dct kvs).fz = .dct (kvs.map fun p => (p.1, p.2.fz)) := by
            rw [O.fz, fzK_map]
          rw [ef] at hd
          refine fin W' F' v0 _ g s' hv0 hd (by rw [List.all_map]; exact hc.1) (by rw [List.length_map]; exact hc.2) (by rw [List.map_map]; exact h1.symm)
      · cases h
    | val d0 =>
      cases d0 with
      | dct kvs =>
        have h : (if kvs.all (fun p => keyOkD p.1) = true ∧ kvs.length ≤ 1000000 then some (kvs.map fun p => keyD p.1, e) else none) = some (ds, e1) := h
        split at h
        · rename_i hc
          have h := Option.some.inj h
          have h1 : kvs.map (fun p => keyD p.1) = ds := congrArg Prod.fst h
          have h2 : e = e1 := congrArg Prod.snd h
          subst h2
          obtain ⟨v0, G0, hv0, rep0, _⟩ := s.get (Env.at_some q)
          cases rep0 with
          | val hd => exact fin W F v0 kvs (Gr.refl le) s hv0 hd hc.1 hc.2 h1.symm
        · cases h
      | _ => cases h
    | _ => cases h
theorem pe_either {ex : Expr} {t t' : TE} (h : PE X ex t) (h' : PE X ex t') : PE X ex (fun σ H Q => t σ H Q ∨ t' σ H Q) := ⟨fun pins s σ H Q I hw => hw.elim (h.run pins s σ H Q I) (h'.run pins s σ H Q I)⟩
theorem ps_either {st : Stmt} {t t' : TS} (h : PS X st t) (h' : PS X st t') : PS X st (fun D σ H => t D σ H ∨ t' D σ H) := ⟨fun pins s σ H D I hw => hw.elim (h.run pins s σ H D I) (h'.run pins s σ H D I)⟩
variable {elt tg x : Expr} {ifs : List Expr} {scope : Scope} {own : List (Str × Nat)} {pos spos px : Pos} {nm : Str} {t : Tgt} {mt : Env → Res Bool} {me : Env → Res RV} {i : Nat} {vs : List Nat}
theorem lcK_run {Q : VK} (hv : t.ix.all (fun i => vs.contains i) = true) (h : T c XW false (lcKD vs i t mt me) σ H Q) :
    tLockE (fun σ H Q => tLc (iKeys (tVar i)) (t.g c.K) (TB c (XWs XW σ) b2 mt) (T c (XWs XW σ) b3 me) vs σ H Q) σ H Q ∨ tLc (iKeys (tVar i)) (t.g c.K) (TB c (XWs XW σ) b2 mt) (T c (XWs XW σ) b3 me) vs σ H Q := by
  obtain ⟨W, e, F, le, s, p⟩ := h
  unfold lcKD at p
  cases q : keysD i e with
  | none => rw [q] at p; exact p.elim
  | some tt =>
    obtain ⟨ds, e1⟩ := tt
    rw [q] at p
    have p : Pst c XW false (rRV c) W H σ F (noErr (finL vs e1 (compL t.st mt me vs ds [] (clear vs e1)))) Q := p
    obtain ⟨W', F', d, kvs, ks, g, s', hv0, hW, hF, hH, hk, hok, hl, rfl⟩ := keys_run le s q
    have p' := Pst.after (b2 := false) p g (fun z => nomatch z)
    rcases hH with hH | ⟨od, hH⟩
    · refine .inl ⟨d, .dK kvs, hH, trivial, fun od => ?_⟩
      have p2 := lock_post (od := od) rfl hH hW hF finL_tmp p'
      refine ⟨.ref d, hv0, d, od, rfl, .inl ⟨kvs, upd_same, ?_⟩⟩
      have ok := iter_keys (c := c) (od := od) (H := upd H d (.frz od (.dK kvs))) hW upd_same hk hok hl
      exact comp_core (p := false) (b2 := b2) (b3 := b3) rfl (.inl rfl) hv (le_lock g.le rfl hH) (s'.at_upd hW) ok.1 ok.2 (Pst.after (b2 := b2 && b3) p2 (Gr.refl (le_lock g.le rfl hH)) (fun z => nomatch z))
    · refine .inr ⟨.ref d, hv0, d, od, rfl, .inl ⟨kvs, hH, ?_⟩⟩
      have ok := iter_keys (c := c) (od := od) (H := H) hW hH hk hok hl
      exact comp_core (p := false) (b2 := b2) (b3 := b3) rfl (.inl rfl) hv g.le s' ok.1 ok.2 (Pst.after (b2 := b2 && b3) (noErr_post p') (Gr.refl g.le) (fun z => nomatch z))
/-- [.. for .. in d ..], d a local's dict -/
theorem d_lcK (hp : HP X XW) (hcm : X.calm = true) (hN : X.N.Nodup) (hK : X.K = c.K) (ok : BlkOk X.N X.env.scope scope own) (hnm : PE X (.Name nm px) (tVar i))
    (hg : ∀ (s : Shared) (H : Hp) (C : Addr) (cl : List (Str × Addr)) (fp : List Addr) (xe : Value → Shared → Prop), PG (blkX X s H scope (CE0 X scope C cl) fp xe) tg (t.g c.K))
    (ht : ∀ (s : Shared) (H : Hp) (C : Addr) (cl : List (Str × Addr)) (fp : List Addr) (xe : Value → Shared → Prop) (W : WX), HP (blkX X s H scope (CE0 X scope C cl) fp xe) W → PTs (blkX X s H scope (CE0 X scope C cl) fp xe) ifs (TB c W b2 mt))
    (he : ∀ (s : Shared) (H : Hp) (C : Addr) (cl : List (Str × Addr)) (fp : List Addr) (xe : Value → Shared → Prop) (W : WX), HP (blkX X s H scope (CE0 X scope C cl) fp xe) W → PE (blkX X s H scope (CE0 X scope C cl) fp xe) elt (T c W b3 me))
    (hv : t.ix.all (fun i => (own.map (·.2)).contains i) = true := by rfl) (hs : ∀ x, foldedSetIterable (.Name nm px) X.env x = pure x := by intro _; rfl) :
    PE X (.ListComp elt [⟨tg, .Name nm px, ifs, 0⟩] scope pos) (T c XW false (lcKD (own.map (·.2)) i t mt me)) :=
  have h0 := pe_lcx (tt := fun W => TB c W b2 mt) (te := fun W => T c W b3 me) hp hcm hN (pi_keys hnm) ok hg ht he hs
  pe_imp (pe_either (pe_lock h0) h0) fun σ H Q h => lcK_run hv h
theorem s_setLcK {j : Nat} {y : Str} {py : Pos} (hp : HP X XW) (hcm : X.calm = true) (hN : X.N.Nodup) (hK : X.K = c.K) (hy : X.N[j]? = some y) (hyl : X.env.scope.names.lookup y = some .local)
    (hsw : swapsWith (.ListComp elt [⟨tg, .Name nm px, ifs, 0⟩] scope pos) (some (.Name y py)) spos.line X.env = pure true) (ok : BlkOk X.N X.env.scope scope own) (hnm : PE X (.Name nm px) (tVar i))
    (hg : ∀ (s : Shared) (H : Hp) (C : Addr) (cl : List (Str × Addr)) (fp : List Addr) (xe : Value → Shared → Prop), PG (blkX X s H scope (CE0 X scope C cl) fp xe) tg (t.g c.K))
    (ht : ∀ (s : Shared) (H : Hp) (C : Addr) (cl : List (Str × Addr)) (fp : List Addr) (xe : Value → Shared → Prop) (W : WX), HP (blkX X s H scope (CE0 X scope C cl) fp xe) W → PTs (blkX X s H scope (CE0 X scope C cl) fp xe) ifs (TB c W b2 mt))
    (he : ∀ (s : Shared) (H : Hp) (C : Addr) (cl : List (Str × Addr)) (fp : List Addr) (xe : Value → Shared → Prop) (W : WX), HP (blkX X s H scope (CE0 X scope C cl) fp xe) W → PE (blkX X s H scope (CE0 X scope C cl) fp xe) elt (T c W b3 me))
    (hpin : pin.contains j = false := by rfl) (hv : t.ix.all (fun i => (own.map (·.2)).contains i) = true := by rfl) (hs : ∀ x, foldedSetIterable (.Name nm px) X.env x = pure x := by intro _; rfl) :
    PS X (.Assign [.Name y py] (.ListComp elt [⟨tg, .Name nm px, ifs, 0⟩] scope pos) spos) (S c XW pin σ0 (setD j (lcKD (own.map (·.2)) i t mt me))) :=
  have h0 := ps_setLcx (tt := fun W => TB c W b2 mt) (te := fun W => T c W b3 me) hp hcm hN hy hyl hsw (pi_keys hnm) ok hg ht he hs
  ps_imp (ps_either (ps_lock h0) h0) fun D σ H h => lcK_run hv (set_run (b := false) hpin h)
theorem noErrS_post {r : SRes} {D : Ends} (p : SPst c XW pin σ0 W H F (noErrS r) D) : SPst c XW pin σ0 W H F r D := by
  cases r with
  | err x e1 => exact p.elim
  | _ => exact p
theorem lock_postS {d : Addr} {od : Obj} {u : HO} {r : SRes} {D : Ends} (hu : isDict u = true) (h : H d = some u) (hW : W d ≠ none) (hF : d ∉ F) (p : SPst c XW pin σ0 W H F (noErrS r) D) :
    SPst c XW pin σ0 W (upd H d (.frz od u)) F r ⟨fun σ' H' => H' d = some (.frz od u) ∧ D.nx σ' (upd H' d u), fun v H' => H' d = some (.frz od u) ∧ D.rt v (upd H' d u), fun σ' H' => H' d = some (.frz od u) ∧ D.bk σ' (upd H' d u), fun σ' H' => H' d = some (.frz od u) ∧ D.ct σ' (upd H' d u)⟩ := by
  have wd : ∀ {W' : Hp}, Same W W' → W' d ≠ none := fun {W'} sw => by
    cases q : W d with
    | none => exact absurd q hW
    | some w => rw [sw d w q]; simp
  cases r with
  | nx e1 => exact fun W' H' σ' F' g s pn => ⟨g.kept d _ upd_same hF, p W' (upd H' d u) σ' F' (g.unlock hu h hW hF) (s.at_upd (wd g.w)) pn⟩
  | bk e1 => exact fun W' H' σ' F' g s pn => ⟨g.kept d _ upd_same hF, p W' (upd H' d u) σ' F' (g.unlock hu h hW hF) (s.at_upd (wd g.w)) pn⟩
  | ct e1 => exact fun W' H' σ' F' g s pn => ⟨g.kept d _ upd_same hF, p W' (upd H' d u) σ' F' (g.unlock hu h hW hF) (s.at_upd (wd g.w)) pn⟩
  | rt o e1 => exact fun W' H' σ' v F' Fo g s pn r dj => ⟨g.kept d _ upd_same hF, p W' (upd H' d u) σ' v F' Fo (g.unlock hu h hW hF) (s.at_upd (wd g.w)) pn (Rep.at_upd r (wd g.w)) dj⟩
  | err x e1 => exact p.elim
  | stuck => exact p.elim
theorem s_forK {body : List Stmt} {mb : Env → SRes} (hp : PassesOwn (model X.prog X.w) X.A X.env X.xe) (hcm : X.calm = true) (hnm : PE X (.Name nm px) (tVar i)) (hg : PG X tg (t.g c.K)) (hb : PSs X body (S c XW pin σ0 mb)) (hv : t.ix.all (fun i => !pin.contains i) = true := by rfl)
    (hs : ∀ x, foldedSetIterable (.Name nm px) X.env x = pure x := by intro _; rfl) : PS X (.For tg (.Name nm px) body [] pos) (S c XW pin σ0 (forKS i t mb)) :=
  have h0 := ps_for hp hcm (pi_keys hnm) hg hb hs
  ps_imp (ps_either (ps_lock h0) h0) fun D σ H ⟨W, e, F, le, s, pn, p⟩ => by
    unfold forKS at p
    cases q : keysD i e with
    | none => rw [q] at p; exact p.elim
    | some tt =>
      obtain ⟨ds, e1⟩ := tt
      rw [q] at p
      have p : SPst c XW pin σ0 W H F (noErrS (loopD t.st mb ds e1)) D := p
      obtain ⟨W', F', d, kvs, ks, g, s', hv0, hW, hF, hH, hk, hok, hl, rfl⟩ := keys_run le s q
      have p' := SPst.after p g
      rcases hH with hH | ⟨od, hH⟩
      · refine .inl ⟨d, .dK kvs, hH, trivial, fun od => ?_⟩
        have p2 := lock_postS (od := od) rfl hH hW hF p'
        refine ⟨.ref d, hv0, d, od, rfl, .inl ⟨kvs, upd_same, ?_⟩⟩
        have ok := iter_keys (c := c) (od := od) (H := upd H d (.frz od (.dK kvs))) hW upd_same hk hok hl
        exact for_core hv (le_lock g.le rfl hH) (s'.at_upd hW) pn ok p2
      · refine .inr ⟨.ref d, hv0, d, od, rfl, .inl ⟨kvs, hH, ?_⟩⟩
        have ok := iter_keys (c := c) (od := od) (H := H) hW hH hk hok hl
        exact for_core hv g.le s' pn ok (noErrS_post p')
end
end Z

set_option maxRecDepth 100000
set_option maxHeartbeats 2000000
/-! Z.head: the facts of the written part, a law's end -/
namespace Z
open PySem L2 PySem.Spec PyProof.Rows
/-- an own exception class at the name x, what is its file, its field, its __init__'s text -/
structure ExD where
  name : Str
  file : Str
  attr : Str
  qual : Str
  params : Arguments
  body : List Stmt
  scope : Scope
  bm : List Value
  new : String
  B : String
  ini : String
abbrev FnX : Type := Option (Str × Str × Arguments × FuncBody × Scope × Addr × List Str × Addr)
def fnX (K : PySem.W.Frag) (x : Str) : FnX := match K.lookup (He.fAd K (x, some "__init__")) with
  | some ⟨_, _, .func fd, _⟩ => some (fd.name, fd.qualname, fd.params, fd.body, fd.scope, fd.globals, fd.closure.map (·.1), fd.builtins)
  | _ => none
def ExD.val (d : ExD) : FnX := some ("__init__", d.qual, d.params, .stmts d.body, d.scope, mainGlobals, ["__class__"], builtinsNs)
def isNone : Value → Bool
  | .none => true
  | _ => false
theorem isNone_eq {v : Value} (h : isNone v = true) : v = .none := by cases v <;> first | rfl | cases h
def cellB (K : PySem.W.Frag) (C : Addr) (cl : List (Str × Addr)) : Bool := match cl with
  | [(_, cc)] => (match K.lookup cc with
    | some ⟨_, _, .cell (some (.ref C')), _⟩ => C' == C
    | _ => false)
  | _ => false
def fileB (K : PySem.W.Frag) (file : Str) (v : Value) : Bool := match v with
  | .ref a => (match K.lookup a with
    | some ⟨_, _, .fields vs, _⟩ => (match (vs[2]? : Option Value) with
      | some (.str f _) => decide (f = file)
      | _ => false)
    | _ => false)
  | _ => false
def ExD.fnB (K : PySem.W.Frag) (d : ExD) : Bool := match K.lookup (He.fAd K (d.name, some "__init__")) with
  | some ⟨_, _, .func fd, _⟩ => isNone fd.defaults && (isNone fd.kwdefaults && (PySem.W.codeIn K fd.code d.qual && (cellB K (He.ga K d.name) fd.closure && fileB K d.file fd.code)))
  | _ => false
def ExD.clsB (K : PySem.W.Frag) (d : ExD) : Bool := match K.lookup (He.ga K d.name) with
  | some ⟨.type "type", _, .cls cd, sl⟩ => (match cd.mro, sl.toList with
    | .ref C' :: bm, [_, _, _, _, some (.builtin n), _] => C' == He.ga K d.name && (n == d.new && (cd.hasDict && (!cd.hasDel && PySem.W.excTail d.bm bm)))
    | _, _ => false)
  | _ => false
def eqV1 (a b : Option Value) : Bool := decide (a = b)
def eqB1 (a b : Option Bool) : Bool := decide (a = b)
def ExD.ok (K : PySem.W.Frag) (d : ExD) : Bool :=
  let C := He.ga K d.name
  let fI := He.fAd K (d.name, some "__init__")
  d.clsB K && (d.fnB K && (He.eqO (PySem.W.findIn K (.ref C) "__setattr__") (some (some (.builtin "object.__setattr__"))) && (He.eqO (PySem.W.findIn K (.ref C) "__getattribute__") (some (some (.builtin "BaseException.__getattribute__"))) &&
  (He.eqO (PySem.W.findIn K (.ref C) "__getattr__") (some none) && (He.eqO (PySem.W.findIn K (.ref C) d.attr) (some none) && (He.eqO (PySem.W.findIn K (.ref C) "__init__") (some (some (.ref fI))) && (eqV1 (PySem.W.typeIn K (.ref fI)) (some (.type "function")) &&
  (PySem.W.keepIn K (.ref C) && (eqB1 (PySem.W.subIn K (.ref C) (.type "BaseException")) (some true) && (eqB1 (PySem.W.subIn K (.ref C) (.type d.B)) (some true) && (eqV1 (PySem.W.typeIn K (.ref C)) (some (.type "type")) &&
  (PySem.W.hasDictIn K C && (eqB1 (PySem.W.mroIn K C (.ref C)) (some true) && (He.eqO (PySem.W.ks_superIn K C C "__init__") (some (some (.builtin d.ini))) && (He.eqO (PySem.W.nsIn K cStatics "thirdparty.any") (some none) && He.eqO (PySem.W.nsIn K mainGlobals "super") (some none))))))))))))))))
theorem ExD.ext {K : PySem.W.Frag} {d : ExD} {par : Str} {N : String} {text : Str} {j : Nat} {p0 p1 p2 p3 p4 p5 q1 q2 q3 q4 r1 r2 : Pos} (e : Z.fnX K d.name = d.val) (h : d.ok K = true)
    (hp : d.params = xArgs par r1 r2) (hb : d.body = xBody text d.attr par j p0 p1 p2 p3 p4 p5 q1 q2 q3 q4) (hs : XScope par d.scope) (hl : (p2.endLine == p4.line) = true)
    (bi : ∀ (qual : Str) (body : List Stmt) (sc : Scope) (doc pm : Value) (an : Option Addr) (cdv ct : Value) (cc : Addr) (r1 r2 : Pos) (a b : Value), bindArgs (PySem.W.ksFn "__init__" qual (xArgs par r1 r2) body sc .none .none doc pm an cdv ct cc) ⟨[a, b], []⟩ = pure [(("self" : Str), a), (par, b)]) :
    Ext d.file K d.new d.ini N d.B d.bm par d.attr (He.ga K d.name) (He.fAd K (d.name, some "__init__")) := by
  obtain ⟨c1, h⟩ := He.ba h
  obtain ⟨c2, h⟩ := He.ba h
  obtain ⟨c3, h⟩ := He.ba h
  obtain ⟨c4, h⟩ := He.ba h
  obtain ⟨c5, h⟩ := He.ba h
  obtain ⟨c6, h⟩ := He.ba h
  obtain ⟨c7, h⟩ := He.ba h
  obtain ⟨c8, h⟩ := He.ba h
  obtain ⟨c9, h⟩ := He.ba h
  obtain ⟨c10, h⟩ := He.ba h
  obtain ⟨c11, h⟩ := He.ba h
  obtain ⟨c12, h⟩ := He.ba h
  obtain ⟨c13, h⟩ := He.ba h
  obtain ⟨c14, h⟩ := He.ba h
  obtain ⟨c15, h⟩ := He.ba h
  obtain ⟨c16, c17⟩ := He.ba h
  refine ⟨?_, He.eqO_ok c3, He.eqO_ok c4, He.eqO_ok c5, He.eqO_ok c6, He.eqO_ok c7, of_decide_eq_true c8, c9, of_decide_eq_true c10, of_decide_eq_true c11, of_decide_eq_true c12, c13, of_decide_eq_true c14, He.eqO_ok c15, He.eqO_ok c16, He.eqO_ok c17, bi, ?_⟩
  · unfold ExD.clsB at c1
    split at c1
    · rename_i dd cd sl ho
      split at c1
      · rename_i C' bm k0 k1 k2 k3 n k5 hm hs
        simp only [Bool.and_eq_true, beq_iff_eq, Bool.not_eq_true'] at c1
        obtain ⟨z1, z2, hd, hdel, ht⟩ := c1
        obtain ⟨nm, bs, mro, ns, qn, hdt, sn, sub, ab, col, del⟩ := cd
        dsimp only at hm hdel hd
        subst hm hdel hd
        have hsl : sl = #[k0, k1, k2, k3, some (.builtin n), k5] := by
          obtain ⟨l⟩ := sl
          simp only at hs
          rw [hs]
        subst hsl
        rw [z1, z2] at ho
        exact ⟨nm, qn, ns, bs, bm, sn, sub, ab, col, dd, k0, k1, k2, k3, k5, ho, ht⟩
      · cases c1
    · cases c1
  · unfold ExD.fnB at c2
    unfold Z.fnX at e
    cases q : K.lookup (He.fAd K (d.name, some "__init__")) with
    | none => rw [q] at c2; cases c2
    | some o =>
      obtain ⟨oc, od, dt, osl⟩ := o
      rw [q] at c2 e
      cases dt with
      | func fd =>
        obtain ⟨n1, n2, n3, n4, n5, n6, n7, n8, n9, n10, n11, n12, n13, n14, n15⟩ := fd
        have e2 : (some (n1, n2, n3, n4, n5, n6, n7.map (·.1), n15) : FnX) = ExD.val d := e
        unfold ExD.val at e2
        simp only [Option.some.injEq, Prod.mk.injEq] at e2
        obtain ⟨h1, h2, h3, h4, h5, h6, h7, h8⟩ := e2
        subst h1 h2 h3 h4 h5 h6 h8
        obtain ⟨k1, k2⟩ := He.ba (show (isNone n8 && (isNone n9 && (PySem.W.codeIn K n13 d.qual && (cellB K (He.ga K d.name) n7 && fileB K d.file n13)))) = true from c2)
        obtain ⟨kA, kB⟩ := He.ba k2
        obtain ⟨k3, kC⟩ := He.ba kB
        obtain ⟨k4, k5⟩ := He.ba kC
        clear kB kC
        have e8 := isNone_eq k1
        have e9 := isNone_eq kA
        subst e8 e9
        match n7, h7, k4 with
        | [(nm, cc)], h7, k4 =>
          have e7 : nm = "__class__" := (List.cons.inj h7).1
          subst e7
          match n13, k5, k3 with
          | .ref cda, k5, k3 =>
            have k4 : (match K.lookup cc with
              | some ⟨_, _, .cell (some (.ref C')), _⟩ => C' == He.ga K d.name
              | _ => false) = true := k4
            have k5 : (match K.lookup cda with
              | some ⟨_, _, .fields vs, _⟩ => (match (vs[2]? : Option Value) with
                | some (.str f _) => decide (f = d.file)
                | _ => false)
              | _ => false) = true := k5
            split at k4
            · rename_i cl cld C' csl hcc
              have eC : C' = He.ga K d.name := beq_iff_eq.mp k4
              subst eC
              split at k5
              · rename_i ccl cdd vs ccs hcd
                split at k5
                · rename_i f tf hf
                  have ef : f = d.file := of_decide_eq_true k5
                  subst ef
                  exact ⟨oc, od, d.qual, d.scope, n10, n11, n12, cda, cc, n14, osl, text, j, p0, p1, p2, p3, p4, p5, q1, q2, q3, q4, r1, r2, by rw [hp, hb], k3, hs, hl, ⟨cl, cld, csl, hcc⟩, ccl, cdd, vs, tf, ccs, hcd, hf⟩
                · cases k5
              · cases k5
            · cases k4
      | _ => cases c2
/-! ### the Hook -/
abbrev AlZ : Type := Bool × List He.FnW × List FnX
def asZ (g : Addr → Option Obj) : Nat → List Addr
  | 0 => [mainGlobals, cStatics]
  | n + 1 => He.growD g (asZ g n)
def obsZ (fa : List He.Fa) (fn : List He.DefD) (xs : List ExD) (ex : PySem.W.Frag → Bool) (K : PySem.W.Frag) : AlZ := ((fa.all fun f => f.ok K) && ((fn.all fun d => d.ok K) && ((xs.all fun d => d.ok K) && ex K)), fn.map fun d => He.fnW K d.at_, xs.map fun d => fnX K d.name)
def valZ (fn : List He.DefD) (xs : List ExD) : AlZ := (true, fn.map He.DefD.val, xs.map ExD.val)
def SaysZ (fa : List He.Fa) (fn : List He.DefD) (xs : List ExD) (ex : PySem.W.Frag → Bool) (K : PySem.W.Frag) : Prop := obsZ fa fn xs ex K = valZ fn xs
def obsZG (n : Nat) (fa : List He.Fa) (fn : List He.DefD) (xs : List ExD) (ex : PySem.W.Frag → Bool) (g : Addr → Option Obj) : AlZ := obsZ fa fn xs ex (He.frG g (asZ g n))
def hookZ (n : Nat) (fa : List He.Fa) (fn : List He.DefD) (xs : List ExD) (ex : PySem.W.Frag → Bool) : PySem.W.Hook where
  α := AlZ
  obs := fun s => obsZG n fa fn xs ex s.heap.get?
  val := fun _ => valZ fn xs
  says := fun _ h => ∃ K : PySem.W.Frag, K.In h ∧ SaysZ fa fn xs ex K
  of := fun _ _ e => ⟨_, He.frG_in, e⟩
  keeps := fun _ _ _ ⟨K, hK, c⟩ k => ⟨K, PySem.W.Frag.In.keeps hK k, c⟩
theorem obsZG_eq {n : Nat} {fa : List He.Fa} {fn : List He.DefD} {xs : List ExD} {ex : PySem.W.Frag → Bool} {g : Addr → Option Obj} {s : Shared} (h : ∀ a, g a = s.heap.get? a) : obsZG n fa fn xs ex g = (hookZ n fa fn xs ex).obs s := by
  have e : g = s.heap.get? := funext h
  rw [e] <;> rfl
section
variable {fa : List He.Fa} {fn : List He.DefD} {xs : List ExD} {ex : PySem.W.Frag → Bool} {K : PySem.W.Frag}
theorem SaysZ.all (c : SaysZ fa fn xs ex K) : (fa.all fun f => f.ok K) = true ∧ (fn.all fun d => d.ok K) = true ∧ (xs.all fun d => d.ok K) = true ∧ ex K = true := by
  obtain ⟨h1, h⟩ := He.ba (show ((fa.all fun f => f.ok K) && ((fn.all fun d => d.ok K) && ((xs.all fun d => d.ok K) && ex K))) = true from congrArg (fun z : AlZ => z.1) c)
  obtain ⟨h2, h⟩ := He.ba h
  obtain ⟨h3, h4⟩ := He.ba h
  exact ⟨h1, h2, h3, h4⟩
theorem SaysZ.fact (c : SaysZ fa fn xs ex K) (i : Nat) {f : He.Fa} (h : fa[i]? = some f := by rfl) : f.ok K = true := List.all_eq_true.mp c.all.1 f (List.mem_of_getElem? h)
theorem SaysZ.def_ (c : SaysZ fa fn xs ex K) (i : Nat) {d : He.DefD} (h : fn[i]? = some d := by rfl) : ∃ fd, FunD K d.name d.qual d.params d.body d.scope (d.dvs K) (d.kws K) (He.fAd K d.at_) fd := by
  have e : fn.map (fun d => He.fnW K d.at_) = fn.map He.DefD.val := congrArg (fun z : AlZ => z.2.1) c
  have e2 : (fn.map fun d => He.fnW K d.at_)[i]? = (fn.map He.DefD.val)[i]? := by rw [e]
  rw [List.getElem?_map, List.getElem?_map, h] at e2
  exact He.DefD.funD (Option.some.inj e2) (List.all_eq_true.mp c.all.2.1 d (List.mem_of_getElem? h))
theorem SaysZ.exc (c : SaysZ fa fn xs ex K) (i : Nat) {d : ExD} (h : xs[i]? = some d := by rfl) : fnX K d.name = d.val ∧ d.ok K = true := by
  have e : xs.map (fun d => fnX K d.name) = xs.map ExD.val := congrArg (fun z : AlZ => z.2.2) c
  have e2 : (xs.map fun d => fnX K d.name)[i]? = (xs.map ExD.val)[i]? := by rw [e]
  rw [List.getElem?_map, List.getElem?_map, h] at e2
  exact ⟨Option.some.inj e2, List.all_eq_true.mp c.all.2.2.1 d (List.mem_of_getElem? h)⟩
end
/-! ### a law's end -/
/-- from the heap behind the top: the law's call gives True; F over every base -/
theorem law_callZ {P : Program} {w : World} {K : PySem.W.Frag} {mg mb : Str → Option Value} {k : Nat} {fa a : Addr} {fd : FuncData} {x : Str} {sp : Sp} {s₁ : Shared} {vs : List Value} {ns : List Int}
    (KX : K.In s₁.heap) (hns : s₁.heap.Ns mainGlobals mg) (hb : s₁.heap.Ns builtinsNs mb) (hbb : ∀ x : Str, x ≠ "__name__" → mb x = bootBuiltins x) (hlim : s₁.heap.NoLimit) (hg : s₁.gens = #[])
    (ha : s₁.heap.get? a = some { cls := .type "list", data := .seq vs.toArray }) (hi : IntsAre vs ns) (hl : ns.length ≤ sizeLine) (hr : Room k callerA)
    (F : ∀ base : Heap, K.In base → base.Ns mainGlobals mg → FnG P w K mg base (L2.CX P w) k fa fd [x] sp) (hbind : ∀ (s : Shared) (u : Value), BindsTo s fd ⟨[u], []⟩ [(x, u)])
    (hsp : ∀ H : Hp, Only H → SqL K H a (ns.map V.int) → sp [.ref a] H (fun v _ => v = .bl true) fun _ _ _ => False)
    (hCX : ∀ H e s', L2.CX P w [] H s₁ (fun _ _ _ => False) e s' → False) :
    codeAny (model P w) callerA (.call (.ref fa) ⟨[.ref a], []⟩) (fun r s' => r = .ok (.ret (.bool true)) ∧ OldK s₁.heap s'.heap ∧ s'.os = s₁.os ∧ AllBare s'.gens) s₁ := by
  have rv := vals_ints hi
  have run : ∀ H : Hp, Only H → SqL K H a (ns.map V.int) → HOk P w H s₁.heap → (∀ b, H b ≠ none → b = a ∧ K.lookup a = none) →
      codeAny (model P w) callerA (.call (.ref fa) ⟨[.ref a], []⟩) (fun r s' => r = .ok (.ret (.bool true)) ∧ OldK s₁.heap s'.heap ∧ s'.os = s₁.os ∧ AllBare s'.gens) s₁ := by
    intro H hO hS hok hA
    have free : ∀ {b : Addr} {o : Obj}, s₁.heap.get? b = some o → (b = a → o ≠ { cls := .type "list", data := .seq vs.toArray }) → H b = none := fun {b o} e n => by
      cases q : H b with
      | none => rfl
      | some u =>
        have eb := (hA b (by rw [q]; simp)).1
        subst eb
        rw [ha] at e
        exact absurd (Option.some.inj e).symm (n rfl)
    have nsK : ∀ {b : Addr} {m : Str → Option Value}, s₁.heap.Ns b m → (hidT s₁.heap H).Ns b m := fun {b m} ⟨o, es, ep, e, d, r⟩ => ⟨o, es, ep, hidT_get e (free e fun _ z => by rw [z] at d; cases d), d, r⟩
    have hKb : K.In (hidT s₁.heap H) := fun b o e => hidT_get (KX b o e) (by
      cases q : H b with
      | none => rfl
      | some u =>
        obtain ⟨eb, en⟩ := hA b (by rw [q]; simp)
        subst eb
        rw [en] at e; cases e)
    have hM : Mod K mg (hidT s₁.heap H) := ⟨hKb, nsK hns, ⟨mb, nsK hb, hbb⟩, let ⟨mc, h1, h2⟩ := hlim; ⟨mc, nsK h1, h2⟩⟩
    have e0 : Env0 P w K mg (hidT s₁.heap H) callerA [] s₁ H := ⟨rfl, hM, fun b o e => of_hidT e, Nat.le_of_eq (hidT_size _ _), trivial, fun b hb => absurd (show b ∈ ([] : List Addr) from hb) List.not_mem_nil, hok, .of_eq hg⟩
    refine codeAny_mono ((F _ hKb (nsK hns)).run callerA [] s₁ H ⟨[.ref a], []⟩ [.ref a] [.ref a] _ _ hr rfl e0 (hbind s₁ (.ref a)) (.cons rfl .nil) (hsp H hO hS)) fun r s' h => ?_
    match r, h with
    | .error e, h => exact (hCX H e s' h).elim
    | .ok (.ret u), h =>
      obtain ⟨v, H', os, bare, un, hok', r', q⟩ := h
      have q' : v = .bl true := q
      subst q'
      obtain rfl : u = Value.bool true := r'
      refine ⟨rfl, OldK.of_keep fun b o e => ?_, os, bare⟩
      rcases hO b with z | ⟨ob, xs, z⟩
      · exact un.keep b o e z (fun y => absurd (show b ∈ ([] : List Addr) from y) List.not_mem_nil) (by simp)
      · obtain ⟨e1, _⟩ := hok b _ z
        rw [e] at e1; cases e1
        exact (hok' b _ (un.frzs b _ _ z)).1
  cases hk : K.lookup a with
  | some o =>
    have e := KX a o hk
    rw [ha] at e
    cases e
    refine run (fun _ => none) (fun _ => .inl rfl) (.inr ⟨_, vs.toArray, _, hk, rfl, rfl, rfl, by rw [List.size_toArray, hi.length]; exact hl, by simpa using rv⟩) (fun b u z => nomatch (show (none : Option HO) = some u from z)) fun b z => absurd rfl z
  | none =>
    have at_ : ∀ b, (fun b => if b = a then some (HO.frz { cls := .type "list", data := .seq vs.toArray } (.lst (ns.map V.int))) else none : Hp) b ≠ none → b = a := fun b z => by
      by_cases hb : b = a
      · exact hb
      · exact absurd (if_neg hb) z
    refine run (fun b => if b = a then some (.frz { cls := .type "list", data := .seq vs.toArray } (.lst (ns.map V.int))) else none) (fun b => ?_) (.inl (.inr ⟨{ cls := .type "list", data := .seq vs.toArray }, if_pos rfl⟩)) (fun b u z => ?_) fun b z => ⟨at_ b z, hk⟩
    · by_cases hb : b = a
      · exact .inr ⟨_, _, if_pos hb⟩
      · exact .inl (if_neg hb)
    · have hb := at_ b (by rw [z]; simp)
      subst hb
      have z' := (if_pos rfl).symm.trans z
      cases z'
      exact ⟨ha, by rw [List.length_map]; exact hl, vs, _, rv, ha⟩
/-- the script as data -/
theorem script_rep {c : Cf} {H : Hp} {a : Addr} {ns : List Int} (h : SqL c.K H a (ns.map V.int)) : Dat c H (.ref a) (.lst (ns.map .int)) := by
  refine .lst h ?_
  have : ∀ ns : List Int, DatL c H (ns.map V.int) (ns.map D.int) := fun ns => by
    induction ns with
    | nil => exact .nil
    | cons n ns ih => exact .cons (.int n) ih
  exact this ns
theorem only_spD {c : Cf} {H : Hp} {a : Addr} {ns : List Int} {f : List O → CRes} (h : SqL c.K H a (ns.map V.int)) (hf : ∃ outs, f [.val (.lst (ns.map .int))] = .ok (.val (.bl true)) outs) : spD c 1 f [.ref a] H (fun v _ => v = .bl true) fun _ _ _ => False := by
  obtain ⟨outs, hf⟩ := hf
  refine ⟨rfl, H, [.val (.lst (ns.map .int))], [], Le.refl H, .cons (F := []) (.val (script_rep h)) .nil Disj.nil_left, ?_⟩
  rw [hf]
  intro W' H' v F' Fo g r rr d
  cases rr with
  | val hd => cases hd; rfl
/-- a law row's walk -/
theorem walk_ofZ {l : PySem.W.OpenLaw} {n k : Nat} {q : Program} {loose : List Str} {XP : (Str → Option Value) → Heap → Prop} {YP : World → Heap → Prop} {d : DefRec} {x : Str}
    (hn : l.most = some n) (hn2 : n ≤ sizeLine) (hdf : d.params.defaults = []) (hr : Room k callerA)
    (F : ∀ (w : World) (mg : Str → Option Value) (fa : Addr) (h : Heap), YP w h → h.Ns mainGlobals mg → mg d.name = some (.ref fa) →
      ∃ (c : Cf) (fd : FuncData) (f : List O → CRes), c.K.In h ∧ (∀ (s : Shared) (u : Value), BindsTo s fd ⟨[u], []⟩ [(x, u)]) ∧
        (∀ (ns : List Int), ns.length ≤ n → ∃ outs, f [.val (.lst (ns.map .int))] = .ok (.val (.bl true)) outs) ∧
        ∀ base : Heap, c.K.In base → base.Ns mainGlobals mg → FnG l.prog w c.K mg base (L2.CX l.prog w) k fa fd [x] (spD c 1 f))
    (hCX : ∀ (w : World) (H : Hp) (s : Shared) (e : Value) (s' : Shared), L2.CX l.prog w [] H s (fun _ _ _ => False) e s' → False) :
    PySem.W.WalkO q loose XP YP l.row.toRowW d [] (fun f vs => PySem.call f vs) := by
  refine Att.attach_call hn hdf fun w s₀ s₁ mg mb fa o pm cd doc a vs ns G Y ho hd hcd hmg hobj hints hlen hg => ?_
  obtain ⟨c, fd, f, KX, hb, hf, hF⟩ := F w mg fa _ Y G.T.g hmg
  exact law_callZ KX G.T.g G.T.b G.T.builtins G.T.nolimit hg hobj hints (Nat.le_trans hlen hn2) hr hF hb (fun H hO hS => only_spD hS (hf ns hlen)) fun H e s' => hCX w H s₁ e s'
end Z

set_option maxRecDepth 100000
set_option maxHeartbeats 2000000
/-! Z.use: names as values, calls by one fact -/
namespace Z
open PySem L2 PySem.Spec PyProof.Rows
theorem arrange_range {α : Type} : ∀ {l : List α} {n : Nat}, l.length = n → arrange (List.range n) l = l
  | [], _, h => by subst h; rfl
  | a :: l, _, h => by
    subst h
    show (List.range (l.length + 1)).filterMap _ = _
    rw [List.range_succ_eq_map, List.filterMap_cons]
    show a :: _ = _
    rw [List.filterMap_map]
    exact congrArg (a :: ·) (arrange_range (l := l) rfl)
structure CallS (P : Program) (w : World) (c : Cf) (K : PySem.W.Frag) (mg : Str → Option Value) (base : Heap) (k n : Nat) (ks : List Str) (f : Addr) (ix : List Nat) (dds : List D) (F : List O → CRes) : Prop where
  ex : ∃ (fd : FuncData) (ps : List Str) (g : List Value → List Value → List Value) (gV : List V → List V → List V) (dvs : List V), FnG P w K mg base (L2.CX P w) k f fd ps (spD c ix.length F) ∧ PySem.W.keepIn K (.ref f) = true ∧ KBn K fd ps n ks g gV ∧ Sh1 c n ks.length ix dvs dds gV
section
variable {P : Program} {w : World} {c : Cf} {K : PySem.W.Frag} {mg : Str → Option Value} {base : Heap} {k n : Nat} {ks ps : List Str} {f : Addr} {fd : FuncData} {ix : List Nat} {dds : List D} {F : List O → CRes} {x qual : Str} {params : Arguments} {body : List Stmt} {scope : Scope} {dvs : List V}
theorem callS_of (Fn : FnG P w K mg base (L2.CX P w) k f fd ps (spD c ps.length F)) (FD : FunD K x qual params body scope [] [] f fd) (n : Nat) (ks : List Str) (ix : List Nat) (hl : ix.length = ps.length) (nd : ix.Nodup) (lt : ∀ i ∈ ix, i < n + ks.length)
    (bind : ∀ (kV doc pm : Value) (an : Option Addr) (cdv ct : Value) (us ws : List Value), us.length = n → ws.length = ks.length → bindArgs (PySem.W.fnOf x qual params body scope .none kV doc pm an cdv ct) ⟨us, ks.zip ws⟩ = pure (ps.zip (arrange ix (us ++ ws)))) :
    CallS P w c K mg base k n ks f ix [] F := by
  obtain ⟨oc, od, dV, kV, doc, pm, an, cdv, ct, osl, rfl, lk, hcd, hD, hK⟩ := FD.ex
  rcases hD with ⟨_, rfl⟩ | ⟨e, _⟩
  · refine ⟨_, ps, fun us ws => arrange ix (us ++ ws), fun vs zs => arrange ix (vs ++ zs), [], by rw [hl]; exact Fn, FD.kp, ⟨fun s us ws _ h1 h2 => .of_eq (bind kV doc pm an cdv ct us ws h1 h2), fun r r2 => vals_arrange (r.append r2)⟩, fun _ => .nil, nd, fun i hi => by simpa using lt i hi, fun vs zs _ _ => by rw [List.append_nil]⟩
  · exact absurd rfl e
/-- with defaults -/
theorem callS_dfl (Fn : FnG P w K mg base (L2.CX P w) k f fd ps (spD c ps.length F)) (FD : FunD K x qual params body scope dvs [] f fd) (hd : dvs ≠ []) (dd : ∀ W, DatL c W dvs dds) (n : Nat) (ks : List Str) (ix : List Nat) (hl : ix.length = ps.length) (nd : ix.Nodup) (lt : ∀ i ∈ ix, i < n + ks.length + dds.length)
    (bind : ∀ (T : Addr) (kV doc pm : Value) (an : Option Addr) (cdv ct : Value) (us ws its : List Value), us.length = n → ws.length = ks.length → its.length = dds.length →
      ∃ k, bindArgs (PySem.W.fnOf x qual params body scope (.ref T) kV doc pm an cdv ct) ⟨us, ks.zip ws⟩ = seqItems? (.ref T) >>= k ∧ k (some its.toArray) = pure (ps.zip (arrange ix (us ++ ws ++ its)))) :
    CallS P w c K mg base k n ks f ix dds F := by
  obtain ⟨oc, od, dV, kV, doc, pm, an, cdv, ct, osl, rfl, lk, hcd, hD, hK⟩ := FD.ex
  rcases hD with ⟨e, _⟩ | ⟨_, T, o, its, m, rfl, lT, oT, rT⟩
  · exact absurd e hd
  · refine ⟨_, ps, fun us ws => arrange ix (us ++ ws ++ its), fun vs zs => arrange ix (vs ++ zs ++ dvs), dvs, by rw [hl]; exact Fn, FD.kp, ⟨fun s us ws X h1 h2 => ?_, fun r r2 => vals_arrange ((r.append r2).append rT)⟩, dd, nd, lt, fun vs zs _ _ => rfl⟩
    obtain ⟨k, e1, e2⟩ := bind T kV doc pm an cdv ct us ws its h1 h2 (by rw [← rT.length]; exact (dd fun _ => none).length)
    refine BindsTo.of_looks fun M => ?_
    rw [e1]
    exact looks_items X lT oT (.of_pure e2)
end
section
variable {X : Cx} {c : Cf} {XW : WX} {k j n : Nat} {ks : List Str} {f : Addr} {ix : List Nat} {dds : List D} {F : List O → CRes} {x : Str} {p pos : Pos} {es : List Expr} {kws : List Keyword} {b1 b2 : Bool} {mas mks : Env → Res (List RV)}
theorem d_fn (hp : HP X XW) (h : CallS X.prog X.w c X.K X.mg X.base j n ks f ix dds F) (hr : Room k X.A) (hgd : X.A.guards = some []) (hm : X.mg x = some (.ref f)) (hc : PCl X pos es kws ks (TAr c XW b1 mas) (TAr c XW b2 mks))
    (hj : j ≤ k := by decide) (hnp : b2 = true ∨ NPA mas := by exact .inl rfl) (hg : Gl X x := by rfl) (hdb : (x == ("__debug__" : Str)) = false := by decide) :
    PE X (.Call (.Name x p) es kws pos) (T c XW false (callZ n ks.length ix dds F mas mks)) := by
  obtain ⟨fd, ps, g, gV, dvs, Fn, hk, hb, sh⟩ := h.ex
  exact d_call hp (Fn.mono hj) hr hgd hm hk hb sh hc hnp hg hdb
/-! ### names as values -/
theorem d_ty {T : String} (hm : X.mg x = none) (hv : bootBuiltins x = some (.type T)) (hg : Gl X x := by rfl) (hn : x ≠ "__name__" := by decide) (hdb : (x == ("__debug__" : Str)) = false := by decide) : PE X (.Name x pos) (Z.T c XW true (conD (.ty T))) := d_con (pe_bltn (v := .ty T) hg hm hv rfl hn hdb) fun _ => .ty T
theorem d_fnV {i : Nat} (hm : X.mg x = some (.ref (c.fn i))) (hg : Gl X x := by rfl) (hdb : (x == ("__debug__" : Str)) = false := by decide) : PE X (.Name x pos) (T c XW true (conD (.fn i))) := d_con (pe_glob (v := .ref (c.fn i)) hg hm rfl hdb) fun _ => .fn i
theorem d_clV {i : Nat} (hm : X.mg x = some (.ref (c.cls i))) (hg : Gl X x := by rfl) (hdb : (x == ("__debug__" : Str)) = false := by decide) : PE X (.Name x pos) (T c XW true (conD (.cl i))) := d_con (pe_glob (v := .ref (c.cls i)) hg hm rfl hdb) fun _ => .cl i
theorem d_gstr {z : Str} (hm : ∃ t, X.mg x = some (.str z t)) (hz : sOk z = true := by decide +kernel) (hg : Gl X x := by rfl) (hdb : (x == ("__debug__" : Str)) = false := by decide) : PE X (.Name x pos) (T c XW true (conD (.str z))) :=
  let ⟨t, h⟩ := hm
  d_con (pe_glob (v := .str z) hg h ⟨t, rfl⟩ hdb) fun _ => .str z hz
theorem d_gint {z : Int} (hm : ∃ t, X.mg x = some (.int z t)) (hg : Gl X x := by rfl) (hdb : (x == ("__debug__" : Str)) = false := by decide) : PE X (.Name x pos) (T c XW true (conD (.int z))) :=
  let ⟨t, h⟩ := hm
  d_con (pe_glob (v := .int z) hg h ⟨t, rfl⟩ hdb) fun _ => .int z
theorem d_gdat {a : Addr} {d : D} (hm : X.mg x = some (.ref a)) (hd : ∀ W, Dat c W (.ref a) d) (hg : Gl X x := by rfl) (hdb : (x == ("__debug__" : Str)) = false := by decide) : PE X (.Name x pos) (T c XW true (conD d)) := d_con (pe_glob (v := .ref a) hg hm rfl hdb) hd
end
/-! ### no path into a place comes out -/
theorem bind_ok {α β : Type} {r : Res α} {k : α → Env → Res β} {b : β} {e : Env} (h : r.bind k = .ok b e) : ∃ a e1, r = .ok a e1 ∧ k a e1 = .ok b e := by
  cases r with
  | ok a e1 => exact ⟨a, e1, rfl, h⟩
  | err x e1 => cases h
  | stuck => cases h
theorem of_ok {α : Type} {o : Option α} {a : α} {e e1 : Env} (h : Res.of e o = .ok a e1) : o = some a ∧ e = e1 := by
  cases o with
  | none => cases h
  | some b => cases h; exact ⟨rfl, rfl⟩
theorem scal_tmp {d : Option D} {r : RV} (h : scal d = some r) : ∃ d', r = rv d' := by
  obtain ⟨d', v, _, _, rfl⟩ := scal_of h
  exact ⟨d', rfl⟩
section
variable {ma mb mc mo : Env → Res RV} {mas mks : Env → Res (List RV)}
theorem np_con {d : D} : NP (conD d) := fun e i p e' h => by cases h
theorem np_op2 {f : D → D → Option D} : NP (op2D f ma mb) := fun e i p e' h => by
  obtain ⟨a, e1, _, h⟩ := bind_ok h
  obtain ⟨b, e2, _, h⟩ := bind_ok h
  obtain ⟨h, _⟩ := of_ok h
  cases q : a.fz e2 with
  | none => rw [q] at h; cases h
  | some x =>
    cases q2 : b.fz e2 with
    | none => rw [q, q2] at h; cases h
    | some y => rw [q, q2] at h; obtain ⟨d, z⟩ := scal_tmp (show scal (f x y) = some _ from h); cases z
theorem np_callD {f : List D → Option D} : NP (callD f mas) := fun e i p e' h => by
  obtain ⟨a, e1, _, h⟩ := bind_ok h
  obtain ⟨h, _⟩ := of_ok h
  cases q : fzs e1 a with
  | none => rw [q] at h; cases h
  | some x => rw [q] at h; obtain ⟨d, z⟩ := scal_tmp (show scal (f x) = some _ from h); cases z
theorem np_newLD {f : List D → Option (List D)} : NP (newLD f mas) := fun e i p e' h => by
  obtain ⟨a, e1, _, h⟩ := bind_ok h
  obtain ⟨h, _⟩ := of_ok h
  cases q : shs e1 a with
  | none => rw [q] at h; cases h
  | some x =>
    rw [q] at h
    have h : (f x).map (fun es => RV.tmp (.lst (es.map .val))) = some _ := h
    cases q2 : f x with
    | none => rw [q2] at h; cases h
    | some es => rw [q2] at h; cases h
theorem np_newVD {f : List D → Option D} : NP (newVD f mas) := fun e i p e' h => by
  obtain ⟨a, e1, _, h⟩ := bind_ok h
  obtain ⟨h, _⟩ := of_ok h
  cases q : shs e1 a with
  | none => rw [q] at h; cases h
  | some x =>
    rw [q] at h
    have h : (f x).map rv = some _ := h
    cases q2 : f x with
    | none => rw [q2] at h; cases h
    | some es => rw [q2] at h; cases h
theorem np_lst : NP (lstD mas) := fun e i p e' h => by
  obtain ⟨a, e1, _, h⟩ := bind_ok h
  cases q : takes e1 a with
  | none => rw [q] at h; cases h
  | some t =>
    obtain ⟨os, e2⟩ := t
    rw [q] at h
    dsimp only at h
    split at h <;> cases h
theorem np_tup : NP (tupD mas) := fun e i p e' h => by
  obtain ⟨a, e1, _, h⟩ := bind_ok h
  cases q : takes e1 a with
  | none => rw [q] at h; cases h
  | some t =>
    obtain ⟨os, e2⟩ := t
    rw [q] at h
    dsimp only at h
    split at h <;> cases h
theorem np_callR {f : List O → CRes} {as : List RV} {e e' : Env} {i : Nat} {p : List Stp} (h : callR f as e = .ok (.pl i p) e') : p = [] := by
  unfold callR at h
  cases q : lend e as with
  | none => rw [q] at h; cases h
  | some t =>
    obtain ⟨os, e3⟩ := t
    rw [q] at h
    dsimp only at h
    cases q2 : f os with
    | ok r outs => rw [q2] at h; cases h
    | err x outs => rw [q2] at h; cases h
    | stuck => rw [q2] at h; cases h
theorem np_args {n m : Nat} {ix : List Nat} {dds : List D} {k : List RV → Env → Res RV} (hk : ∀ as e i p e', k as e = .ok (.pl i p) e' → p = []) : NP (argsZ n m ix dds k mas mks) := fun e i p e' h => by
  obtain ⟨a, e1, _, h⟩ := bind_ok h
  obtain ⟨b, e2, _, h⟩ := bind_ok h
  split at h
  · exact hk _ _ _ _ _ h
  · cases h
theorem np_call {n m : Nat} {ix : List Nat} {dds : List D} {f : List O → CRes} : NP (callZ n m ix dds f mas mks) := np_args fun _ _ _ _ _ h => np_callR h
theorem np_make {k n m : Nat} {ix : List Nat} {dds : List D} {f : List O → CRes} : NP (makeZ k n m ix dds f mas mks) := np_args fun as e i p e' h => by
  unfold makeF at h
  cases q : lend e as with
  | none => rw [q] at h; cases h
  | some t =>
    obtain ⟨os, e3⟩ := t
    rw [q] at h
    dsimp only at h
    split at h <;> cases h
theorem np_meth {k n m : Nat} {mt : Str} {ix : List Nat} {dds : List D} {f : List O → CRes} : NP (methZ k mt n m ix dds f mo mas mks) := fun e i p e' h => by
  obtain ⟨a, e1, _, h⟩ := bind_ok h
  split at h
  · exact np_args (fun _ _ _ _ _ h => np_callR h) _ _ _ _ h
  · cases h
theorem np_fin {vs : List Nat} {e1 e' : Env} {r : Res (List O)} {i : Nat} {p : List Stp} (h : finL vs e1 r = .ok (.pl i p) e') : p = [] := by
  obtain ⟨o, z⟩ := finL_tmp _ _ h
  cases z
theorem np_lc {vs : List Nat} {ms : Env → Res (List D)} {t : Tgt} {mt : Env → Res Bool} : NP (lcD vs ms t mt ma) := fun e i p e' h => by
  obtain ⟨a, e1, _, h⟩ := bind_ok h
  exact np_fin h
theorem np_lcK {vs : List Nat} {j : Nat} {t : Tgt} {mt : Env → Res Bool} : NP (lcKD vs j t mt ma) := fun e i p e' h => by
  unfold lcKD at h
  cases q : keysD j e with
  | none => rw [q] at h; cases h
  | some tt =>
    obtain ⟨ds, e1⟩ := tt
    rw [q] at h
    dsimp only at h
    cases q2 : finL vs e1 (compL t.st mt ma vs ds [] (clear vs e1)) with
    | ok a e2 => rw [q2] at h; cases h; exact np_fin q2
    | err x e2 => rw [q2] at h; cases h
    | stuck => rw [q2] at h; cases h
theorem np_m1 {f : Str → D → Option D} : NP (m1D f mo ma) := fun e i p e' h => by
  obtain ⟨a, e1, _, h⟩ := bind_ok h
  split at h
  · obtain ⟨b, e2, _, h⟩ := bind_ok h
    obtain ⟨h, _⟩ := of_ok h
    cases q : b.fz e2 with
    | none => rw [q] at h; cases h
    | some x => rw [q] at h; obtain ⟨d, z⟩ := scal_tmp (show scal _ = some _ from h); cases z
  · cases h
theorem np_callV {n i : Nat} {tab : Nat → Option (List Nat × List D × (List O → CRes))} : NP (callV n i tab mas) := fun e j p e' h => by
  unfold callV at h
  split at h
  · split at h
    · exact np_call _ _ _ _ h
    · cases h
  · cases h
theorem np_if {tc : Env → Res Bool} (h1 : NP ma) (h2 : NP mb) : NP (ifD tc ma mb) := fun e i p e' h => by
  obtain ⟨a, e1, _, h⟩ := bind_ok h
  split at h
  · exact h1 _ _ _ _ h
  · exact h2 _ _ _ _ h
theorem npa_nil : NPA nilA := fun e as e' h i p z => by cases h; cases z
theorem npa_cons {mr : Env → Res (List RV)} (h1 : NP ma) (h2 : NPA mr) : NPA (consA ma mr) := fun e as e' h i p z => by
  obtain ⟨a, e1, ha, h⟩ := bind_ok h
  obtain ⟨bs, e2, hb, h⟩ := bind_ok h
  cases h
  rcases List.mem_cons.mp z with z | z
  · exact h1 e i p e1 (by rw [z]; exact ha)
  · exact h2 _ _ _ hb i p z
end
section
variable {X : Cx} {c : Cf} {XW : WX} {pin : List Nat} {σ0 σ σ' : L2.St} {W H W1 H1 W2 H2 : Hp} {e e1 e2 : Env} {F G F1 F2 : List Addr} {b b1 b2 b3 : Bool} {x : Expr} {ma : Env → Res RV} {pos : Pos}
def D.neg : D → Option D
  | .int i => some (.int (-i))
  | _ => none
theorem d_neg (ha : PE X x (T c XW b ma)) : PE X (.UnaryOp .USub x pos) (T c XW b (op1D D.neg ma)) := pe_imp (pe_un un_neg ha) fun σ H Q ⟨W, e, F, le, s, p⟩ => by
  refine Tr.then0 (b2 := true) le s p (fun z => ⟨z, rfl⟩) fun a e1 W1 H1 v F1 Fa qa g1 sm1 s1 r1 d1 p1 => ?_
  obtain ⟨t, ht, p1⟩ := Res.of_ok p1
  cases q : a.fz e1 with
  | none => rw [q] at ht; cases ht
  | some d =>
    rw [q] at ht
    obtain ⟨d', w, h1, h2, rfl⟩ := scal_of (show scal (D.neg d) = some t from ht)
    cases d with
    | int i =>
      have hv := r1.dat g1.le s1 q
      cases hv
      cases h1
      cases h2
      exact ⟨i, rfl, Pst.scalar g1.le p1 s1 (fun y hy => List.mem_append_left _ hy) rfl⟩
    | _ => cases h1
/-- a, b, .. = x -/
def setTD (t : Tgt) (ma : Env → Res RV) : Env → SRes := fun e => (ma e).s fun a e1 => match a.take e1 with
  | some (o, e2) => match t.st o.fz e2 with
    | some e3 => .nx e3
    | none => .stuck
  | none => .stuck
theorem s_setT {t : Tgt} {tg : Expr} (he : PE X x (T c XW b ma)) (hg : PG X tg (t.g c.K)) (hv : t.ix.all (fun i => !pin.contains i) = true := by rfl) (hs : swapsWithSole [tg] x pos.line X.env = pure false := by rfl) (hw : swappedStores [tg] x X.env = pure none := by rfl)
    (h1 : (assignEach [tg] X.env).map (·.2) = [assign tg X.env] := by rfl) : PS X (.Assign [tg] x pos) (S c XW pin σ0 (setTD t ma)) := ps_imp (ps_asg he hg hs hw h1) fun D σ H ⟨W, e, F, le, s, pn, p⟩ => by
  refine Tr.s (b1 := b) le s pn p fun a e1 W1 H1 w F1 Fo _ g s1 r d p1 => ?_
  cases q : a.take e1 with
  | none => rw [q] at p1; exact p1.elim
  | some tt =>
    obtain ⟨o, e2⟩ := tt
    rw [q] at p1
    have p1 : SPst c XW pin σ0 W1 H1 (F1 ++ Fo) (match t.st o.fz e2 with
      | some e3 => .nx e3
      | none => .stuck) D := p1
    obtain ⟨W2, F2, g2, s2, dt⟩ := take_fz g.le r s1 d q
    cases q2 : t.st o.fz e2 with
    | none => rw [q2] at p1; exact p1.elim
    | some e3 =>
      rw [q2] at p1
      exact t.run g2.le s2 dt q2 fun σ' F' s' sub bt => p1 W2 H1 σ' F' (g2.less sub) s' (pn.but bt hv)
end
end Z
namespace Z
open PySem L2 PySem.Spec PyProof.Rows
/-! ### a table of defs that a local may hold -/
abbrev TabL := List (Nat × List Nat × List D × (List O → CRes))
def TabT (X : Cx) (c : Cf) (k n : Nat) (l : TabL) : Prop := ∀ j ix dds F, l.lookup j = some (ix, dds, F) → CallT X c k n j ix dds F
section
variable {X : Cx} {c : Cf} {k n j : Nat} {ix : List Nat} {dds : List D} {F : List O → CRes} {l : TabL}
theorem tabT_nil : TabT X c k n [] := fun _ _ _ _ h => by cases h
theorem tabT_cons {m : Nat} (h : CallS X.prog X.w c X.K X.mg X.base m n [] (c.fn j) ix dds F) (hm : m ≤ k) (r : TabT X c k n l) : TabT X c k n ((j, ix, dds, F) :: l) := fun j' ix' dds' F' e => by
  rw [List.lookup_cons] at e
  by_cases q : j' = j
  · subst q
    rw [beq_self_eq_true] at e
    cases e
    obtain ⟨fd, ps, g, gV, dvs, Fn, h2⟩ := h.ex
    exact ⟨fd, ps, g, gV, dvs, Fn.mono hm, h2⟩
  · rw [beq_eq_false_iff_ne.mpr q] at e
    exact r j' ix' dds' F' e
end
/-- types by a list -/
def tabTy (l : List ((Ty × Ty) × Bool)) (t u : Ty) : Option Bool := l.lookup (t, u)
def tabB (c : Cf) (l : List ((Ty × Ty) × Bool)) : Bool := l.all fun p => decide (PySem.W.kitOne c.K (p.1.1.v c) (p.1.2.v c) = some p.2)
theorem tabB_ok {c : Cf} {l : List ((Ty × Ty) × Bool)} (h : tabB c l = true) : ∀ t u b, tabTy l t u = some b → PySem.W.kitOne c.K (t.v c) (u.v c) = some b := fun t u b e => by
  have : ∀ {l : List ((Ty × Ty) × Bool)}, l.lookup (t, u) = some b → ((t, u), b) ∈ l := fun {l} => by
    induction l with
    | nil => intro h; cases h
    | cons p r ih =>
      intro h
      rw [List.lookup_cons] at h
      by_cases q : (t, u) = p.1
      · rw [beq_iff_eq.mpr q] at h
        cases h
        rw [q]; exact List.mem_cons_self
      · rw [beq_eq_false_iff_ne.mpr q] at h
        exact List.mem_cons_of_mem _ (ih h)
  exact of_decide_eq_true (List.all_eq_true.mp h _ (this e))
end Z
namespace Z
open PySem L2 PySem.Spec PyProof.Rows
def excCB (K : PySem.W.Frag) (D : Addr) : Bool := He.eqO (PySem.W.findIn K (.ref D) "__getattribute__") (some (some (.builtin "BaseException.__getattribute__"))) && (He.eqO (PySem.W.findIn K (.ref D) "__getattr__") (some none) && (eqB1 (PySem.W.subIn K (.ref D) (.type "BaseException")) (some true) && (PySem.W.hasDictIn K D &&
  (He.eqO (PySem.W.findIn K (.ref D) "__class__") (some (some (.builtin "object.__class__"))) && (He.eqO (PySem.W.specialIn K (.builtin "object.__class__") "__get__") (some (some (.builtin "getset_descriptor.__get__"))) && (eqB1 (PySem.W.takesIn K (.builtin "object.__class__")) (some true) && eqB1 (PySem.W.mroIn K D (.type "object")) (some true)))))))
theorem excCB_ok {K : PySem.W.Frag} {D : Addr} (h : excCB K D = true) : ExcC K D := by
  obtain ⟨h1, h⟩ := He.ba h
  obtain ⟨h2, h⟩ := He.ba h
  obtain ⟨h3, h⟩ := He.ba h
  obtain ⟨h4, h⟩ := He.ba h
  obtain ⟨h5, h⟩ := He.ba h
  obtain ⟨h6, h⟩ := He.ba h
  obtain ⟨h7, h8⟩ := He.ba h
  exact ⟨He.eqO_ok h1, He.eqO_ok h2, of_decide_eq_true h3, h4, He.eqO_ok h5, He.eqO_ok h6, of_decide_eq_true h7, of_decide_eq_true h8⟩
end Z
theorem L2.Room.u65 {k : Nat} {A : PySem.Around} (r : L2.Room k A) : A.units + 65 < PySem.cLine := by have := r.un; omega
theorem L2.Room.u1 {k : Nat} {A : PySem.Around} (r : L2.Room k A) : A.units + 1 < PySem.cLine := by have := r.un; omega
namespace Z
open PySem L2 PySem.Spec PyProof.Rows
/-- which clause takes what, by a list -/
def exmB (c : Cf) (l : List (Nat × Bool)) (x : Nat) : Bool := l.all fun p => decide (PySem.W.exmOne c.K (.ref (c.cls p.1)) (.ref (c.cls x)) = some p.2)
theorem lookup_mem' {α β : Type} [BEq α] [LawfulBEq α] {k : α} {b : β} : ∀ {l : List (α × β)}, l.lookup k = some b → (k, b) ∈ l
  | [], h => by cases h
  | (a, v) :: r, h => by
    rw [List.lookup_cons] at h
    cases q : (k == a) with
    | true =>
      rw [q] at h
      have : v = b := by simpa using h
      rw [← this, eq_of_beq q]; exact List.mem_cons_self
    | false =>
      rw [q] at h
      exact List.mem_cons_of_mem _ (lookup_mem' (by simpa using h))
theorem exmB_ok {c : Cf} {l : List (Nat × Bool)} {x : Nat} (h : exmB c l x = true) (k : Nat) (b : Bool) (e : l.lookup k = some b) : PySem.W.exmOne c.K (.ref (c.cls k)) (.ref (c.cls x)) = some b := of_decide_eq_true (List.all_eq_true.mp h _ (lookup_mem' e))
def exlB (c : Cf) (ks : List Nat) : Bool := ks.all fun k => excCB c.K (c.cls k)
theorem exlB_ok {c : Cf} {ks : List Nat} (h : exlB c ks = true) (k : Nat) (hk : ks.contains k = true) : ExcC c.K (c.cls k) := excCB_ok (List.all_eq_true.mp h k (by simpa using hk))
def xflB (c : Cf) (ks : List Nat) (a : Str) : Bool := ks.all fun k => xfB c.K (c.cls k) && He.eqO (PySem.W.findIn c.K (.ref (c.cls k)) a) (some none)
theorem xflB_ok {c : Cf} {ks : List Nat} {a : Str} (h : xflB c ks a = true) (k : Nat) (hk : ks.contains k = true) : XfC c.K (c.cls k) ∧ PySem.W.findIn c.K (.ref (c.cls k)) a = some none := by
  obtain ⟨h1, h2⟩ := He.ba (List.all_eq_true.mp h k (by simpa using hk))
  exact ⟨xfB_ok h1, He.eqO_ok h2⟩
end Z

set_option maxRecDepth 100000
set_option maxHeartbeats 2000000
/-! Z.flat: a list's items frozen, the list itself not -/
namespace Z
open PySem L2
def flatO (os : List O) : List O := match vals os with
  | some _ => os
  | none => (fzL os).map .val
def RV.flat (e : Env) : RV → Option (RV × Env)
  | .tmp (.lst os) => some (.tmp (.lst (flatO os)), e)
  | .tmp o => some (.tmp o, e)
  | .pl i p => match (RV.pl i p).get e with
    | some (.lst os) => match vals os with
      | some _ => some (.pl i p, e)
      | none => some (.pl i p, e.put i p (.lst ((fzL os).map .val)))
    | some _ => some (.pl i p, e)
    | none => none
def flatD (ma : Env → Res RV) : Env → Res RV := fun e => (ma e).bind fun a e1 => match a.flat e1 with
  | some (a', e2) => .ok a' e2
  | none => .stuck
theorem vals_some : ∀ {os : List O} {ds : List D}, vals os = some ds → os = ds.map .val ∧ fzL os = ds
  | [], ds, h => by cases h; exact ⟨rfl, rfl⟩
  | .val d :: os, ds, h => by
    have h : (vals os).map (d :: ·) = some ds := h
    cases q : vals os with
    | none => rw [q] at h; cases h
    | some es =>
      rw [q] at h; cases h
      obtain ⟨h1, h2⟩ := vals_some q
      exact ⟨by rw [List.map_cons, ← h1], by show O.fz (.val d) :: fzL os = _; rw [h2]; rfl⟩
  | .lst _ :: _, _, h => by cases h
  | .dct _ :: _, _, h => by cases h
  | .dcT _ :: _, _, h => by cases h
  | .obj _ _ :: _, _, h => by cases h
theorem flatO_eq (os : List O) : flatO os = (fzL os).map .val := by
  unfold flatO
  split
  · rename_i h
    obtain ⟨h1, h2⟩ := vals_some h
    rw [h2]; exact h1
  · rfl
theorem vals_flatO (os : List O) : vals (flatO os) = some (fzL os) := by rw [flatO_eq, vals_map]
section
variable {c : Cf} {W H : Hp} {σ : L2.St} {e : Env} {F : List Addr}
/-- the items of a list are frozen -/
theorem Rep.flat {v : V} {os : List O} {G : List Addr} (le : Le W H) (r : Rep c W H v (.lst os) G) : ∃ W' G', Gr W H G W' H G' ∧ Same W W' ∧ (∀ a, a ∉ G → W' a = W a) ∧ Rep c W' H v (.lst ((fzL os).map .val)) G' ∧ ∀ a ∈ G', a ∈ G := by
  cases r with
  | @lst a vs _ G1 hh hw kl na =>
    have dm := kl.dom
    have sm : Same W (plus W H G1) := plus_same fun a z => (dm a z).2
    have dt : DatL c (plus W H G1) vs (fzL os) := kl.fz sm fun a z => plus_in z
    refine ⟨plus W H G1, [a], (Gr.plus (G := a :: G1) le (fun a z => (dm a z).2) fun _ z => List.mem_cons_of_mem _ z).less fun x hx => by rw [List.mem_singleton.mp hx]; exact List.mem_cons_self, sm, fun x hx => plus_out fun z => hx (List.mem_cons_of_mem _ z), ?_, fun x hx => by rw [List.mem_singleton.mp hx]; exact List.mem_cons_self⟩
    exact .lst hh (by rw [plus_out na]; exact hw) (repL_vals dt) List.not_mem_nil
theorem RVr.flat {v : V} {rv rv' : RV} {Fo : List Addr} {e' : Env} (le : Le W H) (r : RVr c W H σ v rv Fo) (s : Slots c W H σ e F) (d : Disj F Fo) (h : rv.flat e = some (rv', e')) :
    ∃ W' F' Fo', Gr W H (F ++ Fo) W' H (F' ++ Fo') ∧ Slots c W' H σ e' F' ∧ RVr c W' H σ v rv' Fo' ∧ Disj F' Fo' := by
  have same : ∀ {rv'' : RV}, RVr c W H σ v rv'' Fo → ∃ W' F' Fo', Gr W H (F ++ Fo) W' H (F' ++ Fo') ∧ Slots c W' H σ e F' ∧ RVr c W' H σ v rv'' Fo' ∧ Disj F' Fo' := fun r => ⟨W, F, Fo, .refl le, s, r, d⟩
  cases rv with
  | tmp o =>
    cases o with
    | lst os =>
      cases h
      have r : Rep c W H v (.lst os) Fo := r
      obtain ⟨W', G', g, sw, out, r', sub⟩ := r.flat le
      rw [flatO_eq]
      refine ⟨W', F, G', ?_, s.frame g d, r', fun a h h' => d a h (sub a h')⟩
      have := (g.frame F).more (G := F ++ Fo) fun x hx => by rcases List.mem_append.mp hx with z | z; exact List.mem_append_right _ z; exact List.mem_append_left _ z
      exact this.less fun x hx => by rcases List.mem_append.mp hx with z | z; exact List.mem_append_right _ z; exact List.mem_append_left _ z
    | val _ => cases h; exact same r
    | dct _ => cases h; exact same r
    | dcT _ => cases h; exact same r
    | obj _ _ => cases h; exact same r
  | pl i p =>
    obtain ⟨e1, v0, h0, ha⟩ := r
    subst e1
    have old : RVr c W H σ v (.pl i p) [] := ⟨rfl, v0, h0, ha⟩
    have h : (match (RV.pl i p).get e with
      | some (.lst os) => match vals os with
        | some _ => some (.pl i p, e)
        | none => some (.pl i p, e.put i p (.lst ((fzL os).map .val)))
      | some _ => some (.pl i p, e)
      | none => none) = some (rv', e') := h
    cases q : (RV.pl i p).get e with
    | none => rw [q] at h; cases h
    | some o1 =>
      rw [q] at h
      cases o1 with
      | lst os =>
        dsimp only at h
        cases qv : vals os with
        | some ds => rw [qv] at h; cases h; exact same old
        | none =>
          rw [qv] at h
          have q : (e.at i).bind (fun x => x.get p) = some (.lst os) := q
          cases q0 : e.at i with
          | none => rw [q0] at q; cases q
          | some o0 =>
            rw [q0] at q
            obtain ⟨G, R, h1, h2, h3, h4, h5⟩ := s.hole (Env.at_some q0) h0 ha q
            obtain ⟨W', G', g, sw, out, r', sub⟩ := h1.flat le
            obtain ⟨F', k1, k2⟩ := h5 W' H (.lst ((fzL os).map .val)) G' sw (fun a z => ⟨rfl, by rw [out a fun y => h4 a y z]; exact (s.dom a (h3 a z)).2⟩) r' fun a z => h4 a (sub a z)
            have e2 : e' = e.set i (some (o0.put p (.lst ((fzL os).map .val)))) := by
              cases h
              unfold Env.put
              rw [q0]
            have e3 : rv' = .pl i p := by cases h; rfl
            subst e2 e3
            refine ⟨W', F', [], ?_, k1, ⟨rfl, v0, h0, ha⟩, Disj.nil_right⟩
            rw [List.append_nil, List.append_nil]
            exact { (g.more h2) with own := fun a z => .inl ((k2 a z).elim (h3 a) fun z => h2 a (sub a z)) }
      | val _ => cases h; exact same old
      | dct _ => cases h; exact same old
      | dcT _ => cases h; exact same old
      | obj _ _ => cases h; exact same old
end
section
variable {X : Cx} {c : Cf} {XW : WX} {b : Bool} {x : Expr} {ma : Env → Res RV}
theorem d_flat (ha : PE X x (T c XW b ma)) : PE X x (T c XW b (flatD ma)) := pe_imp ha fun σ H Q ⟨W, e, F, le, s, p⟩ => by
  refine ⟨W, e, F, le, s, ?_⟩
  unfold flatD at p
  cases q : ma e with
  | stuck => rw [q] at p; exact p
  | err x e1 => rw [q] at p; exact p
  | ok a e1 =>
    rw [q] at p
    intro W1 H1 v F1 Fo g sm s1 r d
    have p : Pst c XW b (rRV c) W H σ F (match a.flat e1 with
      | some (a', e2) => .ok a' e2
      | none => .stuck) Q := p
    cases qf : a.flat e1 with
    | none => rw [qf] at p; exact p.elim
    | some ae =>
      rw [qf] at p
      obtain ⟨W2, F2, Fo2, g2, s2, r2, d2⟩ := RVr.flat g.le r s1 d qf
      exact p W2 H1 v F2 Fo2 (g.trans g2) sm s2 r2 d2
theorem np_flat (h : NP ma) : NP (flatD ma) := fun e i p e' hx => by
  unfold flatD at hx
  cases q : ma e with
  | stuck => rw [q] at hx; cases hx
  | err x e1 => rw [q] at hx; cases hx
  | ok a e1 =>
    rw [q] at hx
    have hx : (match a.flat e1 with
      | some (a', e2) => Res.ok a' e2
      | none => .stuck) = .ok (.pl i p) e' := hx
    cases a with
    | tmp o => cases o <;> cases hx
    | pl j p' =>
      have e0 := h e j p' e1 q
      have hx : (match (match (RV.pl j p').get e1 with
        | some (.lst os) => match vals os with
          | some _ => some (RV.pl j p', e1)
          | none => some (RV.pl j p', e1.put j p' (.lst ((fzL os).map .val)))
        | some _ => some (RV.pl j p', e1)
        | none => none) with
        | some (a', e2) => Res.ok a' e2
        | none => .stuck) = .ok (.pl i p) e' := hx
      split at hx
      · rename_i a' e2 hq
        cases hx
        split at hq
        · split at hq <;> cases hq <;> exact e0
        · cases hq; exact e0
        · cases hq
      · cases hx
end
end Z

set_option maxRecDepth 100000
set_option maxHeartbeats 2000000
/-! Z.joins: join over a text -/
namespace Z
open PySem
section
open PySem.Builtin PySem.Builtin.Str PyProof.Rows
variable {prog : Program} {w : World} {A : Around} {E : Value → Shared → Prop} {s : Shared} {x y : Str} {t u : Tok} {Q : Value → Shared → Prop}
def signs (y : Str) : List Str := y.cps.toList.map fun c => ⟨#[c]⟩
theorem join_tree_str (sep : Str) (t : Tok) (y : Str) (u : Tok) : «str.join» ⟨[.str sep t, .str y u], []⟩ = (do
    let ty ← typeOf (.str y u)
    if (ty == .type "list" || ty == .type "tuple") = true then (do
      match ← seqItems? (.str y u) with
      | some xs => joinTail sep xs.toList
      | none => unsupported "internal:str.join")
    else (do
      let it ← (pyIter (.str y u)).tryCatch fun e => do
        if ← isInstance e (.type "TypeError") then rule "str.join.not-iterable"; raiseError "TypeError" "can only join an iterable" else throw e
      let items ← collect it
      joinTail sep items)) := rfl
theorem items_signs' : ∀ {l : List Nat} {vs : List Value}, vs.length = l.length → (∀ (j : Nat) (v : Value), vs[j]? = some v → ∃ (c : Nat) (u : Tok), (l[j]? : Option Nat) = some c ∧ v = Value.str ⟨#[c]⟩ u) → ∃ ps : List (Str × Tok), vs = strValues ps ∧ ps.map (·.1) = l.map fun c => (⟨#[c]⟩ : Str)
  | [], [], _, _ => ⟨[], rfl, rfl⟩
  | [], _ :: _, h, _ => by cases h
  | _ :: _, [], h, _ => by cases h
  | c :: l, v :: vs, h, k => by
    obtain ⟨c', u, h1, h2⟩ := k 0 v rfl
    have h1 : c = c' := Option.some.inj h1
    subst h1
    obtain ⟨ps, e1, e2⟩ := items_signs' (l := l) (vs := vs) (Nat.succ.inj h) fun j v hv => k (j + 1) v hv
    exact ⟨(⟨#[c]⟩, u) :: ps, by rw [h2, e1]; rfl, by rw [List.map_cons, List.map_cons, e2]⟩
theorem items_signs {acc : Array Value} (h : ItemsOf (SignAt y) acc y.cps.size) : ∃ l : List (Str × Tok), acc.toList = strValues l ∧ l.map (·.1) = signs y :=
  items_signs' (by rw [Array.length_toList, Array.length_toList]; exact h.1) fun j v hv => by
    obtain ⟨c, u, h1, h2⟩ := h.2 j v (by rw [← Array.getElem?_toList]; exact hv)
    exact ⟨c, u, by rw [Array.getElem?_toList]; exact h1, h2⟩
theorem join_str (hh : A.handled = none) (hok : JoinOk x (signs y) = true) (hz : y.cps.size ≤ sizeLine)
    (h : ∀ (s' : Shared) (t' : Tok) (k : Nat), (∀ b o, s.heap.get? b = some o → s'.heap.get? b = some o) → s'.gens = s.gens → s'.drawn = s.drawn → s'.os = s.os → Q (.str (Txt.join x (signs y)) t') { s' with toks := k }) : wpAny (model prog w) A (call (.builtin "str.join") [.str x t, .str y u]) Q E s := by
  refine wpAny_call (codeAny_call_builtin F.slot_str_join.plain F.entry_str_join (F.slot_str_join.check _ _ _ _ _ _ _ _ (typeIs_str _ _ _) (F.args_str_join_2 _ _) ?_))
  rw [join_tree_str]
  refine wpAny_bind (wpAny_typeOf (T := "str") (v := .str y u) rfl ?_)
  show wpAny _ A.in1 ((pyIter (.str y u)).tryCatch _ >>= fun it => collect it >>= fun items => joinTail x items) _ _ s
  refine wpAny_bind (wpAny_tryCatch (wpAny_pyIter_strU ?_))
  have hty : strIterType y = "str_ascii_iterator" ∨ strIterType y = "str_iterator" := by
    unfold strIterType
    split
    · exact .inl rfl
    · exact .inr rfl
  refine wpAny_bind (wpAny_collect_strIter (ty := strIterType y) (x := y) (t := u) hh hty ⟨_, Heap.get?_push_size _ rfl, rfl, rfl⟩ (fun s' acc hk hg hd ho ha => ?_) hz)
  obtain ⟨l, e1, e2⟩ := items_signs ha
  rw [e1]
  have hok' := hok
  rw [← e2] at hok'
  unfold JoinOk at hok'
  rw [Bool.not_eq_true'] at hok'
  have g : Gives (joinTail x (strValues l)) (joinMade x l) := by
    have g0 := gives_joinTail x l hok'
    cases l with
    | nil => exact g0
    | cons p r => cases r with
      | nil => exact g0
      | cons q r' => exact g0
  refine g prog w A (wants Q E) s' (post_join l ⟨joinFit_length hok', fun t' k => ?_⟩)
  rw [e2]
  exact h s' t' k (fun b o hb => hk b o (Nat.ne_of_lt (Heap.lt_size hb)) (Heap.get?_push_of_some _ hb)) hg hd ho
end
end Z
namespace Z
open PySem L2 PySem.Spec PyProof.Rows
def joinAF (s : Str) : D → Option D
  | .str y => if ((signs y).map (·.length)).sum + (signs y).length * s.length ≤ 16777216 then some (.str (Txt.join s (signs y))) else none
  | d => joinF s d
def rJoinS : V → List V → Hp → VK → Prop := fun x xs H Q => ∃ a y, x = .str a ∧ xs = [.str y] ∧ y.length ≤ sizeLine ∧ ((signs y).map (·.length)).sum + (signs y).length * a.length ≤ 16777216 ∧ Q (.str (Txt.join a (signs y))) H
section
variable {X : Cx} {c : Cf} {XW : WX} {b1 b2 : Bool} {x o : Expr} {ma mo : Env → Res RV} {pos apos : Pos}
theorem mt_joinS (hc : X.calm = true) : MtR X "str.join" rJoinS := by
  intro pins s σ H x xs v us Q I rx rs h
  obtain ⟨a, y, rfl, rfl, hz, hok, q⟩ := h
  obtain ⟨t, rfl⟩ := rx
  cases rs with
  | cons r1 rs =>
    cases rs
    obtain ⟨u, rfl⟩ := r1
    refine join_str (I.ok.hd hc) (joinOk_of hok) hz fun s' t' k hk hg hd ho => ?_
    have I2 : Inv X pins σ H { s' with toks := k } := by
      have I1 := I.un (h' := s'.heap) (t' := k) (Un.kept hk) (I.hok.kept hk)
      have e : ({ s' with toks := k } : Shared) = { s with heap := s'.heap, toks := k } := by
        obtain ⟨a1, a2, a3, a4, a5⟩ := s'
        obtain ⟨b1, b2, b3, b4, b5⟩ := s
        dsimp only at hg hd ho ⊢
        rw [hg, hd, ho]
      rw [e]; exact I1
    exact ⟨.str _, H, I2, ⟨t', rfl⟩, q⟩
theorem mtr_or {id : String} {r r' : V → List V → Hp → VK → Prop} (h : MtR X id r) (h' : MtR X id r') : MtR X id (fun x xs H Q => r x xs H Q ∨ r' x xs H Q) := fun pins s σ H x xs v us Q I rx rs q => q.elim (h pins s σ H x xs v us Q I rx rs) (h' pins s σ H x xs v us Q I rx rs)
theorem d_joinA (hc : X.calm = true) (hK : X.K = c.K) (ho : PE X o (T c XW b1 mo)) (he : PE X x (T c XW b2 ma))
    (hst : starEach [x] X.env = [(false, eval x X.env)] := by rfl) (hbase : attributeBase o "join" X.env (eval o X.env) = eval o X.env := by rfl) (hline : (apos.endLine == pos.line) = true := by rfl) :
    PE X (.Call (.Attribute o "join" apos) [x] [] pos) (T c XW (b1 && b2) (m1D joinAF mo ma)) := d_m1 PySem.F.slot_str_join PySem.F.type_str_join (mtr_or mt_join (mt_joinS hc)) (fun H s y dy d v Q hs hy hf hv q => by
  unfold joinAF at hf
  split at hf
  · split at hf
    · cases hf
      cases hy with
      | str _ hz =>
        rw [sv_str] at hv
        split at hv
        · cases hv
          exact .inr ⟨s, _, rfl, rfl, sOk_len hz, by assumption, q⟩
        · cases hv
    · cases hf
  · exact .inl (sc_join hK H s y dy d v Q hs hy hf hv q)) ho he hst hbase hline
end
end Z

set_option maxRecDepth 100000
set_option maxHeartbeats 2000000
/-! Z.plain: plain laws of the denotations -/
namespace Z
open PySem L2
theorem fzL_vals : ∀ ds : List D, fzL (ds.map .val) = ds
  | [] => by simp [fzL]
  | d :: ds => by rw [List.map_cons, fzL, fzL_vals ds]; rfl
theorem set_none_set {e : Env} {v : Nat} {o : Option O} (h : e.set v none = e) : (e.set v o).set v none = e := by rw [List.set_set, h]
theorem clear_one {v : Nat} {e : Env} : clear [v] e = e.set v none := rfl
/-- [f x for x in .. if t x], nothing but the slot touched -/
theorem comp_map {v : Nat} {e0 : Env} {mt : Env → Res Bool} {me : Env → Res RV} {t : D → Bool} {f : D → D} (h0 : e0.set v none = e0) : ∀ {ds : List D} {acc : List O}, (∀ d ∈ ds, mt (e0.set v (some (.val d))) = .ok (t d) (e0.set v (some (.val d))) ∧ (t d = true → me (e0.set v (some (.val d))) = .ok (rv (f d)) (e0.set v (some (.val d))))) →
    compL (Tgt.nm v).st mt me [v] ds acc e0 = .ok (acc ++ ((ds.filter t).map fun d => .val (f d))) e0
  | [], acc, _ => by simp [compL]
  | d :: ds, acc, h => by
    obtain ⟨h1, h2⟩ := h d List.mem_cons_self
    have hr := fun acc => comp_map (mt := mt) (me := me) (t := t) (f := f) h0 (ds := ds) (acc := acc) fun d hd => h d (List.mem_cons_of_mem _ hd)
    unfold compL
    have hs : (Tgt.nm v).st d e0 = some (e0.set v (some (.val d))) := by simp [Tgt.st]
    rw [hs]
    dsimp only
    rw [h1]
    have hc : clear [v] (e0.set v (some (.val d))) = e0 := by rw [clear_one, set_none_set h0]
    simp only [Res.bind]
    cases q : t d with
    | false =>
      rw [if_neg Bool.false_ne_true, hc, hr, List.filter_cons_of_neg (by rw [q]; simp)]
    | true =>
      rw [if_pos rfl, h2 q]
      simp only [RV.take]
      rw [hc, hr, List.filter_cons_of_pos (by rw [q]), List.map_cons, List.append_assoc]
      rfl
/-- a comprehension by an invariant of the environment -/
theorem comp_inv {v : Nat} {mt : Env → Res Bool} {me : Env → Res RV} (I : Env → List O → Prop) : ∀ {ds : List D} {acc : List O} {e0 : Env}, I e0 acc →
    (∀ d ∈ ds, ∀ e acc, I e acc → ∃ e1 o, (mt (e.set v (some (.val d)))).bind (fun k e2 => if k = true then (me e2).bind fun a e3 => match a.take e3 with
        | some (o, e4) => .ok (some o) e4
        | none => .stuck
      else .ok none e2) = .ok o e1 ∧ I (e1.set v none) (match o with | some o => acc ++ [o] | none => acc)) →
    ∃ e1 os, compL (Tgt.nm v).st mt me [v] ds acc e0 = .ok os e1 ∧ I e1 os
  | [], acc, e0, h, _ => ⟨e0, acc, by simp [compL], h⟩
  | d :: ds, acc, e0, h, k => by
    obtain ⟨e1, o, h1, h2⟩ := k d List.mem_cons_self e0 acc h
    obtain ⟨e2, os, h3, h4⟩ := comp_inv (mt := mt) (me := me) I (ds := ds) h2 fun d hd => k d (List.mem_cons_of_mem _ hd)
    refine ⟨e2, os, ?_, h4⟩
    unfold compL
    have hs : (Tgt.nm v).st d e0 = some (e0.set v (some (.val d))) := by simp [Tgt.st]
    rw [hs]
    dsimp only
    cases q : mt (e0.set v (some (.val d))) with
    | stuck => rw [q] at h1; cases h1
    | err x e => rw [q] at h1; cases h1
    | ok kk e3 =>
      rw [q] at h1
      simp only [Res.bind] at h1 ⊢
      cases kk with
      | false =>
        rw [if_neg Bool.false_ne_true] at h1 ⊢
        cases h1
        exact h3
      | true =>
        rw [if_pos rfl] at h1 ⊢
        cases q2 : me e3 with
        | stuck => rw [q2] at h1; cases h1
        | err x e => rw [q2] at h1; cases h1
        | ok a e4 =>
          rw [q2] at h1
          dsimp only at h1 ⊢
          cases q3 : a.take e4 with
          | none => rw [q3] at h1; cases h1
          | some t =>
            obtain ⟨o5, e5⟩ := t
            rw [q3] at h1
            cases h1
            exact h3
/-- a for by an invariant: no turn leaves -/
theorem loop_inv {st : D → Env → Option Env} {mb : Env → SRes} (I : Env → Prop) : ∀ {ds : List D} {e0 : Env}, I e0 → (∀ d ∈ ds, ∀ e, I e → ∃ e1 e2, st d e = some e1 ∧ (mb e1 = .nx e2 ∨ mb e1 = .ct e2) ∧ I e2) → ∃ e1, loopD st mb ds e0 = .nx e1 ∧ I e1
  | [], e0, h, _ => ⟨e0, rfl, h⟩
  | d :: ds, e0, h, k => by
    obtain ⟨e1, e2, h1, h2, h3⟩ := k d List.mem_cons_self e0 h
    obtain ⟨e3, h4, h5⟩ := loop_inv I (ds := ds) h3 fun d hd => k d (List.mem_cons_of_mem _ hd)
    refine ⟨e3, ?_, h5⟩
    unfold loopD
    rw [h1]
    dsimp only
    rcases h2 with h2 | h2 <;> rw [h2] <;> exact h4
/-- the same, the items seen so far told -/
theorem loop_seen {st : D → Env → Option Env} {mb : Env → SRes} (I : List D → Env → Prop) : ∀ {ds pre : List D} {e0 : Env}, I pre e0 → (∀ d pre e, (∃ post, pre ++ d :: post = (pre ++ d :: post)) → d ∈ ds → I pre e → ∃ e1 e2, st d e = some e1 ∧ (mb e1 = .nx e2 ∨ mb e1 = .ct e2) ∧ I (pre ++ [d]) e2) → ∃ e1, loopD st mb ds e0 = .nx e1 ∧ I (pre ++ ds) e1
  | [], pre, e0, h, _ => ⟨e0, rfl, by rw [List.append_nil]; exact h⟩
  | d :: ds, pre, e0, h, k => by
    obtain ⟨e1, e2, h1, h2, h3⟩ := k d pre e0 ⟨[], rfl⟩ List.mem_cons_self h
    obtain ⟨e3, h4, h5⟩ := loop_seen I (ds := ds) h3 fun d pre e hp hd => k d pre e hp (List.mem_cons_of_mem _ hd)
    refine ⟨e3, ?_, by rw [List.append_assoc] at h5; exact h5⟩
    unfold loopD
    rw [h1]
    dsimp only
    rcases h2 with h2 | h2 <;> rw [h2] <;> exact h4
end Z
namespace Z
open PySem L2
/-! ### lists of texts as data -/
theorem pyL_strs : ∀ zs : List Str, pyL (zs.map .str) = some (zs.map .str)
  | [] => by simp [pyL]
  | z :: zs => by rw [List.map_cons, pyL, pyL_strs zs]; simp [D.py]
theorem lay_strs : ∀ {zs : List Str}, (∀ z ∈ zs, PyData.strOk z = true) → PyData.canLayAll0 (zs.map .str) = true
  | [], _ => by simp [PyData.canLayAll0]
  | z :: zs, h => by
    rw [List.map_cons, PyData.canLayAll0, lay_strs fun y hy => h y (List.mem_cons_of_mem _ hy)]
    simp [PyData.canLay0, h z List.mem_cons_self]
theorem depth_strs : ∀ zs : List Str, PyData.depthAll (zs.map .str) = 0
  | [] => by simp [PyData.depthAll]
  | z :: zs => by rw [List.map_cons, PyData.depthAll, depth_strs zs]; simp [PyData.depth]
theorem shaped_strs {zs : List Str} (h : ∀ z ∈ zs, PyData.strOk z = true) : SeqAt.shaped (.list (zs.map .str)) = true := by
  unfold SeqAt.shaped
  simp [PyData.canLay0, lay_strs h, PyData.depth, depth_strs]
theorem eqb_nil {zs : List Str} (h : ∀ z ∈ zs, PyData.strOk z = true) : D.eqb (.lst (zs.map .str)) (.lst []) = some zs.isEmpty := by
  unfold D.eqb
  have h1 : (D.lst (zs.map .str)).py = some (.list (zs.map .str)) := by simp [D.py, pyL_strs]
  have h2 : (D.lst []).py = some (.list []) := by simp [D.py, pyL]
  rw [h1, h2]
  have h3 := shaped_strs h
  have h4 : SeqAt.shaped (.list []) = true := shaped_strs (zs := []) (fun _ z => absurd z List.not_mem_nil)
  simp only [h3, h4]
  cases zs <;> simp [PyData.eqv, PyData.eqvAll]
end Z
namespace Z
open PySem L2
theorem str_app (a b : Str) : a ++ b = ⟨a.cps ++ b.cps⟩ := rfl
theorem join_signs' : ∀ ls : List Nat, Str.join "" (ls.map fun c => (⟨#[c]⟩ : Str)) = ⟨ls.toArray⟩
  | [] => rfl
  | [c] => rfl
  | c :: d :: ls => by
    have ih := join_signs' (d :: ls)
    show (⟨#[c]⟩ : Str) ++ "" ++ Str.join "" ((d :: ls).map fun c => (⟨#[c]⟩ : Str)) = _
    rw [ih, str_app, str_app]
    congr 1
    apply Array.toList_inj.mp
    simp
    rfl
theorem join_signs (ls : List Nat) : Txt.join "" (ls.map fun c => (⟨#[c]⟩ : Str)) = ⟨ls.toArray⟩ := by
  unfold Txt.join
  rw [StrLaws.glued_eq_join]
  exact join_signs' ls
end Z
namespace Z
open PySem L2
theorem strsD_map : ∀ zs : List Str, strsD (zs.map .str) = some zs
  | [] => rfl
  | z :: zs => by rw [List.map_cons]; show (strsD (zs.map .str)).map (z :: ·) = _; rw [strsD_map zs]; rfl
theorem sum_signs (ls : List Nat) : ((ls.map fun c => (⟨#[c]⟩ : Str)).map (·.length)).sum = ls.length := by
  induction ls with
  | nil => rfl
  | cons c ls ih => rw [List.map_cons, List.map_cons, List.sum_cons, ih, List.length_cons]; show 1 + _ = _; omega
/-- ''.join of signs -/
theorem joinAF_row {ls : List Nat} (h : ls.length ≤ 1000000) : joinAF "" (.lst ((ls.map fun c => (⟨#[c]⟩ : Str)).map .str)) = some (.str ⟨ls.toArray⟩) := by
  have e0 : joinAF "" (.lst ((ls.map fun c => (⟨#[c]⟩ : Str)).map .str)) = joinF "" (.lst ((ls.map fun c => (⟨#[c]⟩ : Str)).map .str)) := by unfold joinAF; rfl
  rw [e0]
  unfold joinF
  simp only [strsD_map]
  have h1 := sum_signs ls
  have h2 : ((ls.map fun c => (⟨#[c]⟩ : Str)).map (·.length)).sum + (ls.map fun c => (⟨#[c]⟩ : Str)).length * (("" : Str)).length ≤ 16777216 := by
    rw [h1]
    have : (("" : Str)).length = 0 := rfl
    rw [this, Nat.mul_zero]; omega
  rw [Option.bind_some, if_pos h2, join_signs]
end Z

set_option maxRecDepth 100000
set_option maxHeartbeats 2000000
/-! Z.plain 2: letters in texts and rows -/
namespace Z
open PySem L2
def sgn (c : Nat) : Str := ⟨#[c]⟩
def txt (ls : List Nat) : Str := ⟨ls.toArray⟩
def Low (ls : List Nat) : Prop := ∀ c ∈ ls, c < 1114112
/-- the letters ls, as a text, a list or a tuple -/
def AsD (ls : List Nat) (d : D) : Prop := d = .str (txt ls) ∨ d = .lst ((ls.map sgn).map .str) ∨ d = .tup ((ls.map sgn).map .str)
theorem sgn_inj {a b : Nat} : sgn a = sgn b ↔ a = b := by simp [sgn]
theorem txt_inj {a b : List Nat} : txt a = txt b ↔ a = b := by simp [txt]
theorem sgn_txt (c : Nat) : sgn c = txt [c] := rfl
theorem low_ok {ls : List Nat} (h : Low ls) : ∀ z ∈ ls.map sgn, PyData.strOk z = true := fun z hz => by
  obtain ⟨c, hc, rfl⟩ := List.mem_map.mp hz
  have := h c hc
  simp [PyData.strOk, sgn, this]
theorem strOk_txt {ls : List Nat} (h : Low ls) : PyData.strOk (txt ls) = true := by
  simp [PyData.strOk, txt]
  exact h
theorem sOk_txt {ls : List Nat} (h : Low ls) (hl : ls.length ≤ 10000) : sOk (txt ls) = true := by
  have h2 : (txt ls).length = ls.length := rfl
  have h3 : ls.length ≤ sizeLine := Nat.le_trans hl (by rw [sizeLine_eq]; decide)
  have := strOk_txt h
  simp [sOk, h2, h3, this]
theorem as_items {ls : List Nat} {d : D} (h : AsD ls d) : d.items = some ((ls.map sgn).map .str) := by
  rcases h with rfl | rfl | rfl
  · simp [D.items, txt, sgn]
  · rfl
  · rfl
theorem isIn_str (c : Nat) (ls : List Nat) : D.isIn (.str (sgn c)) (.str (txt ls)) = some (.bl (decide (c ∈ ls))) := by
  have := PySem.StrLaws.found_one (txt ls) c
  unfold D.isIn D.inb
  simp only
  rw [show sgn c = ⟨#[c]⟩ from rfl, this]
  rfl
theorem notIn_str (c : Nat) (ls : List Nat) : D.notIn (.str (sgn c)) (.str (txt ls)) = some (.bl (!decide (c ∈ ls))) := by
  have := PySem.StrLaws.found_one (txt ls) c
  unfold D.notIn D.inb
  simp only
  rw [show sgn c = ⟨#[c]⟩ from rfl, this]
  rfl
theorem strs_any {ls : List Nat} {c : Nat} (p : PyData → Bool) (hp : ∀ a, p (.str (sgn a)) = decide (c = a)) : ((ls.map sgn).map PyData.str).any p = decide (c ∈ ls) := by
  rw [Bool.eq_iff_iff]
  simp [hp]
theorem inb_lst {c : Nat} {ls : List Nat} (hc : c < 1114112) (h : Low ls) : D.inb (.str (sgn c)) (.lst ((ls.map sgn).map .str)) = some (decide (c ∈ ls)) := by
  have h1 := shaped_strs (low_ok h)
  have h2 : SeqAt.shaped (.str (sgn c)) = true := by simp [SeqAt.shaped, PyData.canLay0, PyData.depth, PyData.strOk, sgn, hc]
  have h3 := pyL_strs (ls.map sgn)
  have h4 := strs_any (ls := ls) (c := c) (fun z => PyData.eqv z (.str (sgn c))) fun a => by
    show (sgn a == sgn c) = _
    rw [Bool.eq_iff_iff, beq_iff_eq, sgn_inj, decide_eq_true_iff]; exact eq_comm
  unfold D.inb
  simp only [D.py, h3, h1, h2, Bool.and_self, if_true, h4]
theorem flL_strs : ∀ zs : List Str, D.flL (zs.map .str) = some (zs.map .str)
  | [] => rfl
  | z :: zs => by simp [D.flL, D.fl, flL_strs zs]
theorem inb_tup {c : Nat} {ls : List Nat} : D.inb (.str (sgn c)) (.tup ((ls.map sgn).map .str)) = some (decide (c ∈ ls)) := by
  unfold D.inb
  simp only [D.fl, flL_strs]
  congr 1
  rw [Bool.eq_iff_iff]
  unfold inV
  rw [List.any_eq_true]
  simp only [List.mem_map, decide_eq_true_eq]
  constructor
  · rintro ⟨_, ⟨_, ⟨a, ha, rfl⟩, rfl⟩, h⟩
    have : a = c := by simpa [eqV, sgn] using h
    rwa [← this]
  · intro h
    exact ⟨_, ⟨_, ⟨c, h, rfl⟩, rfl⟩, by simp [eqV]⟩
theorem as_in {c : Nat} {ls : List Nat} {d : D} (hc : c < 1114112) (h : Low ls) (ha : AsD ls d) : D.isIn (.str (sgn c)) d = some (.bl (decide (c ∈ ls))) := by
  rcases ha with rfl | rfl | rfl
  · exact isIn_str c ls
  · unfold D.isIn; rw [inb_lst hc h]; rfl
  · unfold D.isIn; rw [inb_tup]; rfl
theorem lst_notIn {c : Nat} {ls : List Nat} (hc : c < 1114112) (h : Low ls) : D.notIn (.str (sgn c)) (.lst ((ls.map sgn).map .str)) = some (.bl (!decide (c ∈ ls))) := by
  unfold D.notIn; rw [inb_lst hc h]; rfl
/-! ### turns of a loop -/
section
variable {v : Nat} {mb : Env → SRes} {d : D} {ds : List D} {e e2 : Env} {o : O} {x : Exn}
theorem nm_st : (Tgt.nm v).st d e = some (e.set v (some (.val d))) := by simp [Tgt.st]
theorem loop_nx (h : mb (e.set v (some (.val d))) = .nx e2) : loopD (Tgt.nm v).st mb (d :: ds) e = loopD (Tgt.nm v).st mb ds e2 := by simp only [loopD, nm_st, h]
theorem loop_ct (h : mb (e.set v (some (.val d))) = .ct e2) : loopD (Tgt.nm v).st mb (d :: ds) e = loopD (Tgt.nm v).st mb ds e2 := by simp only [loopD, nm_st, h]
theorem loop_bk (h : mb (e.set v (some (.val d))) = .bk e2) : loopD (Tgt.nm v).st mb (d :: ds) e = .nx e2 := by simp only [loopD, nm_st, h]
theorem loop_rt (h : mb (e.set v (some (.val d))) = .rt o e2) : loopD (Tgt.nm v).st mb (d :: ds) e = .rt o e2 := by simp only [loopD, nm_st, h]
theorem loop_err (h : mb (e.set v (some (.val d))) = .err x e2) : loopD (Tgt.nm v).st mb (d :: ds) e = .err x e2 := by simp only [loopD, nm_st, h]
theorem restore_none {e1 e : Env} (h : e1.at v = none) : restore [v] e1 e = e.set v none := by simp [restore, h, clear_one]
end
/-- an exception out of a comprehension's element -/
theorem comp_err {v : Nat} {e0 : Env} {mt : Env → Res Bool} {me : Env → Res RV} {b : D} {post : List D} {x : Exn} {e1 : Env} (h0 : e0.set v none = e0) (hb : mt (e0.set v (some (.val b))) = .ok true (e0.set v (some (.val b)))) (hx : me (e0.set v (some (.val b))) = .err x e1) : ∀ {ds : List D} {acc : List O},
    (∀ d ∈ ds, ∃ f, mt (e0.set v (some (.val d))) = .ok true (e0.set v (some (.val d))) ∧ me (e0.set v (some (.val d))) = .ok (rv f) (e0.set v (some (.val d)))) → compL (Tgt.nm v).st mt me [v] (ds ++ b :: post) acc e0 = .err x e1
  | [], acc, _ => by
    rw [List.nil_append]
    unfold compL
    simp only [nm_st, hb, hx, Res.bind, if_true]
  | d :: ds, acc, h => by
    obtain ⟨f, h1, h2⟩ := h d List.mem_cons_self
    have hr := fun acc => comp_err (mt := mt) (me := me) (post := post) h0 hb hx (ds := ds) (acc := acc) fun d hd => h d (List.mem_cons_of_mem _ hd)
    have hc : clear [v] (e0.set v (some (.val d))) = e0 := by rw [clear_one, set_none_set h0]
    rw [List.cons_append]
    unfold compL
    simp only [nm_st, h1, h2, Res.bind, if_true, RV.take, hc]
    exact hr _
/-- [f x for x in ..] by pairs of what is walked and what comes of it -/
theorem comp_pairs {v : Nat} {e0 : Env} {me : Env → Res RV} (h0 : e0.set v none = e0) : ∀ {ps : List (D × D)} {acc : List O}, (∀ p ∈ ps, me (e0.set v (some (.val p.1))) = .ok (rv p.2) (e0.set v (some (.val p.1)))) →
    compL (Tgt.nm v).st yesD me [v] (ps.map (·.1)) acc e0 = .ok (acc ++ ps.map fun p => .val p.2) e0
  | [], acc, _ => by simp [compL]
  | p :: ps, acc, h => by
    have h2 := h p List.mem_cons_self
    have hr := fun acc => comp_pairs (me := me) h0 (ps := ps) (acc := acc) fun d hd => h d (List.mem_cons_of_mem _ hd)
    have hc : clear [v] (e0.set v (some (.val p.1))) = e0 := by rw [clear_one, set_none_set h0]
    rw [List.map_cons]
    unfold compL
    simp only [nm_st, yesD, h2, Res.bind, if_true, RV.take, hc]
    rw [hr, List.append_assoc]
    rfl
/-- the same, where the rest of the slots may change -/
theorem comp_each {v : Nat} {me : Env → Res RV} (I : Env → Prop) (R : D → O → Prop) : ∀ {ds : List D} {acc : List O} {e0 : Env}, I e0 →
    (∀ d ∈ ds, ∀ e, I e → ∃ a e1 o e2, me (e.set v (some (.val d))) = .ok a e1 ∧ a.take e1 = some (o, e2) ∧ R d o ∧ I (e2.set v none)) →
    ∃ (e1 : Env) (ps : List (D × O)), compL (Tgt.nm v).st yesD me [v] ds acc e0 = .ok (acc ++ ps.map (·.2)) e1 ∧ I e1 ∧ ps.map (·.1) = ds ∧ ∀ p ∈ ps, R p.1 p.2
  | [], acc, e0, hI, _ => ⟨e0, [], by simp [compL], hI, rfl, fun _ h => nomatch h⟩
  | d :: ds, acc, e0, hI, h => by
    obtain ⟨a, e1, o, e2, h1, h2, h3, h4⟩ := h d List.mem_cons_self e0 hI
    obtain ⟨e3, ps, h5, h6, h7, h8⟩ := comp_each I R (ds := ds) (acc := acc ++ [o]) h4 fun d hd => h d (List.mem_cons_of_mem _ hd)
    refine ⟨e3, (d, o) :: ps, ?_, h6, by simp [h7], fun p hp => ?_⟩
    · unfold compL
      simp only [nm_st, yesD, h1, h2, Res.bind, if_true, clear_one]
      rw [h5, List.append_assoc]
      rfl
    · rcases List.mem_cons.mp hp with rfl | hp
      · exact h3
      · exact h8 p hp
theorem at_set_self {e : Env} {v : Nat} {o : O} (h : v < e.length) : Env.at (e.set v (some o)) v = some o := by simp [Env.at, h]
theorem at_set_ne {e : Env} {v w : Nat} {o : Option O} (h : v ≠ w) : Env.at (e.set v o) w = e.at w := by simp [Env.at, h]
/-- [x for x in text if x in other], if x not in other -/
theorem comp_in {v w : Nat} {e0 : Env} {ls one : List Nat} {acc : List O} (h0 : e0.set v none = e0) (hw : e0.at w = some (.val (.str (txt one)))) (hv : v ≠ w) (hl : v < e0.length) :
    compL (Tgt.nm v).st (testD (op2D D.isIn (nameD v) (nameD w))) (nameD v) [v] ((ls.map sgn).map .str) acc e0 = .ok (acc ++ (((ls.filter fun c => decide (c ∈ one)).map sgn).map D.str).map .val) e0 := by
  have h := comp_map (v := v) (mt := testD (op2D D.isIn (nameD v) (nameD w))) (me := nameD v) (t := fun d => match D.isIn d (.str (txt one)) with | some (.bl b) => b | _ => false) (f := fun d => d) (e0 := e0) h0 (ds := (ls.map sgn).map .str) (acc := acc) fun d hd => by
    simp only [List.mem_map] at hd
    obtain ⟨_, ⟨c, hc, rfl⟩, rfl⟩ := hd
    have := isIn_str c one
    have h1 : Env.at (e0.set v (some (.val (.str (sgn c))))) v = some (.val (.str (sgn c))) := at_set_self hl
    have h2 : Env.at (e0.set v (some (.val (.str (sgn c))))) w = some (.val (.str (txt one))) := (at_set_ne hv).trans hw
    refine ⟨?_, fun _ => by simp only [nameD, h1]⟩
    simp only [testD, op2D, nameD, h1, h2, Res.bind, RV.fz, RV.get, Option.map_some, Option.bind_some, O.fz, this, scal, sv, Option.isSome_some, if_true, Res.of, RV.bool]
  rw [h]
  congr 2
  rw [List.map_map, List.filter_map, List.filter_congr (q := fun c => decide (c ∈ one)) fun c hc => by
    have := isIn_str c one
    simp [this], List.map_map, List.map_map, List.map_map]
  rfl
theorem comp_notIn {v w : Nat} {e0 : Env} {ls one : List Nat} {acc : List O} (h0 : e0.set v none = e0) (hw : e0.at w = some (.val (.str (txt one)))) (hv : v ≠ w) (hl : v < e0.length) :
    compL (Tgt.nm v).st (testD (op2D D.notIn (nameD v) (nameD w))) (nameD v) [v] ((ls.map sgn).map .str) acc e0 = .ok (acc ++ (((ls.filter fun c => !decide (c ∈ one)).map sgn).map D.str).map .val) e0 := by
  have h := comp_map (v := v) (mt := testD (op2D D.notIn (nameD v) (nameD w))) (me := nameD v) (t := fun d => match D.notIn d (.str (txt one)) with | some (.bl b) => b | _ => false) (f := fun d => d) (e0 := e0) h0 (ds := (ls.map sgn).map .str) (acc := acc) fun d hd => by
    simp only [List.mem_map] at hd
    obtain ⟨_, ⟨c, hc, rfl⟩, rfl⟩ := hd
    have := notIn_str c one
    have h1 : Env.at (e0.set v (some (.val (.str (sgn c))))) v = some (.val (.str (sgn c))) := at_set_self hl
    have h2 : Env.at (e0.set v (some (.val (.str (sgn c))))) w = some (.val (.str (txt one))) := (at_set_ne hv).trans hw
    refine ⟨?_, fun _ => by simp only [nameD, h1]⟩
    simp only [testD, op2D, nameD, h1, h2, Res.bind, RV.fz, RV.get, Option.map_some, Option.bind_some, O.fz, this, scal, sv, Option.isSome_some, if_true, Res.of, RV.bool]
  rw [h]
  congr 2
  rw [List.map_map, List.filter_map, List.filter_congr (q := fun c => !decide (c ∈ one)) fun c hc => by
    have := notIn_str c one
    simp [this], List.map_map, List.map_map, List.map_map]
  rfl
/-- a walk through a text -/
theorem txt_items (ls : List Nat) : D.items (.str (txt ls)) = some ((ls.map sgn).map .str) := as_items (.inl rfl)
theorem eqb_strs_nil {ls : List (List Nat)} (h : ∀ t ∈ ls, Low t) : D.eqb (.lst ((ls.map txt).map .str)) (.lst []) = some ls.isEmpty := by
  rw [eqb_nil (zs := ls.map txt) fun z hz => by
    obtain ⟨t, ht, rfl⟩ := List.mem_map.mp hz
    exact strOk_txt (h t ht)]
  cases ls <;> rfl
theorem eq_signs_nil {ls : List Nat} (h : Low ls) : D.eq (.lst ((ls.map sgn).map .str)) (.lst []) = some (.bl ls.isEmpty) := by
  unfold D.eq
  rw [eqb_nil (low_ok h)]
  cases ls <;> rfl
theorem fzL_mv {α : Type} (f : α → D) : ∀ l : List α, fzL (l.map fun a => O.val (f a)) = l.map f
  | [] => rfl
  | a :: l => by rw [List.map_cons, List.map_cons, ← fzL_mv f l]; rfl
theorem vals_mv {α : Type} (f : α → D) : ∀ l : List α, vals (l.map fun a => O.val (f a)) = some (l.map f)
  | [] => rfl
  | a :: l => by rw [List.map_cons, List.map_cons]; show (vals _).map _ = _; rw [vals_mv f l]; rfl
theorem fzL_append : ∀ a b : List O, fzL (a ++ b) = fzL a ++ fzL b
  | [], _ => rfl
  | o :: a, b => by show O.fz o :: fzL (a ++ b) = O.fz o :: (fzL a ++ fzL b); rw [fzL_append a b]
theorem joinAF_txt {ls : List Nat} (h : ls.length ≤ 1000000) : joinAF "" (.str (txt ls)) = some (.str (txt ls)) := by
  have e1 : signs (txt ls) = ls.map fun c => (⟨#[c]⟩ : Str) := rfl
  have h2 : ((ls.map fun c => (⟨#[c]⟩ : Str)).map (·.length)).sum + (ls.map fun c => (⟨#[c]⟩ : Str)).length * (("" : Str)).length ≤ 16777216 := by
    have e0 : (("" : Str)).length = 0 := rfl
    rw [sum_signs, e0]
    omega
  unfold joinAF
  simp only [e1]
  rw [if_pos h2, join_signs]
  rfl
theorem choose_map {α β : Type} {P : α → Prop} {f : α → β} : ∀ {l : List β}, (∀ b ∈ l, ∃ a, P a ∧ b = f a) → ∃ as : List α, l = as.map f ∧ as.length = l.length ∧ ∀ a ∈ as, P a
  | [], _ => ⟨[], rfl, rfl, fun _ h => nomatch h⟩
  | b :: l, h => by
    obtain ⟨a, h1, h2⟩ := h b List.mem_cons_self
    obtain ⟨as, h3, h4, h5⟩ := choose_map (l := l) fun b' hb => h b' (List.mem_cons_of_mem _ hb)
    refine ⟨a :: as, by rw [List.map_cons, h2, h3], by simp [h4], fun x hx => ?_⟩
    rcases List.mem_cons.mp hx with rfl | hx
    · exact h1
    · exact h5 x hx
theorem seq_nx {m1 m2 : Env → SRes} {e e1 : Env} (h : m1 e = .nx e1) : seqD m1 m2 e = m2 e1 := by simp only [seqD, h]
theorem rangeL_len (i j : Int) : (rangeL i j).length = (j - i).toNat := by unfold rangeL; simp
theorem loop_nil {st : D → Env → Option Env} {mb : Env → SRes} {e : Env} : loopD st mb [] e = .nx e := rfl
end Z

set_option maxRecDepth 100000
set_option maxHeartbeats 2000000
/-! Z.plain 3: what repr makes, same or not -/
namespace Z
open PySem L2
theorem sizeLine_le : 16777216 ≤ sizeLine := by rw [sizeLine_eq]; decide
theorem strOk_of {s : Str} (h : ∀ c ∈ s.cps.toList, c < 1114112) : PyData.strOk s = true := by
  unfold PyData.strOk
  rw [← Array.all_toList, List.all_eq_true]
  intro c hc
  exact decide_eq_true (h c hc)
theorem of_strOk {s : Str} (h : PyData.strOk s = true) : ∀ c ∈ s.cps.toList, c < 1114112 := by
  unfold PyData.strOk at h
  rw [← Array.all_toList, List.all_eq_true] at h
  intro c hc
  exact of_decide_eq_true (h c hc)
theorem strOk_app {a b : Str} (ha : PyData.strOk a = true) (hb : PyData.strOk b = true) : PyData.strOk (a ++ b) = true := by
  refine strOk_of fun c hc => ?_
  rw [str_app, Array.toList_append] at hc
  rcases List.mem_append.mp hc with h | h
  · exact of_strOk ha c h
  · exact of_strOk hb c h
theorem char_lt (x : Char) : x.toNat < 1114112 := by
  have := x.valid
  have e : x.toNat = x.val.toNat := rfl
  rw [e]
  simp only [UInt32.isValidChar, Nat.isValidChar] at this
  omega
theorem strOk_ofString (s : String) : PyData.strOk (Str.ofString s) = true := by
  refine strOk_of fun c hc => ?_
  rw [Str.ofString_eq_toList] at hc
  simp only [List.mem_map] at hc
  obtain ⟨x, _, rfl⟩ := hc
  exact char_lt x
theorem reprChar_lt {q c : Nat} (hq : q < 1114112) (hc : c < 1114112) : ∀ b ∈ Builtin.Str.reprChar q c, b < 1114112 := by
  intro b hb
  unfold Builtin.Str.reprChar at hb
  have hex : ∀ w, ∀ b ∈ List.replicate (w - ((Nat.toDigits 16 c).map Char.toNat).length) 48 ++ (Nat.toDigits 16 c).map Char.toNat, b < 1114112 := fun w b hb => by
    rcases List.mem_append.mp hb with h | h
    · rw [List.eq_of_mem_replicate h]; decide
    · obtain ⟨x, _, rfl⟩ := List.mem_map.mp h
      exact char_lt x
  dsimp only at hb
  split at hb
  · rcases List.mem_cons.mp hb with rfl | hb
    · decide
    · rw [List.mem_singleton.mp hb]; exact hc
  split at hb
  · simp only [List.mem_cons, List.not_mem_nil, or_false] at hb; omega
  split at hb
  · simp only [List.mem_cons, List.not_mem_nil, or_false] at hb; omega
  split at hb
  · simp only [List.mem_cons, List.not_mem_nil, or_false] at hb; omega
  split at hb
  · rw [List.mem_singleton.mp hb]; exact hc
  split at hb
  · rcases List.mem_append.mp hb with hb | hb
    · simp only [List.mem_cons, List.not_mem_nil, or_false] at hb; omega
    · exact hex _ b hb
  split at hb
  · rcases List.mem_append.mp hb with hb | hb
    · simp only [List.mem_cons, List.not_mem_nil, or_false] at hb; omega
    · exact hex _ b hb
  · rcases List.mem_append.mp hb with hb | hb
    · simp only [List.mem_cons, List.not_mem_nil, or_false] at hb; omega
    · exact hex _ b hb
theorem strOk_repr {x : Str} (h : PyData.strOk x = true) : PyData.strOk (reprText x) = true := by
  have hq : reprQuote x < 1114112 := by unfold reprQuote; split <;> decide
  have key : ∀ (l : List Nat) (acc : Array Nat), (∀ c ∈ l, c < 1114112) → (∀ c ∈ acc.toList, c < 1114112) → ∀ c ∈ (l.foldl (fun out c => out ++ (Builtin.Str.reprChar (reprQuote x) c).toArray) acc).toList, c < 1114112 := by
    intro l
    induction l with
    | nil => intro acc _ h2; exact h2
    | cons a r ih =>
      intro acc h1 h2
      rw [List.foldl_cons]
      refine ih _ (fun c hc => h1 c (List.mem_cons_of_mem _ hc)) fun c hc => ?_
      rw [Array.toList_append] at hc
      rcases List.mem_append.mp hc with hc | hc
      · exact h2 c hc
      · exact reprChar_lt hq (h1 a List.mem_cons_self) c (by simpa using hc)
  refine strOk_of fun c hc => ?_
  unfold reprText at hc
  rw [Array.toList_push, ← Array.foldl_toList] at hc
  rcases List.mem_append.mp hc with hc | hc
  · exact key _ _ (of_strOk h) (fun c hc => by simp only [List.mem_singleton] at hc; omega) c hc
  · rw [List.mem_singleton.mp hc]; exact hq
theorem strOk_from : ∀ (ts : List Str) (k : Nat) (acc : Str), PyData.strOk acc = true → (∀ t ∈ ts, PyData.strOk t = true) → PyData.strOk (textFrom k acc ts) = true
  | [], _, _, h, _ => h
  | t :: ts, k, acc, h, ht => strOk_from ts (k + 1) _ (strOk_app (strOk_app h (strOk_ofString _)) (ht t List.mem_cons_self)) fun t' h' => ht t' (List.mem_cons_of_mem _ h')
theorem strOk_join (sep : Str) (hs : PyData.strOk sep = true) : ∀ (ts : List Str), (∀ t ∈ ts, PyData.strOk t = true) → PyData.strOk (Str.join sep ts) = true
  | [], _ => strOk_of fun c hc => by simp [Str.join, Str.empty] at hc
  | [t], h => h t List.mem_cons_self
  | t :: u :: ts, h => strOk_app (strOk_app (h t List.mem_cons_self) hs) (strOk_join sep hs (u :: ts) fun t' h' => h t' (List.mem_cons_of_mem _ h'))
/-! ### what may be shown: n signs, k deep -/
structure Sho (n k : Nat) (p : PyData) : Prop where
  show_ : p.showable = true
  noDict : p.hasDict = false
  deep : p.depth ≤ k
  len : p.shown.length ≤ n
  ok : PyData.strOk p.shown = true
def ShoD (n k : Nat) (d : D) : Prop := ∃ p, d.py = some p ∧ Sho n k p
theorem Sho.mono {n k n' k' : Nat} {p : PyData} (h : Sho n k p) (hn : n ≤ n') (hk : k ≤ k') : Sho n' k' p := ⟨h.1, h.2, Nat.le_trans h.3 hk, Nat.le_trans h.4 hn, h.5⟩
theorem ShoD.mono {n k n' k' : Nat} {d : D} (h : ShoD n k d) (hn : n ≤ n') (hk : k ≤ k') : ShoD n' k' d := let ⟨p, e, s⟩ := h; ⟨p, e, s.mono hn hk⟩
theorem sho_non : ShoD 4 0 .non := ⟨.none, rfl, rfl, rfl, Nat.le_refl _, by decide +kernel, strOk_ofString _⟩
theorem sho_bl (b : Bool) : ShoD 5 0 (.bl b) := ⟨.bool b, rfl, rfl, rfl, Nat.le_refl _, by cases b <;> decide +kernel, by cases b <;> exact strOk_ofString _⟩
theorem sho_int {i : Int} {m : Nat} (hm : 0 < m) (h : i.natAbs < 10 ^ m) (h5 : m ≤ 500) : ShoD (m + 1) 0 (.int i) := by
  refine ⟨.int i, rfl, ?_, rfl, Nat.le_refl _, ?_, strOk_ofString _⟩
  · have h1 : i.natAbs < 2 ^ 1920 := Nat.lt_of_lt_of_le h (Nat.le_trans (Nat.pow_le_pow_right (by decide) h5) (by decide +kernel))
    show decide (i.natAbs.log2 < 1920) = true
    rw [decide_eq_true_iff]
    by_cases h0 : i.natAbs = 0
    · rw [h0]; decide
    · exact (Nat.log2_lt h0).mpr h1
  · have := int_text_length_le10 hm h
    show (Str.ofString (toString i)).length ≤ _
    rw [ofString_length]
    exact this
theorem sho_str {s : Str} (h : PyData.strOk s = true) : ShoD (10 * s.length + 2) 0 (.str s) :=
  ⟨.str s, rfl, rfl, rfl, Nat.le_refl _, PySem.StrLaws.reprText_len s fun c hc => Nat.lt_trans (of_strOk h c hc) (by decide), strOk_repr h⟩
theorem sho_all {n k : Nat} : ∀ {ds : List D}, (∀ d ∈ ds, ShoD n k d) → ∃ ps, pyL ds = some ps ∧ ps.length = ds.length ∧ PyData.showableAll ps = true ∧ PyData.hasDictAll ps = false ∧ PyData.depthAll ps ≤ k ∧ ((PyData.shownAll ps).map (·.length)).sum ≤ n * ds.length ∧ ∀ t ∈ PyData.shownAll ps, PyData.strOk t = true
  | [], _ => ⟨[], rfl, rfl, rfl, rfl, Nat.zero_le _, Nat.le_refl _, fun _ h => nomatch h⟩
  | d :: ds, h => by
    obtain ⟨p, e, s⟩ := h d List.mem_cons_self
    obtain ⟨ps, e', h1, h2, h3, h4, h5, h6⟩ := sho_all (ds := ds) fun d' h' => h d' (List.mem_cons_of_mem _ h')
    refine ⟨p :: ps, by simp [pyL, e, e'], by simp [h1], by simp [PyData.showableAll, s.1, h2], by simp [PyData.hasDictAll, s.2, h3], ?_, ?_, fun t ht => ?_⟩
    · have := s.3
      simp only [PyData.depthAll]
      omega
    · have := s.4
      simp only [PyData.shownAll, List.map_cons, List.sum_cons, List.length_cons, Nat.mul_succ]
      omega
    · simp only [PyData.shownAll, List.mem_cons] at ht
      rcases ht with rfl | ht
      · exact s.5
      · exact h6 t ht
theorem sho_lst {n k : Nat} {ds : List D} (h : ∀ d ∈ ds, ShoD n k d) : ShoD (n * ds.length + 2 * ds.length + 4) (k + 1) (.lst ds) := by
  obtain ⟨ps, e, h1, h2, h3, h4, h5, h6⟩ := sho_all h
  refine ⟨.list ps, by simp [D.py, e], h2, h3, by simp only [PyData.depth]; omega, ?_, ?_⟩
  · have := listText_len_le (PyData.shownAll ps)
    have h7 := PyData.shownAll_length ps
    simp only [PyData.shown]
    omega
  · exact strOk_app (strOk_from _ _ _ (strOk_ofString _) h6) (strOk_ofString _)
theorem sho_tup {n k : Nat} {ds : List D} (h : ∀ d ∈ ds, ShoD n k d) : ShoD (n * ds.length + 2 * ds.length + 4) (k + 1) (.tup ds) := by
  obtain ⟨ps, e, h1, h2, h3, h4, h5, h6⟩ := sho_all h
  refine ⟨.tuple ps, by simp [D.py, e], h2, h3, by simp only [PyData.depth]; omega, ?_, ?_⟩
  · have := tupleText_len_le (PyData.shownAll ps)
    have h7 := PyData.shownAll_length ps
    simp only [PyData.shown]
    omega
  · exact strOk_app (strOk_app (strOk_ofString _) (strOk_join _ (strOk_ofString _) _ h6)) (strOk_ofString _)
def shownD (d : D) : Str := (d.py.getD .none).shown
theorem repr_sho {n k : Nat} {d : D} (h : ShoD n k d) (hn : n ≤ 16777216) (hk : k ≤ 32) : reprF [d] = some (.str (shownD d)) ∧ sOk (shownD d) = true := by
  obtain ⟨p, e, s⟩ := h
  have h1 := Nat.le_trans (Nat.le_trans s.4 hn) sizeLine_le
  have h2 := Nat.le_trans s.3 hk
  have e2 : shownD d = p.shown := by simp [shownD, e]
  have h3 : sOk p.shown = true := by simp [sOk, h1, s.5]
  rw [e2]
  refine ⟨?_, h3⟩
  simp [reprF, e, reprOk, s.1, s.2, h2, h3]
theorem eqb_str {s t : Str} (hs : PyData.strOk s = true) (ht : PyData.strOk t = true) : D.eqb (.str s) (.str t) = some (s == t) := by
  unfold D.eqb
  have h : ∀ {s : Str}, PyData.strOk s = true → SeqAt.shaped (.str s) = true := fun {s} h => by
    simp [SeqAt.shaped, PyData.canLay0, PyData.depth, h]
  simp only [D.py, h hs, h ht, Bool.and_self, if_true]
  rfl
theorem sOk_strOk {s : Str} (h : sOk s = true) : PyData.strOk s = true := by
  unfold sOk at h
  rw [Bool.and_eq_true] at h
  exact h.2
theorem eq_same {s : Str} (h : sOk s = true) : D.eq (.str s) (.str s) = some (.bl true) := by
  unfold D.eq
  rw [eqb_str (sOk_strOk h) (sOk_strOk h)]
  simp
theorem ne_same {s : Str} (h : sOk s = true) : D.ne (.str s) (.str s) = some (.bl false) := by
  unfold D.ne
  rw [eqb_str (sOk_strOk h) (sOk_strOk h)]
  simp
end Z

set_option maxRecDepth 100000
set_option maxHeartbeats 4000000
namespace K65
open PySem L2 PySem.Spec PyProof.Rows Z
/-! ### the text -/
abbrev pw : Program := PySem.Challenge.pw_rueless_k65_least_sets_that_meet
def top (i : Nat) : Stmt := pw.main.body.getD i (.Pass ⟨0, 0, 0, 0⟩)
def cbody : Stmt → List Stmt
  | .ClassDef _ _ _ b .. => b
  | _ => []
abbrev st__law_well : Stmt := top 16
abbrev st__law_draw : Stmt := top 17
abbrev st__law_one : Stmt := top 18
abbrev st__law_sets : Stmt := top 19
abbrev st__law_bad : Stmt := top 24
abbrev st__law_told : Stmt := top 21
abbrev st__law_meets : Stmt := top 22
abbrev st_is_text : Stmt := top 5
abbrev st_is_sequence : Stmt := top 6
abbrev st_is_letter_of : Stmt := top 7
abbrev st_kinds_of : Stmt := top 9
abbrev st_sets_of : Stmt := top 12
abbrev st_kind_sets : Stmt := top 10
abbrev st_lesser_sets : Stmt := top 11
abbrev st_meeting_sets : Stmt := top 14
abbrev st_complement_sets : Stmt := top 13
abbrev st__law_answer : Stmt := top 23
abbrev st__law_in : Stmt := top 20
abbrev st_law : Stmt := top 25
abbrev sx_NoLetter : Stmt := (cbody (top 2)).getD 0 (.Pass ⟨0, 0, 0, 0⟩)
/-! ### types -/
def tyl : List ((Ty × Ty) × Bool) := [((.b "NoneType", .b "str"), false), ((.b "NoneType", .b "list"), false), ((.b "NoneType", .b "tuple"), false), ((.b "NoneType", .b "int"), false), ((.b "NoneType", .b "bool"), false), ((.b "NoneType", .b "dict"), false), ((.b "bool", .b "str"), false), ((.b "bool", .b "list"), false), ((.b "bool", .b "tuple"), false), ((.b "bool", .b "int"), true), ((.b "bool", .b "bool"), true), ((.b "bool", .b "dict"), false), ((.b "int", .b "str"), false), ((.b "int", .b "list"), false), ((.b "int", .b "tuple"), false), ((.b "int", .b "int"), true), ((.b "int", .b "bool"), false), ((.b "int", .b "dict"), false), ((.b "str", .b "str"), true), ((.b "str", .b "list"), false), ((.b "str", .b "tuple"), false), ((.b "str", .b "int"), false), ((.b "str", .b "bool"), false), ((.b "str", .b "dict"), false), ((.b "tuple", .b "str"), false), ((.b "tuple", .b "list"), false), ((.b "tuple", .b "tuple"), true), ((.b "tuple", .b "int"), false), ((.b "tuple", .b "bool"), false), ((.b "tuple", .b "dict"), false), ((.b "list", .b "str"), false), ((.b "list", .b "list"), true), ((.b "list", .b "tuple"), false), ((.b "list", .b "int"), false), ((.b "list", .b "bool"), false), ((.b "list", .b "dict"), false), ((.b "dict", .b "str"), false), ((.b "dict", .b "list"), false), ((.b "dict", .b "tuple"), false), ((.b "dict", .b "int"), false), ((.b "dict", .b "bool"), false), ((.b "dict", .b "dict"), true), ((.o 1, .o 0), false), ((.o 1, .o 1), true)]
def Tb : IsT := ⟨tabTy tyl, [], [1]⟩
def ct__law_answer_0 : Nat → Option Bool := fun k => [(1, true)].lookup k
/-! ### what is known of the written part -/
structure Wd (P : Program) (c : Cf) (mg : Str → Option Value) : Prop where
  d__law_well : ∃ fd, FunD c.K "_law_well" "_law_well" (defArgs st__law_well) (defBody st__law_well) (defScope st__law_well) [] [] (c.fn 9) fd
  d__law_draw : ∃ fd, FunD c.K "_law_draw" "_law_draw" (defArgs st__law_draw) (defBody st__law_draw) (defScope st__law_draw) [] [] (c.fn 10) fd
  d__law_one : ∃ fd, FunD c.K "_law_one" "_law_one" (defArgs st__law_one) (defBody st__law_one) (defScope st__law_one) [] [] (c.fn 11) fd
  d__law_sets : ∃ fd, FunD c.K "_law_sets" "_law_sets" (defArgs st__law_sets) (defBody st__law_sets) (defScope st__law_sets) [] [] (c.fn 12) fd
  d__law_bad : ∃ fd, FunD c.K "_law_bad" "_law_bad" (defArgs st__law_bad) (defBody st__law_bad) (defScope st__law_bad) [] [] (c.fn 17) fd
  d__law_told : ∃ fd, FunD c.K "_law_told" "_law_told" (defArgs st__law_told) (defBody st__law_told) (defScope st__law_told) [] [] (c.fn 14) fd
  d__law_meets : ∃ fd, FunD c.K "_law_meets" "_law_meets" (defArgs st__law_meets) (defBody st__law_meets) (defScope st__law_meets) [] [] (c.fn 15) fd
  d_is_text : ∃ fd, FunD c.K "is_text" "is_text" (defArgs st_is_text) (defBody st_is_text) (defScope st_is_text) [] [] (c.fn 0) fd
  d_is_sequence : ∃ fd, FunD c.K "is_sequence" "is_sequence" (defArgs st_is_sequence) (defBody st_is_sequence) (defScope st_is_sequence) [] [] (c.fn 1) fd
  d_is_letter_of : ∃ fd, FunD c.K "is_letter_of" "is_letter_of" (defArgs st_is_letter_of) (defBody st_is_letter_of) (defScope st_is_letter_of) [] [] (c.fn 2) fd
  d_kinds_of : ∃ fd, FunD c.K "kinds_of" "kinds_of" (defArgs st_kinds_of) (defBody st_kinds_of) (defScope st_kinds_of) [] [] (c.fn 3) fd
  d_sets_of : ∃ fd, FunD c.K "sets_of" "sets_of" (defArgs st_sets_of) (defBody st_sets_of) (defScope st_sets_of) [] [] (c.fn 6) fd
  d_kind_sets : ∃ fd, FunD c.K "kind_sets" "kind_sets" (defArgs st_kind_sets) (defBody st_kind_sets) (defScope st_kind_sets) [] [] (c.fn 4) fd
  d_lesser_sets : ∃ fd, FunD c.K "lesser_sets" "lesser_sets" (defArgs st_lesser_sets) (defBody st_lesser_sets) (defScope st_lesser_sets) [] [] (c.fn 5) fd
  d_meeting_sets : ∃ fd, FunD c.K "meeting_sets" "meeting_sets" (defArgs st_meeting_sets) (defBody st_meeting_sets) (defScope st_meeting_sets) [] [] (c.fn 8) fd
  d_complement_sets : ∃ fd, FunD c.K "complement_sets" "complement_sets" (defArgs st_complement_sets) (defBody st_complement_sets) (defScope st_complement_sets) [] [] (c.fn 7) fd
  d__law_answer : ∃ fd, FunD c.K "_law_answer" "_law_answer" (defArgs st__law_answer) (defBody st__law_answer) (defScope st__law_answer) [] [] (c.fn 16) fd
  d__law_in : ∃ fd, FunD c.K "_law_in" "_law_in" (defArgs st__law_in) (defBody st__law_in) (defScope st__law_in) [] [] (c.fn 13) fd
  d_law : ∃ fd, FunD c.K "law" "law" (defArgs st_law) (defBody st_law) (defScope st_law) [] [] (c.fn 18) fd
  g__law_answer : mg "_law_answer" = some (.ref (c.fn 16))
  g__law_bad : mg "_law_bad" = some (.ref (c.fn 17))
  g__law_draw : mg "_law_draw" = some (.ref (c.fn 10))
  g__law_in : mg "_law_in" = some (.ref (c.fn 13))
  g__law_meets : mg "_law_meets" = some (.ref (c.fn 15))
  g__law_one : mg "_law_one" = some (.ref (c.fn 11))
  g__law_sets : mg "_law_sets" = some (.ref (c.fn 12))
  g__law_told : mg "_law_told" = some (.ref (c.fn 14))
  g__law_well : mg "_law_well" = some (.ref (c.fn 9))
  g_complement_sets : mg "complement_sets" = some (.ref (c.fn 7))
  g_is_letter_of : mg "is_letter_of" = some (.ref (c.fn 2))
  g_is_sequence : mg "is_sequence" = some (.ref (c.fn 1))
  g_is_text : mg "is_text" = some (.ref (c.fn 0))
  g_kind_sets : mg "kind_sets" = some (.ref (c.fn 4))
  g_kinds_of : mg "kinds_of" = some (.ref (c.fn 3))
  g_lesser_sets : mg "lesser_sets" = some (.ref (c.fn 5))
  g_meeting_sets : mg "meeting_sets" = some (.ref (c.fn 8))
  g_sets_of : mg "sets_of" = some (.ref (c.fn 6))
  g_NoLetter : mg "NoLetter" = some (.ref (c.cls 1))
  g_RuelessError : mg "RuelessError" = some (.ref (c.cls 0))
  g_KINDS : ∃ t, mg "KINDS" = some (.str "abcd" t)
  n_abs : mg "abs" = none
  n_all : mg "all" = none
  n_any : mg "any" = none
  n_int : mg "int" = none
  n_isinstance : mg "isinstance" = none
  n_len : mg "len" = none
  n_list : mg "list" = none
  n_range : mg "range" = none
  n_repr : mg "repr" = none
  n_sorted : mg "sorted" = none
  n_str : mg "str" = none
  n_super : mg "super" = none
  n_tuple : mg "tuple" = none
  tab : TabOk c Tb
  x_NoLetter : Ext P.main.file c.K "LookupError.__new__" "KeyError.__init__" "LookupError" "KeyError" bmK "letter" "letter" (c.cls 1) (He.fAd c.K ("NoLetter", some "__init__"))
  top : (P.main.scope.names.lookup ("super" : Str)).isSome = false
  xf_letter : ∀ k, ([1] : List Nat).contains k = true → XfC c.K (c.cls k) ∧ PySem.W.findIn c.K (.ref (c.cls k)) "letter" = some none
  ct__law_answer_0 : ∀ k b, ct__law_answer_0 k = some b → PySem.W.exmOne c.K (.ref (c.cls k)) (.ref (c.cls 1)) = some b
noncomputable section
variable {P : Program} {w : World} {c : Cf} {mg : Str → Option Value} {base : Heap}
theorem sc__law_well : FnScope ["script", "k", "seed", "cell"] ["script", "k"] (defScope st__law_well) := ⟨rfl, rfl, rfl, by decide +kernel, rfl, by decide +kernel, by decide +kernel⟩
def lb__law_well_1 : Z.Env → SRes := (setD 2 (addD (op2D D.mod (callD intF (consA (addD (op2D D.mul (nameD 2) (conD (.int 16807))) (op2D D.mod (callD intF (consA (callD absF (consA (callD intF (consA (nameD 3) nilA)) nilA)) nilA)) (conD (.int 1000003)))) nilA)) (conD (.int 2147483629))) (conD (.int 1))))
def m__law_well : Z.Env → SRes := (seqD (ifS (andD (testD (op2D D.lt (nameD 1) (callD lenF (consA (nameD 0) nilA)))) (testD (op2D D.ge (callD absF (consA (callD intF (consA (ixD (nameD 0) (nameD 1)) nilA)) nilA)) (op2D D.pow (conD (.int 10)) (conD (.int 18))))))
  (rtD [0, 1] (lstD (consA (callD absF (consA (callD intF (consA (ixD (nameD 0) (nameD 1)) nilA)) nilA)) (consA (addD (op2D D.mul (conD (.int 7)) (nameD 1)) (conD (.int 3))) nilA)))) passD)
  (seqD (setD 2 (addD (op2D D.mul (conD (.int 977)) (nameD 1)) (conD (.int 41))))
  (seqD (forS (srcD (slD (flatD (nameD 0)) noneP (someP (conD (.int 40))))) (.nm 3)
  lb__law_well_1)
  (rtD [0, 1] (lstD (consA (conD (.int 0)) (consA (nameD 2) nilA)))))))
theorem ex__law_well : ∃ G : List O → CRes, G = fnD 4 [0, 1] m__law_well := ⟨_, rfl⟩
def F__law_well : List O → CRes := Classical.choose ex__law_well
theorem eq__law_well : F__law_well = fnD 4 [0, 1] m__law_well := Classical.choose_spec ex__law_well
theorem ok__law_well (h : Wd P c mg) {fd : FuncData} (F : FunD c.K "_law_well" "_law_well" (defArgs st__law_well) (defBody st__law_well) (defScope st__law_well) [] [] (c.fn 9) fd) : FnG P w c.K mg base (L2.CX P w) 1 (c.fn 9) fd ["script", "k"] (spD c 2 F__law_well) := by
  rw [eq__law_well]
  have sc := sc__law_well
  exact fnG_mk F sc fun cdv A outer s H E σ0 hr hgd =>
  (s_seq (s_if (t_w (t_and (t_cmp op_ltA sc_lt (d_name (pv 1)) (d_callS (sc_len rfl) (pe_callB call_len rfl h.n_len rfl (a_cons (d_name (pv 0)) a_nil))) rfl) (t_and1 (t_cmp op_ge sc_ge (d_callS sc_abs (pe_callB call_abs rfl h.n_abs rfl (a_cons (d_callS sc_int (pe_callTy call_int1 rfl h.n_int rfl (a_cons (d_ix hr.units rfl (d_name (pv 0)) (d_name (pv 1))) a_nil))) a_nil))) (d_bin op_pow sc_pow d_int d_int) rfl)))) (s_one (s_ret (d_lst (a_cons (d_callS sc_abs (pe_callB call_abs rfl h.n_abs rfl (a_cons (d_callS sc_int (pe_callTy call_int1 rfl h.n_int rfl (a_cons (d_ix hr.units rfl (d_name (pv 0)) (d_name (pv 1))) a_nil))) a_nil))) (a_cons (d_add rfl (d_bin op_mul sc_mul d_int (d_name (pv 1))) d_int) a_nil))))) s_nil)
  (s_seq (s_set sc.nd rfl (Or.inl rfl) (d_add rfl (d_bin op_mul sc_mul d_int (d_name (pv 1))) d_int))
  (s_seq (s_for bx_po rfl (i_seq rfl (d_sl rfl (d_flat (d_name (pv 0))) p_none (p_some d_int))) (tg_nm rfl sc.nd rfl (by first | exact Or.inl rfl | exact Or.inr rfl)) (s_one (s_set sc.nd rfl (Or.inl rfl) (d_add rfl (d_bin op_mod sc_mod (d_callS sc_int (pe_callTy call_int1 rfl h.n_int rfl (a_cons (d_add rfl (d_bin op_mul sc_mul (d_name (pv 2)) d_int) (d_bin op_mod sc_mod (d_callS sc_int (pe_callTy call_int1 rfl h.n_int rfl (a_cons (d_callS sc_abs (pe_callB call_abs rfl h.n_abs rfl (a_cons (d_callS sc_int (pe_callTy call_int1 rfl h.n_int rfl (a_cons (d_name (pv 3)) a_nil))) a_nil))) a_nil))) d_int)) a_nil))) d_int) d_int))))
  (s_one (s_ret (d_lst (a_cons d_int (a_cons (d_name (pv 2)) a_nil))))))))
theorem cs__law_well_2 (h : Wd P c mg) : CallS P w c c.K mg base 1 2 [] (c.fn 9) [0, 1] [] F__law_well :=
  let ⟨_, F⟩ := h.d__law_well
  callS_of (ok__law_well h F) F 2 [] [0, 1] rfl (by decide) (by decide) fun _ _ _ _ _ _ us ws h1 h2 => match us, ws, h1, h2 with | [_, _], [], _, _ => rfl
theorem sc__law_draw : FnScope ["well", "many", "figure", "mixed"] ["well", "many"] (defScope st__law_draw) := ⟨rfl, rfl, rfl, by decide +kernel, rfl, by decide +kernel, by decide +kernel⟩
def m__law_draw : Z.Env → SRes := (seqD (ifS (testD (op2D D.gt (ixD (nameD 0) (conD (.int 0))) (conD (.int 0))))
  (seqD (setD 2 (op2D D.mod (callD intF (consA (ixD (nameD 0) (conD (.int 0))) nilA)) (nameD 1)))
  (seqD (setIxD (nameD 0) (conD (.int 0)) (op2D D.fdiv (ixD (nameD 0) (conD (.int 0))) (nameD 1)))
  (rtD [0, 1] (nameD 2)))) passD)
  (seqD (setIxD (nameD 0) (conD (.int 1)) (op2D D.mod (callD intF (consA (addD (op2D D.mul (ixD (nameD 0) (conD (.int 1))) (conD (.int 48271))) (conD (.int 11))) nilA)) (conD (.int 2147483647))))
  (seqD (setD 3 (op2D D.mod (callD intF (consA (op2D D.mul (addD (op2D D.fdiv (ixD (nameD 0) (conD (.int 1))) (conD (.int 7))) (ixD (nameD 0) (conD (.int 1)))) (conD (.int 69621))) nilA)) (conD (.int 2147483563))))
  (rtD [0, 1] (op2D D.mod (callD intF (consA (op2D D.fdiv (nameD 3) (conD (.int 1021))) nilA)) (nameD 1))))))
theorem ex__law_draw : ∃ G : List O → CRes, G = fnD 4 [0, 1] m__law_draw := ⟨_, rfl⟩
def F__law_draw : List O → CRes := Classical.choose ex__law_draw
theorem eq__law_draw : F__law_draw = fnD 4 [0, 1] m__law_draw := Classical.choose_spec ex__law_draw
theorem ok__law_draw (h : Wd P c mg) {fd : FuncData} (F : FunD c.K "_law_draw" "_law_draw" (defArgs st__law_draw) (defBody st__law_draw) (defScope st__law_draw) [] [] (c.fn 10) fd) : FnG P w c.K mg base (L2.CX P w) 1 (c.fn 10) fd ["well", "many"] (spD c 2 F__law_draw) := by
  rw [eq__law_draw]
  have sc := sc__law_draw
  exact fnG_mk F sc fun cdv A outer s H E σ0 hr hgd =>
  (s_seq (s_if (t_cmp op_gt sc_gt (d_ix hr.units rfl (d_name (pv 0)) d_int) d_int rfl) (s_seq (s_set sc.nd rfl (Or.inl rfl) (d_bin op_mod sc_mod (d_callS sc_int (pe_callTy call_int1 rfl h.n_int rfl (a_cons (d_ix hr.units rfl (d_name (pv 0)) d_int) a_nil))) (d_name (pv 1))))
  (s_seq (s_setIx hr.u1 (d_bin op_fdiv sc_fdiv (d_ix hr.units rfl (d_name (pv 0)) d_int) (d_name (pv 1))) (d_name (pv 0)) d_int)
  (s_one (s_ret (d_name (pv 2)))))) s_nil)
  (s_seq (s_setIx hr.u1 (d_bin op_mod sc_mod (d_callS sc_int (pe_callTy call_int1 rfl h.n_int rfl (a_cons (d_add rfl (d_bin op_mul sc_mul (d_ix hr.units rfl (d_name (pv 0)) d_int) d_int) d_int) a_nil))) d_int) (d_name (pv 0)) d_int)
  (s_seq (s_set sc.nd rfl (Or.inl rfl) (d_bin op_mod sc_mod (d_callS sc_int (pe_callTy call_int1 rfl h.n_int rfl (a_cons (d_bin op_mul sc_mul (d_add rfl (d_bin op_fdiv sc_fdiv (d_ix hr.units rfl (d_name (pv 0)) d_int) d_int) (d_ix hr.units rfl (d_name (pv 0)) d_int)) d_int) a_nil))) d_int))
  (s_one (s_ret (d_bin op_mod sc_mod (d_callS sc_int (pe_callTy call_int1 rfl h.n_int rfl (a_cons (d_bin op_fdiv sc_fdiv (d_name (pv 3)) d_int) a_nil))) (d_name (pv 1))))))))
theorem cs__law_draw_2 (h : Wd P c mg) : CallS P w c c.K mg base 1 2 [] (c.fn 10) [0, 1] [] F__law_draw :=
  let ⟨_, F⟩ := h.d__law_draw
  callS_of (ok__law_draw h F) F 2 [] [0, 1] rfl (by decide) (by decide) fun _ _ _ _ _ _ us ws h1 h2 => match us, ws, h1, h2 with | [_, _], [], _, _ => rfl
theorem sc__law_one : FnScope ["well", "some"] ["well", "some"] (defScope st__law_one) := ⟨rfl, rfl, rfl, by decide +kernel, rfl, by decide +kernel, by decide +kernel⟩
def m__law_one : Z.Env → SRes := (rtD [0, 1] (ixD (nameD 1) (callZ 2 0 [0, 1] [] F__law_draw (consA (nameD 0) (consA (callD lenF (consA (nameD 1) nilA)) nilA)) nilA)))
theorem ex__law_one : ∃ G : List O → CRes, G = fnD 2 [0, 1] m__law_one := ⟨_, rfl⟩
def F__law_one : List O → CRes := Classical.choose ex__law_one
theorem eq__law_one : F__law_one = fnD 2 [0, 1] m__law_one := Classical.choose_spec ex__law_one
theorem ok__law_one (h : Wd P c mg) {fd : FuncData} (F : FunD c.K "_law_one" "_law_one" (defArgs st__law_one) (defBody st__law_one) (defScope st__law_one) [] [] (c.fn 11) fd) : FnG P w c.K mg base (L2.CX P w) 2 (c.fn 11) fd ["well", "some"] (spD c 2 F__law_one) := by
  rw [eq__law_one]
  have sc := sc__law_one
  exact fnG_mk F sc fun cdv A outer s H E σ0 hr hgd =>
  (s_one (s_ret (d_ixE hr.units rfl (d_name (pv 1)) (d_fn bx_hp (cs__law_draw_2 h) hr hgd h.g__law_draw (cl_p (a_cons (d_name (pv 0)) (a_cons (d_callS (sc_len rfl) (pe_callB call_len rfl h.n_len rfl (a_cons (d_name (pv 1)) a_nil))) a_nil)))) np_name)))
theorem cs__law_one_2 (h : Wd P c mg) : CallS P w c c.K mg base 2 2 [] (c.fn 11) [0, 1] [] F__law_one :=
  let ⟨_, F⟩ := h.d__law_one
  callS_of (ok__law_one h F) F 2 [] [0, 1] rfl (by decide) (by decide) fun _ _ _ _ _ _ us ws h1 h2 => match us, ws, h1, h2 with | [_, _], [], _, _ => rfl
theorem sc__law_sets : FnScope ["kinds", "found", "number", "one", "at", "pair"] ["kinds"] (defScope st__law_sets) := ⟨rfl, rfl, rfl, by decide +kernel, rfl, by decide +kernel, by decide +kernel⟩
def lt__law_sets_1 : Z.Env → Res Bool := (testD (op2D D.eq (op2D D.band (op2D D.shr (nameD 2) (nameD 4)) (conD (.int 1))) (conD (.int 1))))
def le__law_sets_2 : Z.Env → Res RV := (ixD (nameD 0) (nameD 4))
def lb__law_sets_3 : Z.Env → SRes := (seqD (setD 3 (lcD [4] (rangeD range1 (consA (callD lenF (consA (nameD 0) nilA)) nilA)) (.nm 4) lt__law_sets_1 le__law_sets_2))
  (dropD (mutD appendG (nameD 1) (consA (tupD (consA (callD lenF (consA (nameD 3) nilA)) (consA (m1D joinAF (conD (.str "")) (nameD 3)) nilA))) nilA))))
def le__law_sets_4 : Z.Env → Res RV := (ixD (nameD 5) (conD (.int 1)))
def m__law_sets : Z.Env → SRes := (seqD (setD 1 (lstD nilA))
  (seqD (forS (rangeD range1 (consA (op2D D.shl (conD (.int 1)) (callD lenF (consA (nameD 0) nilA))) nilA)) (.nm 2)
  lb__law_sets_3)
  (rtD [0] (lcD [5] (srcD (newLD sortedF (consA (flatD (nameD 1)) nilA))) (.nm 5) yesD le__law_sets_4))))
theorem ex__law_sets : ∃ G : List O → CRes, G = fnD 6 [0] m__law_sets := ⟨_, rfl⟩
def F__law_sets : List O → CRes := Classical.choose ex__law_sets
theorem eq__law_sets : F__law_sets = fnD 6 [0] m__law_sets := Classical.choose_spec ex__law_sets
theorem ok__law_sets (h : Wd P c mg) {fd : FuncData} (F : FunD c.K "_law_sets" "_law_sets" (defArgs st__law_sets) (defBody st__law_sets) (defScope st__law_sets) [] [] (c.fn 12) fd) : FnG P w c.K mg base (L2.CX P w) 1 (c.fn 12) fd ["kinds"] (spD c 1 F__law_sets) := by
  rw [eq__law_sets]
  have sc := sc__law_sets
  exact fnG_mk F sc fun cdv A outer s H E σ0 hr hgd =>
  (s_seq (s_set sc.nd rfl (Or.inl rfl) (d_lst a_nil))
  (s_seq (s_for bx_po rfl (i_range1 (a_cons (d_bin op_shl sc_shl d_int (d_callS (sc_len rfl) (pe_callB call_len rfl h.n_len rfl (a_cons (d_name (pv 0)) a_nil)))) a_nil) rfl h.n_range) (tg_nm rfl sc.nd rfl (by first | exact Or.inl rfl | exact Or.inr rfl)) (s_seq (s_setLc (own := [("at", 4)]) bx_hp rfl sc.nd rfl rfl rfl (sw_true rfl rfl rfl rfl) (blkOk_by rfl) (i_range1 (a_cons (d_callS (sc_len rfl) (pe_callB call_len rfl h.n_len rfl (a_cons (d_name (pv 0)) a_nil))) a_nil) rfl h.n_range) (fun _ _ _ _ _ _ => (tg_nm rfl sc.nd rfl (by first | exact Or.inl rfl | exact Or.inr rfl))) (fun _ _ _ _ _ _ _ hW => (ts_one (t_cmp (op_eqD hr.units) sc_eq (d_bin op_and sc_and (d_bin op_shr sc_shr (d_name (pv 2)) (d_name (pv 4))) d_int) d_int rfl))) (fun _ _ _ _ _ _ _ hW => (d_ix hr.units rfl (d_name (pv 0)) (d_name (pv 4)))))
  (s_one (s_expr (d_mut PySem.F.slot_list_append PySem.F.type_list_append mt_append mu_append (d_name (pv 1)) (a_cons (d_tup (a_cons (d_callS (sc_len rfl) (pe_callB call_len rfl h.n_len rfl (a_cons (d_name (pv 3)) a_nil))) (a_cons (d_joinA rfl rfl d_str (d_name (pv 3))) a_nil))) a_nil) (.inl rfl))))))
  (s_one (s_ret (d_lc (own := [("pair", 5)]) bx_hp rfl sc.nd rfl (blkOk_by rfl) (i_seq rfl (d_callL nw_sorted (pe_callB (cr_sorted rfl hr.units) rfl h.n_sorted rfl (a_cons (d_flat (d_name (pv 1))) a_nil)))) (fun _ _ _ _ _ _ => (tg_nm rfl sc.nd rfl (by first | exact Or.inl rfl | exact Or.inr rfl))) (fun _ _ _ _ _ _ _ hW => ts_nil) (fun _ _ _ _ _ _ _ hW => (d_ix hr.units rfl (d_name (pv 5)) d_int)))))))
theorem cs__law_sets_1 (h : Wd P c mg) : CallS P w c c.K mg base 1 1 [] (c.fn 12) [0] [] F__law_sets :=
  let ⟨_, F⟩ := h.d__law_sets
  callS_of (ok__law_sets h F) F 1 [] [0] rfl (by decide) (by decide) fun _ _ _ _ _ _ us ws h1 h2 => match us, ws, h1, h2 with | [_], [], _, _ => rfl
theorem sc__law_bad : FnScope ["well", "kinds", "told", "wrong", "place", "other", "kind"] ["well", "kinds", "told"] (defScope st__law_bad) := ⟨rfl, rfl, rfl, by decide +kernel, rfl, by decide +kernel, by decide +kernel⟩
def le__law_bad_1 : Z.Env → Res RV := (nameD 6)
def lt__law_bad_2 : Z.Env → Res Bool := (testD (op2D D.notIn (nameD 6) (nameD 1)))
def le__law_bad_3 : Z.Env → Res RV := (nameD 6)
def m__law_bad : Z.Env → SRes := (seqD (setD 3 (callZ 2 0 [0, 1] [] F__law_one (consA (nameD 0) (consA (lstD (consA (conD (.str "e")) (consA (conD (.str "0")) (consA (conD (.int 5)) (consA (conD .non) (consA (conD (.str "aa")) (consA (conD (.str "")) (consA (lstD (consA (conD (.str "a")) nilA)) (consA (conD (.bl false)) nilA))))))))) nilA)) nilA))
  (seqD (setD 4 (callZ 2 0 [0, 1] [] F__law_draw (consA (nameD 0) (consA (conD (.int 4)) nilA)) nilA))
  (seqD (ifS (testD (op2D D.eq (nameD 4) (conD (.int 0))))
  (rtD [0, 1, 2] (tupD (consA (ifD (notD (testD (callD (isiF Tb) (consA (nameD 3) (consA (tupD (consA (conD (.ty "str")) (consA (conD (.ty "list")) nilA))) nilA))))) (nameD 3) (conD (.int 9))) (consA (nameD 2) (consA (ifD (notD (testD (callD (isiF Tb) (consA (nameD 3) (consA (tupD (consA (conD (.ty "str")) (consA (conD (.ty "list")) nilA))) nilA))))) (nameD 3) (conD (.int 9))) nilA))))) passD)
  (seqD (ifS (testD (op2D D.eq (nameD 4) (conD (.int 1))))
  (rtD [0, 1, 2] (tupD (consA (addD (flatD (lcD [6] (srcD (nameD 1)) (.nm 6) yesD le__law_bad_1)) (flatD (lstD (consA (nameD 3) (consA (conD (.int 77)) nilA))))) (consA (nameD 2) (consA (nameD 3) nilA))))) passD)
  (seqD (ifS (testD (op2D D.eq (nameD 4) (conD (.int 2))))
  (rtD [0, 1, 2] (tupD (consA (nameD 1) (consA (addD (flatD (newLD listF (consA (flatD (nameD 2)) nilA))) (flatD (lstD (consA (lstD (consA (nameD 3) nilA)) nilA)))) (consA (nameD 3) nilA))))) passD)
  (seqD (setD 5 (lcD [6] (srcD (conD (.str "abcd"))) (.nm 6) lt__law_bad_2 le__law_bad_3))
  (seqD (ifS (testD (op2D D.eq (nameD 5) (lstD nilA)))
  (rtD [0, 1, 2] (tupD (consA (nameD 1) (consA (conD (.int 8)) (consA (conD (.int 8)) nilA))))) passD)
  (rtD [0, 1, 2] (tupD (consA (nameD 1) (consA (addD (flatD (lstD (consA (addD (flatD (ixD (nameD 5) (conD (.int 0)))) (flatD (m1D joinAF (conD (.str "")) (nameD 1)))) nilA))) (flatD (newLD listF (consA (flatD (nameD 2)) nilA)))) (consA (ixD (nameD 5) (conD (.int 0))) nilA))))))))))))
theorem ex__law_bad : ∃ G : List O → CRes, G = fnD 7 [0, 1, 2] m__law_bad := ⟨_, rfl⟩
def F__law_bad : List O → CRes := Classical.choose ex__law_bad
theorem eq__law_bad : F__law_bad = fnD 7 [0, 1, 2] m__law_bad := Classical.choose_spec ex__law_bad
theorem ok__law_bad (h : Wd P c mg) {fd : FuncData} (F : FunD c.K "_law_bad" "_law_bad" (defArgs st__law_bad) (defBody st__law_bad) (defScope st__law_bad) [] [] (c.fn 17) fd) : FnG P w c.K mg base (L2.CX P w) 3 (c.fn 17) fd ["well", "kinds", "told"] (spD c 3 F__law_bad) := by
  rw [eq__law_bad]
  have sc := sc__law_bad
  exact fnG_mk F sc fun cdv A outer s H E σ0 hr hgd =>
  (s_seq (s_set sc.nd rfl (Or.inl rfl) (d_fn bx_hp (cs__law_one_2 h) hr hgd h.g__law_one (cl_p (a_cons (d_name (pv 0)) (a_cons (d_lst (a_cons d_str (a_cons d_str (a_cons d_int (a_cons d_non (a_cons d_str (a_cons d_str (a_cons (d_lst (a_cons d_str a_nil)) (a_cons d_bl a_nil))))))))) a_nil)))))
  (s_seq (s_set sc.nd rfl (Or.inl rfl) (d_fn bx_hp (cs__law_draw_2 h) hr hgd h.g__law_draw (cl_p (a_cons (d_name (pv 0)) (a_cons d_int a_nil)))))
  (s_seq (s_if (t_cmp (op_eqD hr.units) sc_eq (d_name (pv 4)) d_int rfl) (s_one (s_ret (d_tup (a_cons (d_if (t_not (t_val (d_callS sc_isi (pe_callB (cr_isi rfl h.tab) rfl h.n_isinstance rfl (a_cons (d_name (pv 3)) (a_cons (d_tup (a_cons (d_ty h.n_str rfl) (a_cons (d_ty h.n_list rfl) a_nil))) a_nil)))))) (d_name (pv 3)) d_int) (a_cons (d_name (pv 2)) (a_cons (d_if (t_not (t_val (d_callS sc_isi (pe_callB (cr_isi rfl h.tab) rfl h.n_isinstance rfl (a_cons (d_name (pv 3)) (a_cons (d_tup (a_cons (d_ty h.n_str rfl) (a_cons (d_ty h.n_list rfl) a_nil))) a_nil)))))) (d_name (pv 3)) d_int) a_nil)))))) s_nil)
  (s_seq (s_if (t_cmp (op_eqD hr.units) sc_eq (d_name (pv 4)) d_int rfl) (s_one (s_ret (d_tup (a_cons (d_add rfl (d_flat (d_lc (own := [("kind", 6)]) bx_hp rfl sc.nd rfl (blkOk_by rfl) (i_seq rfl (d_name (pv 1))) (fun _ _ _ _ _ _ => (tg_nm rfl sc.nd rfl (by first | exact Or.inl rfl | exact Or.inr rfl))) (fun _ _ _ _ _ _ _ hW => ts_nil) (fun _ _ _ _ _ _ _ hW => (d_name (pv 6))))) (d_flat (d_lst (a_cons (d_name (pv 3)) (a_cons d_int a_nil))))) (a_cons (d_name (pv 2)) (a_cons (d_name (pv 3)) a_nil)))))) s_nil)
  (s_seq (s_if (t_cmp (op_eqD hr.units) sc_eq (d_name (pv 4)) d_int rfl) (s_one (s_ret (d_tup (a_cons (d_name (pv 1)) (a_cons (d_add rfl (d_flat (d_callL (nw_list rfl) (pe_callTy call_list_of rfl h.n_list rfl (a_cons (d_flat (d_name (pv 2))) a_nil)))) (d_flat (d_lst (a_cons (d_lst (a_cons (d_name (pv 3)) a_nil)) a_nil)))) (a_cons (d_name (pv 3)) a_nil)))))) s_nil)
  (s_seq (s_setLc (own := [("kind", 6)]) bx_hp rfl sc.nd rfl rfl rfl (sw_true rfl rfl rfl rfl) (blkOk_by rfl) (i_seq rfl d_str) (fun _ _ _ _ _ _ => (tg_nm rfl sc.nd rfl (by first | exact Or.inl rfl | exact Or.inr rfl))) (fun _ _ _ _ _ _ _ hW => (ts_one (t_cmp (op_notInA hr.u65) sc_notIn (d_name (pv 6)) (d_name (pv 1)) rfl))) (fun _ _ _ _ _ _ _ hW => (d_name (pv 6))))
  (s_seq (s_if (t_cmp (op_eqD hr.units) sc_eq (d_name (pv 5)) (d_lst a_nil) rfl) (s_one (s_ret (d_tup (a_cons (d_name (pv 1)) (a_cons d_int (a_cons d_int a_nil)))))) s_nil)
  (s_one (s_ret (d_tup (a_cons (d_name (pv 1)) (a_cons (d_add rfl (d_flat (d_lst (a_cons (d_add rfl (d_flat (d_ix hr.units rfl (d_name (pv 5)) d_int)) (d_flat (d_joinA rfl rfl d_str (d_name (pv 1))))) a_nil))) (d_flat (d_callL (nw_list rfl) (pe_callTy call_list_of rfl h.n_list rfl (a_cons (d_flat (d_name (pv 2))) a_nil))))) (a_cons (d_ix hr.units rfl (d_name (pv 5)) d_int) a_nil)))))))))))))
theorem cs__law_bad_3 (h : Wd P c mg) : CallS P w c c.K mg base 3 3 [] (c.fn 17) [0, 1, 2] [] F__law_bad :=
  let ⟨_, F⟩ := h.d__law_bad
  callS_of (ok__law_bad h F) F 3 [] [0, 1, 2] rfl (by decide) (by decide) fun _ _ _ _ _ _ us ws h1 h2 => match us, ws, h1, h2 with | [_, _, _], [], _, _ => rfl
theorem sc__law_told : FnScope ["well", "one", "row", "turn", "kind"] ["well", "one"] (defScope st__law_told) := ⟨rfl, rfl, rfl, by decide +kernel, rfl, by decide +kernel, by decide +kernel⟩
def le__law_told_1 : Z.Env → Res RV := (nameD 4)
def lb__law_told_2 : Z.Env → SRes := (ifS (testD (op2D D.ne (nameD 2) (lstD nilA)))
  (dropD (mutD appendG (nameD 2) (consA (callZ 2 0 [0, 1] [] F__law_one (consA (nameD 0) (consA (nameD 2) nilA)) nilA) nilA))) passD)
def m__law_told : Z.Env → SRes := (seqD (setD 2 (lcD [4] (srcD (nameD 1)) (.nm 4) yesD le__law_told_1))
  (seqD (forS (rangeD range1 (consA (callZ 2 0 [0, 1] [] F__law_draw (consA (nameD 0) (consA (conD (.int 3)) nilA)) nilA) nilA)) (.nm 3)
  lb__law_told_2)
  (seqD (ifS (testD (op2D D.eq (callZ 2 0 [0, 1] [] F__law_draw (consA (nameD 0) (consA (conD (.int 2)) nilA)) nilA) (conD (.int 0))))
  (setD 2 (revD (flatD (nameD 2)))) passD)
  (rtD [0, 1] (callZ 2 0 [0, 1] [] F__law_one (consA (nameD 0) (consA (lstD (consA (m1D joinAF (conD (.str "")) (nameD 2)) (consA (nameD 2) (consA (newVD tupleF (consA (flatD (nameD 2)) nilA)) nilA)))) nilA)) nilA)))))
theorem ex__law_told : ∃ G : List O → CRes, G = fnD 5 [0, 1] m__law_told := ⟨_, rfl⟩
def F__law_told : List O → CRes := Classical.choose ex__law_told
theorem eq__law_told : F__law_told = fnD 5 [0, 1] m__law_told := Classical.choose_spec ex__law_told
theorem ok__law_told (h : Wd P c mg) {fd : FuncData} (F : FunD c.K "_law_told" "_law_told" (defArgs st__law_told) (defBody st__law_told) (defScope st__law_told) [] [] (c.fn 14) fd) : FnG P w c.K mg base (L2.CX P w) 3 (c.fn 14) fd ["well", "one"] (spD c 2 F__law_told) := by
  rw [eq__law_told]
  have sc := sc__law_told
  exact fnG_mk F sc fun cdv A outer s H E σ0 hr hgd =>
  (s_seq (s_setLc (own := [("kind", 4)]) bx_hp rfl sc.nd rfl rfl rfl (sw_true rfl rfl rfl rfl) (blkOk_by rfl) (i_seq rfl (d_name (pv 1))) (fun _ _ _ _ _ _ => (tg_nm rfl sc.nd rfl (by first | exact Or.inl rfl | exact Or.inr rfl))) (fun _ _ _ _ _ _ _ hW => ts_nil) (fun _ _ _ _ _ _ _ hW => (d_name (pv 4))))
  (s_seq (s_for bx_po rfl (i_range1 (a_cons (d_fn bx_hp (cs__law_draw_2 h) hr hgd h.g__law_draw (cl_p (a_cons (d_name (pv 0)) (a_cons d_int a_nil)))) a_nil) rfl h.n_range) (tg_nm rfl sc.nd rfl (by first | exact Or.inl rfl | exact Or.inr rfl)) (s_one (s_if (t_cmp (op_neD hr.units) sc_ne (d_name (pv 2)) (d_lst a_nil) rfl) (s_one (s_expr (d_mut PySem.F.slot_list_append PySem.F.type_list_append mt_append mu_append (d_name (pv 2)) (a_cons (d_fn bx_hp (cs__law_one_2 h) hr hgd h.g__law_one (cl_p (a_cons (d_name (pv 0)) (a_cons (d_name (pv 2)) a_nil)))) a_nil) (.inr np_name)))) s_nil)))
  (s_seq (s_if (t_cmp (op_eqD hr.units) sc_eq (d_fn bx_hp (cs__law_draw_2 h) hr hgd h.g__law_draw (cl_p (a_cons (d_name (pv 0)) (a_cons d_int a_nil)))) d_int rfl) (s_one (s_set sc.nd rfl (Or.inl rfl) (d_rev rfl (d_flat (d_name (pv 2)))))) s_nil)
  (s_one (s_ret (d_fn bx_hp (cs__law_one_2 h) hr hgd h.g__law_one (cl_p (a_cons (d_name (pv 0)) (a_cons (d_lst (a_cons (d_joinA rfl rfl d_str (d_name (pv 2))) (a_cons (d_name (pv 2)) (a_cons (d_callT (nw_tuple rfl) (pe_callTy call_tuple_of rfl h.n_tuple rfl (a_cons (d_flat (d_name (pv 2))) a_nil))) a_nil)))) a_nil)))))))))
theorem cs__law_told_2 (h : Wd P c mg) : CallS P w c c.K mg base 3 2 [] (c.fn 14) [0, 1] [] F__law_told :=
  let ⟨_, F⟩ := h.d__law_told
  callS_of (ok__law_told h F) F 2 [] [0, 1] rfl (by decide) (by decide) fun _ _ _ _ _ _ us ws h1 h2 => match us, ws, h1, h2 with | [_, _], [], _, _ => rfl
theorem sc__law_meets : FnScope ["one", "others", "other", "kind"] ["one", "others"] (defScope st__law_meets) := ⟨rfl, rfl, rfl, by decide +kernel, rfl, by decide +kernel, by decide +kernel⟩
def lt__law_meets_1 : Z.Env → Res Bool := (testD (op2D D.isIn (nameD 3) (nameD 0)))
def le__law_meets_2 : Z.Env → Res RV := (nameD 3)
def lt__law_meets_3 : Z.Env → Res Bool := (testD (op2D D.eq (lcD [3] (srcD (nameD 2)) (.nm 3) lt__law_meets_1 le__law_meets_2) (lstD nilA)))
def le__law_meets_4 : Z.Env → Res RV := (nameD 2)
def m__law_meets : Z.Env → SRes := (rtD [0, 1] (op2D D.eq (lcD [2] (srcD (nameD 1)) (.nm 2) lt__law_meets_3 le__law_meets_4) (lstD nilA)))
theorem ex__law_meets : ∃ G : List O → CRes, G = fnD 4 [0, 1] m__law_meets := ⟨_, rfl⟩
def F__law_meets : List O → CRes := Classical.choose ex__law_meets
theorem eq__law_meets : F__law_meets = fnD 4 [0, 1] m__law_meets := Classical.choose_spec ex__law_meets
theorem ok__law_meets (h : Wd P c mg) {fd : FuncData} (F : FunD c.K "_law_meets" "_law_meets" (defArgs st__law_meets) (defBody st__law_meets) (defScope st__law_meets) [] [] (c.fn 15) fd) : FnG P w c.K mg base (L2.CX P w) 1 (c.fn 15) fd ["one", "others"] (spD c 2 F__law_meets) := by
  rw [eq__law_meets]
  have sc := sc__law_meets
  exact fnG_mk F sc fun cdv A outer s H E σ0 hr hgd =>
  (s_one (s_ret (d_cmp (op_eqD hr.units) sc_eq (d_lc (own := [("other", 2)]) bx_hp rfl sc.nd rfl (blkOk_by rfl) (i_seq rfl (d_name (pv 1))) (fun _ _ _ _ _ _ => (tg_nm rfl sc.nd rfl (by first | exact Or.inl rfl | exact Or.inr rfl))) (fun _ _ _ _ _ _ _ hW => (ts_one (t_cmp (op_eqD hr.units) sc_eq (d_lc (own := [("kind", 3)]) hW rfl sc.nd rfl (blkOk_by rfl) (i_seq rfl (d_name (pv 2))) (fun _ _ _ _ _ _ => (tg_nm rfl sc.nd rfl (by first | exact Or.inl rfl | exact Or.inr rfl))) (fun _ _ _ _ _ _ _ hW => (ts_one (t_cmp (op_inA hr.u65) sc_in (d_name (pv 3)) (d_name (pv 0)) rfl))) (fun _ _ _ _ _ _ _ hW => (d_name (pv 3)))) (d_lst a_nil) rfl))) (fun _ _ _ _ _ _ _ hW => (d_name (pv 2)))) (d_lst a_nil) rfl)))
theorem cs__law_meets_2 (h : Wd P c mg) : CallS P w c c.K mg base 1 2 [] (c.fn 15) [0, 1] [] F__law_meets :=
  let ⟨_, F⟩ := h.d__law_meets
  callS_of (ok__law_meets h F) F 2 [] [0, 1] rfl (by decide) (by decide) fun _ _ _ _ _ _ us ws h1 h2 => match us, ws, h1, h2 with | [_, _], [], _, _ => rfl
theorem sc_is_text : FnScope ["value"] ["value"] (defScope st_is_text) := ⟨rfl, rfl, rfl, by decide +kernel, rfl, by decide +kernel, by decide +kernel⟩
def m_is_text : Z.Env → SRes := (rtD [0] (callD (isiF Tb) (consA (nameD 0) (consA (conD (.ty "str")) nilA))))
theorem ex_is_text : ∃ G : List O → CRes, G = fnD 1 [0] m_is_text := ⟨_, rfl⟩
def F_is_text : List O → CRes := Classical.choose ex_is_text
theorem eq_is_text : F_is_text = fnD 1 [0] m_is_text := Classical.choose_spec ex_is_text
theorem ok_is_text (h : Wd P c mg) {fd : FuncData} (F : FunD c.K "is_text" "is_text" (defArgs st_is_text) (defBody st_is_text) (defScope st_is_text) [] [] (c.fn 0) fd) : FnG P w c.K mg base (L2.CX P w) 1 (c.fn 0) fd ["value"] (spD c 1 F_is_text) := by
  rw [eq_is_text]
  have sc := sc_is_text
  exact fnG_mk F sc fun cdv A outer s H E σ0 hr hgd =>
  (s_one (s_ret (d_callS sc_isi (pe_callB (cr_isi rfl h.tab) rfl h.n_isinstance rfl (a_cons (d_name (pv 0)) (a_cons (d_ty h.n_str rfl) a_nil))))))
theorem cs_is_text_1 (h : Wd P c mg) : CallS P w c c.K mg base 1 1 [] (c.fn 0) [0] [] F_is_text :=
  let ⟨_, F⟩ := h.d_is_text
  callS_of (ok_is_text h F) F 1 [] [0] rfl (by decide) (by decide) fun _ _ _ _ _ _ us ws h1 h2 => match us, ws, h1, h2 with | [_], [], _, _ => rfl
theorem sc_is_sequence : FnScope ["value"] ["value"] (defScope st_is_sequence) := ⟨rfl, rfl, rfl, by decide +kernel, rfl, by decide +kernel, by decide +kernel⟩
def m_is_sequence : Z.Env → SRes := (rtD [0] (callD (isiF Tb) (consA (nameD 0) (consA (tupD (consA (conD (.ty "list")) (consA (conD (.ty "tuple")) nilA))) nilA))))
theorem ex_is_sequence : ∃ G : List O → CRes, G = fnD 1 [0] m_is_sequence := ⟨_, rfl⟩
def F_is_sequence : List O → CRes := Classical.choose ex_is_sequence
theorem eq_is_sequence : F_is_sequence = fnD 1 [0] m_is_sequence := Classical.choose_spec ex_is_sequence
theorem ok_is_sequence (h : Wd P c mg) {fd : FuncData} (F : FunD c.K "is_sequence" "is_sequence" (defArgs st_is_sequence) (defBody st_is_sequence) (defScope st_is_sequence) [] [] (c.fn 1) fd) : FnG P w c.K mg base (L2.CX P w) 1 (c.fn 1) fd ["value"] (spD c 1 F_is_sequence) := by
  rw [eq_is_sequence]
  have sc := sc_is_sequence
  exact fnG_mk F sc fun cdv A outer s H E σ0 hr hgd =>
  (s_one (s_ret (d_callS sc_isi (pe_callB (cr_isi rfl h.tab) rfl h.n_isinstance rfl (a_cons (d_name (pv 0)) (a_cons (d_tup (a_cons (d_ty h.n_list rfl) (a_cons (d_ty h.n_tuple rfl) a_nil))) a_nil))))))
theorem cs_is_sequence_1 (h : Wd P c mg) : CallS P w c c.K mg base 1 1 [] (c.fn 1) [0] [] F_is_sequence :=
  let ⟨_, F⟩ := h.d_is_sequence
  callS_of (ok_is_sequence h F) F 1 [] [0] rfl (by decide) (by decide) fun _ _ _ _ _ _ us ws h1 h2 => match us, ws, h1, h2 with | [_], [], _, _ => rfl
theorem sc_is_letter_of : FnScope ["value", "letters"] ["value", "letters"] (defScope st_is_letter_of) := ⟨rfl, rfl, rfl, by decide +kernel, rfl, by decide +kernel, by decide +kernel⟩
def m_is_letter_of : Z.Env → SRes := (rtD [0, 1] (andV (callZ 1 0 [0] [] F_is_text (consA (nameD 0) nilA) nilA) (andV (op2D D.eq (callD lenF (consA (nameD 0) nilA)) (conD (.int 1))) (op2D D.isIn (nameD 0) (nameD 1)))))
theorem ex_is_letter_of : ∃ G : List O → CRes, G = fnD 2 [0, 1] m_is_letter_of := ⟨_, rfl⟩
def F_is_letter_of : List O → CRes := Classical.choose ex_is_letter_of
theorem eq_is_letter_of : F_is_letter_of = fnD 2 [0, 1] m_is_letter_of := Classical.choose_spec ex_is_letter_of
theorem ok_is_letter_of (h : Wd P c mg) {fd : FuncData} (F : FunD c.K "is_letter_of" "is_letter_of" (defArgs st_is_letter_of) (defBody st_is_letter_of) (defScope st_is_letter_of) [] [] (c.fn 2) fd) : FnG P w c.K mg base (L2.CX P w) 2 (c.fn 2) fd ["value", "letters"] (spD c 2 F_is_letter_of) := by
  rw [eq_is_letter_of]
  have sc := sc_is_letter_of
  exact fnG_mk F sc fun cdv A outer s H E σ0 hr hgd =>
  (s_one (s_ret (d_and (d_fn bx_hp (cs_is_text_1 h) hr hgd h.g_is_text (cl_p (a_cons (d_name (pv 0)) a_nil))) (d_and (d_cmp (op_eqD hr.units) sc_eq (d_callS (sc_len rfl) (pe_callB call_len rfl h.n_len rfl (a_cons (d_name (pv 0)) a_nil))) d_int rfl) (d_one (d_cmp (op_inA hr.u65) sc_in (d_name (pv 0)) (d_name (pv 1)) rfl))))))
theorem cs_is_letter_of_2 (h : Wd P c mg) : CallS P w c c.K mg base 2 2 [] (c.fn 2) [0, 1] [] F_is_letter_of :=
  let ⟨_, F⟩ := h.d_is_letter_of
  callS_of (ok_is_letter_of h F) F 2 [] [0, 1] rfl (by decide) (by decide) fun _ _ _ _ _ _ us ws h1 h2 => match us, ws, h1, h2 with | [_, _], [], _, _ => rfl
theorem sc_kinds_of : FnScope ["letters", "value", "letter"] ["letters", "value"] (defScope st_kinds_of) := ⟨rfl, rfl, rfl, by decide +kernel, rfl, by decide +kernel, by decide +kernel⟩
def lb_kinds_of_1 : Z.Env → SRes := (ifS (notD (testD (callZ 2 0 [0, 1] [] F_is_letter_of (consA (nameD 2) (consA (nameD 0) nilA)) nilA)))
  (raiseD 1 "letter" (nameD 2)) passD)
def lt_kinds_of_2 : Z.Env → Res Bool := (testD (op2D D.isIn (nameD 2) (nameD 1)))
def le_kinds_of_3 : Z.Env → Res RV := (nameD 2)
def m_kinds_of : Z.Env → SRes := (seqD (ifS (andD (notD (testD (callZ 1 0 [0] [] F_is_text (consA (nameD 1) nilA) nilA))) (notD (testD (callZ 1 0 [0] [] F_is_sequence (consA (nameD 1) nilA) nilA))))
  (raiseD 1 "letter" (nameD 1)) passD)
  (seqD (forS (srcD (nameD 1)) (.nm 2)
  lb_kinds_of_1)
  (rtD [0, 1] (m1D joinAF (conD (.str "")) (lcD [2] (srcD (nameD 0)) (.nm 2) lt_kinds_of_2 le_kinds_of_3)))))
theorem ex_kinds_of : ∃ G : List O → CRes, G = fnD 3 [0, 1] m_kinds_of := ⟨_, rfl⟩
def F_kinds_of : List O → CRes := Classical.choose ex_kinds_of
theorem eq_kinds_of : F_kinds_of = fnD 3 [0, 1] m_kinds_of := Classical.choose_spec ex_kinds_of
theorem ok_kinds_of (h : Wd P c mg) {fd : FuncData} (F : FunD c.K "kinds_of" "kinds_of" (defArgs st_kinds_of) (defBody st_kinds_of) (defScope st_kinds_of) [] [] (c.fn 3) fd) : FnG P w c.K mg base (L2.CX P w) 3 (c.fn 3) fd ["letters", "value"] (spD c 2 F_kinds_of) := by
  rw [eq_kinds_of]
  have sc := sc_kinds_of
  exact fnG_mk F sc fun cdv A outer s H E σ0 hr hgd =>
  (s_seq (s_if (t_w (t_and (t_not (t_val (d_fn bx_hp (cs_is_text_1 h) hr hgd h.g_is_text (cl_p (a_cons (d_name (pv 1)) a_nil))))) (t_and1 (t_not (t_val (d_fn bx_hp (cs_is_sequence_1 h) hr hgd h.g_is_sequence (cl_p (a_cons (d_name (pv 1)) a_nil)))))))) (s_one (s_raise rfl bx_tk eb_K h.x_NoLetter h.top hr h.g_NoLetter h.n_super (d_name (pv 1)))) s_nil)
  (s_seq (s_for bx_po rfl (i_seq rfl (d_name (pv 1))) (tg_nm rfl sc.nd rfl (by first | exact Or.inl rfl | exact Or.inr rfl)) (s_one (s_if (t_not (t_val (d_fn bx_hp (cs_is_letter_of_2 h) hr hgd h.g_is_letter_of (cl_p (a_cons (d_name (pv 2)) (a_cons (d_name (pv 0)) a_nil)))))) (s_one (s_raise rfl bx_tk eb_K h.x_NoLetter h.top hr h.g_NoLetter h.n_super (d_name (pv 2)))) s_nil)))
  (s_one (s_ret (d_joinA rfl rfl d_str (d_lc (own := [("letter", 2)]) bx_hp rfl sc.nd rfl (blkOk_by rfl) (i_seq rfl (d_name (pv 0))) (fun _ _ _ _ _ _ => (tg_nm rfl sc.nd rfl (by first | exact Or.inl rfl | exact Or.inr rfl))) (fun _ _ _ _ _ _ _ hW => (ts_one (t_cmp (op_inA hr.u65) sc_in (d_name (pv 2)) (d_name (pv 1)) rfl))) (fun _ _ _ _ _ _ _ hW => (d_name (pv 2)))))))))
theorem cs_kinds_of_2 (h : Wd P c mg) : CallS P w c c.K mg base 3 2 [] (c.fn 3) [0, 1] [] F_kinds_of :=
  let ⟨_, F⟩ := h.d_kinds_of
  callS_of (ok_kinds_of h F) F 2 [] [0, 1] rfl (by decide) (by decide) fun _ _ _ _ _ _ us ws h1 h2 => match us, ws, h1, h2 with | [_, _], [], _, _ => rfl
theorem sc_sets_of : FnScope ["kinds", "value", "one"] ["kinds", "value"] (defScope st_sets_of) := ⟨rfl, rfl, rfl, by decide +kernel, rfl, by decide +kernel, by decide +kernel⟩
def le_sets_of_1 : Z.Env → Res RV := (callZ 2 0 [0, 1] [] F_kinds_of (consA (nameD 0) (consA (nameD 2) nilA)) nilA)
def m_sets_of : Z.Env → SRes := (seqD (ifS (notD (testD (callZ 1 0 [0] [] F_is_sequence (consA (nameD 1) nilA) nilA)))
  (raiseD 1 "letter" (nameD 1)) passD)
  (rtD [0, 1] (lcD [2] (srcD (nameD 1)) (.nm 2) yesD le_sets_of_1)))
theorem ex_sets_of : ∃ G : List O → CRes, G = fnD 3 [0, 1] m_sets_of := ⟨_, rfl⟩
def F_sets_of : List O → CRes := Classical.choose ex_sets_of
theorem eq_sets_of : F_sets_of = fnD 3 [0, 1] m_sets_of := Classical.choose_spec ex_sets_of
theorem ok_sets_of (h : Wd P c mg) {fd : FuncData} (F : FunD c.K "sets_of" "sets_of" (defArgs st_sets_of) (defBody st_sets_of) (defScope st_sets_of) [] [] (c.fn 6) fd) : FnG P w c.K mg base (L2.CX P w) 4 (c.fn 6) fd ["kinds", "value"] (spD c 2 F_sets_of) := by
  rw [eq_sets_of]
  have sc := sc_sets_of
  exact fnG_mk F sc fun cdv A outer s H E σ0 hr hgd =>
  (s_seq (s_if (t_not (t_val (d_fn bx_hp (cs_is_sequence_1 h) hr hgd h.g_is_sequence (cl_p (a_cons (d_name (pv 1)) a_nil))))) (s_one (s_raise rfl bx_tk eb_K h.x_NoLetter h.top hr h.g_NoLetter h.n_super (d_name (pv 1)))) s_nil)
  (s_one (s_ret (d_lc (own := [("one", 2)]) bx_hp rfl sc.nd rfl (blkOk_by rfl) (i_seq rfl (d_name (pv 1))) (fun _ _ _ _ _ _ => (tg_nm rfl sc.nd rfl (by first | exact Or.inl rfl | exact Or.inr rfl))) (fun _ _ _ _ _ _ _ hW => ts_nil) (fun _ _ _ _ _ _ _ hW => (d_fn hW (cs_kinds_of_2 h) hr hgd h.g_kinds_of (cl_p (a_cons (d_name (pv 0)) (a_cons (d_name (pv 2)) a_nil)))))))))
theorem cs_sets_of_2 (h : Wd P c mg) : CallS P w c c.K mg base 4 2 [] (c.fn 6) [0, 1] [] F_sets_of :=
  let ⟨_, F⟩ := h.d_sets_of
  callS_of (ok_sets_of h F) F 2 [] [0, 1] rfl (by decide) (by decide) fun _ _ _ _ _ _ us ws h1 h2 => match us, ws, h1, h2 with | [_, _], [], _, _ => rfl
theorem sc_kind_sets : FnScope ["kinds", "found", "kind", "one", "pair"] ["kinds"] (defScope st_kind_sets) := ⟨rfl, rfl, rfl, by decide +kernel, rfl, by decide +kernel, by decide +kernel⟩
def le_kind_sets_1 : Z.Env → Res RV := (addD (flatD (nameD 3)) (flatD (nameD 2)))
def lb_kind_sets_2 : Z.Env → SRes := (setD 1 (addD (flatD (nameD 1)) (flatD (lcD [3] (srcD (nameD 1)) (.nm 3) yesD le_kind_sets_1))))
def le_kind_sets_3 : Z.Env → Res RV := (ixD (nameD 4) (conD (.int 1)))
def le_kind_sets_4 : Z.Env → Res RV := (tupD (consA (callD lenF (consA (nameD 3) nilA)) (consA (nameD 3) nilA)))
def m_kind_sets : Z.Env → SRes := (seqD (setD 1 (lstD (consA (conD (.str "")) nilA)))
  (seqD (forS (srcD (nameD 0)) (.nm 2)
  lb_kind_sets_2)
  (rtD [0] (lcD [4] (srcD (newLD sortedF (consA (flatD (lcD [3] (srcD (nameD 1)) (.nm 3) yesD le_kind_sets_4)) nilA))) (.nm 4) yesD le_kind_sets_3))))
theorem ex_kind_sets : ∃ G : List O → CRes, G = fnD 5 [0] m_kind_sets := ⟨_, rfl⟩
def F_kind_sets : List O → CRes := Classical.choose ex_kind_sets
theorem eq_kind_sets : F_kind_sets = fnD 5 [0] m_kind_sets := Classical.choose_spec ex_kind_sets
theorem ok_kind_sets (h : Wd P c mg) {fd : FuncData} (F : FunD c.K "kind_sets" "kind_sets" (defArgs st_kind_sets) (defBody st_kind_sets) (defScope st_kind_sets) [] [] (c.fn 4) fd) : FnG P w c.K mg base (L2.CX P w) 1 (c.fn 4) fd ["kinds"] (spD c 1 F_kind_sets) := by
  rw [eq_kind_sets]
  have sc := sc_kind_sets
  exact fnG_mk F sc fun cdv A outer s H E σ0 hr hgd =>
  (s_seq (s_set sc.nd rfl (Or.inl rfl) (d_lst (a_cons d_str a_nil)))
  (s_seq (s_for bx_po rfl (i_seq rfl (d_name (pv 0))) (tg_nm rfl sc.nd rfl (by first | exact Or.inl rfl | exact Or.inr rfl)) (s_one (s_set sc.nd rfl (Or.inl rfl) (d_addE rfl (d_flat (d_name (pv 1))) (d_flat (d_lc (own := [("one", 3)]) bx_hp rfl sc.nd rfl (blkOk_by rfl) (i_seq rfl (d_name (pv 1))) (fun _ _ _ _ _ _ => (tg_nm rfl sc.nd rfl (by first | exact Or.inl rfl | exact Or.inr rfl))) (fun _ _ _ _ _ _ _ hW => ts_nil) (fun _ _ _ _ _ _ _ hW => (d_add rfl (d_flat (d_name (pv 3))) (d_flat (d_name (pv 2))))))) (np_flat np_name)))))
  (s_one (s_ret (d_lc (own := [("pair", 4)]) bx_hp rfl sc.nd rfl (blkOk_by rfl) (i_seq rfl (d_callL nw_sorted (pe_callB (cr_sorted rfl hr.units) rfl h.n_sorted rfl (a_cons (d_flat (d_lc (own := [("one", 3)]) bx_hp rfl sc.nd rfl (blkOk_by rfl) (i_seq rfl (d_name (pv 1))) (fun _ _ _ _ _ _ => (tg_nm rfl sc.nd rfl (by first | exact Or.inl rfl | exact Or.inr rfl))) (fun _ _ _ _ _ _ _ hW => ts_nil) (fun _ _ _ _ _ _ _ hW => (d_tup (a_cons (d_callS (sc_len rfl) (pe_callB call_len rfl h.n_len rfl (a_cons (d_name (pv 3)) a_nil))) (a_cons (d_name (pv 3)) a_nil)))))) a_nil)))) (fun _ _ _ _ _ _ => (tg_nm rfl sc.nd rfl (by first | exact Or.inl rfl | exact Or.inr rfl))) (fun _ _ _ _ _ _ _ hW => ts_nil) (fun _ _ _ _ _ _ _ hW => (d_ix hr.units rfl (d_name (pv 4)) d_int)))))))
theorem cs_kind_sets_1 (h : Wd P c mg) : CallS P w c c.K mg base 1 1 [] (c.fn 4) [0] [] F_kind_sets :=
  let ⟨_, F⟩ := h.d_kind_sets
  callS_of (ok_kind_sets h F) F 1 [] [0] rfl (by decide) (by decide) fun _ _ _ _ _ _ us ws h1 h2 => match us, ws, h1, h2 with | [_], [], _, _ => rfl
theorem sc_lesser_sets : FnScope ["one", "at"] ["one"] (defScope st_lesser_sets) := ⟨rfl, rfl, rfl, by decide +kernel, rfl, by decide +kernel, by decide +kernel⟩
def le_lesser_sets_1 : Z.Env → Res RV := (addD (flatD (slD (flatD (nameD 0)) noneP (someP (nameD 1)))) (flatD (slD (flatD (nameD 0)) (someP (addD (nameD 1) (conD (.int 1)))) noneP)))
def m_lesser_sets : Z.Env → SRes := (rtD [0] (lcD [1] (rangeD range1 (consA (callD lenF (consA (nameD 0) nilA)) nilA)) (.nm 1) yesD le_lesser_sets_1))
theorem ex_lesser_sets : ∃ G : List O → CRes, G = fnD 2 [0] m_lesser_sets := ⟨_, rfl⟩
def F_lesser_sets : List O → CRes := Classical.choose ex_lesser_sets
theorem eq_lesser_sets : F_lesser_sets = fnD 2 [0] m_lesser_sets := Classical.choose_spec ex_lesser_sets
theorem ok_lesser_sets (h : Wd P c mg) {fd : FuncData} (F : FunD c.K "lesser_sets" "lesser_sets" (defArgs st_lesser_sets) (defBody st_lesser_sets) (defScope st_lesser_sets) [] [] (c.fn 5) fd) : FnG P w c.K mg base (L2.CX P w) 1 (c.fn 5) fd ["one"] (spD c 1 F_lesser_sets) := by
  rw [eq_lesser_sets]
  have sc := sc_lesser_sets
  exact fnG_mk F sc fun cdv A outer s H E σ0 hr hgd =>
  (s_one (s_ret (d_lc (own := [("at", 1)]) bx_hp rfl sc.nd rfl (blkOk_by rfl) (i_range1 (a_cons (d_callS (sc_len rfl) (pe_callB call_len rfl h.n_len rfl (a_cons (d_name (pv 0)) a_nil))) a_nil) rfl h.n_range) (fun _ _ _ _ _ _ => (tg_nm rfl sc.nd rfl (by first | exact Or.inl rfl | exact Or.inr rfl))) (fun _ _ _ _ _ _ _ hW => ts_nil) (fun _ _ _ _ _ _ _ hW => (d_add rfl (d_flat (d_sl rfl (d_flat (d_name (pv 0))) p_none (p_some (d_name (pv 1))))) (d_flat (d_sl rfl (d_flat (d_name (pv 0))) (p_some (d_add rfl (d_name (pv 1)) d_int)) p_none)))))))
theorem cs_lesser_sets_1 (h : Wd P c mg) : CallS P w c c.K mg base 1 1 [] (c.fn 5) [0] [] F_lesser_sets :=
  let ⟨_, F⟩ := h.d_lesser_sets
  callS_of (ok_lesser_sets h F) F 1 [] [0] rfl (by decide) (by decide) fun _ _ _ _ _ _ us ws h1 h2 => match us, ws, h1, h2 with | [_], [], _, _ => rfl
theorem sc_meeting_sets : FnScope ["kinds", "sets", "told", "meets", "one", "other", "kind", "less"] ["kinds", "sets"] (defScope st_meeting_sets) := ⟨rfl, rfl, rfl, by decide +kernel, rfl, by decide +kernel, by decide +kernel⟩
def le_meeting_sets_1 : Z.Env → Res RV := (op2D D.isIn (nameD 6) (nameD 4))
def le_meeting_sets_2 : Z.Env → Res RV := (callD anyF (consA (lcD [6] (srcD (nameD 5)) (.nm 6) yesD le_meeting_sets_1) nilA))
def lb_meeting_sets_3 : Z.Env → SRes := (setIxD (nameD 3) (nameD 4) (callD allF (consA (lcD [5] (srcD (nameD 2)) (.nm 5) yesD le_meeting_sets_2) nilA)))
def le_meeting_sets_4 : Z.Env → Res RV := (ixD (nameD 3) (nameD 7))
def lt_meeting_sets_5 : Z.Env → Res Bool := (andD (testD (ixD (nameD 3) (nameD 4))) (notD (testD (callD anyF (consA (lcD [7] (srcD (callZ 1 0 [0] [] F_lesser_sets (consA (nameD 4) nilA) nilA)) (.nm 7) yesD le_meeting_sets_4) nilA)))))
def le_meeting_sets_6 : Z.Env → Res RV := (nameD 4)
def m_meeting_sets : Z.Env → SRes := (seqD (setD 0 (callZ 2 0 [0, 1] [] F_kinds_of (consA (conD (.str "abcd")) (consA (nameD 0) nilA)) nilA))
  (seqD (setD 2 (callZ 2 0 [0, 1] [] F_sets_of (consA (nameD 0) (consA (nameD 1) nilA)) nilA))
  (seqD (setD 3 newD)
  (seqD (forS (srcD (callZ 1 0 [0] [] F_kind_sets (consA (nameD 0) nilA) nilA)) (.nm 4)
  lb_meeting_sets_3)
  (rtD [1] (newVD tupleF (consA (flatD (lcKD [4] 3 (.nm 4) lt_meeting_sets_5 le_meeting_sets_6)) nilA)))))))
theorem ex_meeting_sets : ∃ G : List O → CRes, G = fnD 8 [1] m_meeting_sets := ⟨_, rfl⟩
def F_meeting_sets : List O → CRes := Classical.choose ex_meeting_sets
theorem eq_meeting_sets : F_meeting_sets = fnD 8 [1] m_meeting_sets := Classical.choose_spec ex_meeting_sets
theorem ok_meeting_sets (h : Wd P c mg) {fd : FuncData} (F : FunD c.K "meeting_sets" "meeting_sets" (defArgs st_meeting_sets) (defBody st_meeting_sets) (defScope st_meeting_sets) [] [] (c.fn 8) fd) : FnG P w c.K mg base (L2.CX P w) 5 (c.fn 8) fd ["kinds", "sets"] (spD c 2 F_meeting_sets) := by
  rw [eq_meeting_sets]
  have sc := sc_meeting_sets
  exact fnG_mk F sc fun cdv A outer s H E σ0 hr hgd =>
  (s_seq (s_set sc.nd rfl (Or.inl rfl) (d_fn bx_hp (cs_kinds_of_2 h) hr hgd h.g_kinds_of (cl_p (a_cons (d_gstr h.g_KINDS) (a_cons (d_name (pv 0)) a_nil)))))
  (s_seq (s_set sc.nd rfl (Or.inl rfl) (d_fn bx_hp (cs_sets_of_2 h) hr hgd h.g_sets_of (cl_p (a_cons (d_name (pv 0)) (a_cons (d_name (pv 1)) a_nil)))))
  (s_seq (s_set sc.nd rfl (Or.inr rfl) d_dnew)
  (s_seq (s_for bx_po rfl (i_seq rfl (d_fn bx_hp (cs_kind_sets_1 h) hr hgd h.g_kind_sets (cl_p (a_cons (d_name (pv 0)) a_nil)))) (tg_nm rfl sc.nd rfl (by first | exact Or.inl rfl | exact Or.inr rfl)) (s_one (s_setIx hr.u1 (d_callS (sc_all rfl) (pe_callB (cr_all rfl) rfl h.n_all rfl (a_cons (d_lc (own := [("other", 5)]) bx_hp rfl sc.nd rfl (blkOk_by rfl) (i_seq rfl (d_name (pv 2))) (fun _ _ _ _ _ _ => (tg_nm rfl sc.nd rfl (by first | exact Or.inl rfl | exact Or.inr rfl))) (fun _ _ _ _ _ _ _ hW => ts_nil) (fun _ _ _ _ _ _ _ hW => (d_callS (sc_any rfl) (pe_callB (cr_any rfl) rfl h.n_any rfl (a_cons (d_lc (own := [("kind", 6)]) hW rfl sc.nd rfl (blkOk_by rfl) (i_seq rfl (d_name (pv 5))) (fun _ _ _ _ _ _ => (tg_nm rfl sc.nd rfl (by first | exact Or.inl rfl | exact Or.inr rfl))) (fun _ _ _ _ _ _ _ hW => ts_nil) (fun _ _ _ _ _ _ _ hW => (d_cmp (op_inA hr.u65) sc_in (d_name (pv 6)) (d_name (pv 4)) rfl))) a_nil))))) a_nil))) (d_name (pv 3)) (d_name (pv 4)))))
  (s_one (s_ret (d_callT (nw_tuple rfl) (pe_callTy call_tuple_of rfl h.n_tuple rfl (a_cons (d_flat (d_lcK (own := [("one", 4)]) bx_hp rfl sc.nd rfl (blkOk_by rfl) (pv 3) (fun _ _ _ _ _ _ => (tg_nm rfl sc.nd rfl (by first | exact Or.inl rfl | exact Or.inr rfl))) (fun _ _ _ _ _ _ _ hW => (ts_one (t_w (t_and (t_val (d_ix hr.units rfl (d_name (pv 3)) (d_name (pv 4)))) (t_and1 (t_not (t_val (d_callS (sc_any rfl) (pe_callB (cr_any rfl) rfl h.n_any rfl (a_cons (d_lc (own := [("less", 7)]) hW rfl sc.nd rfl (blkOk_by rfl) (i_seq rfl (d_fn hW (cs_lesser_sets_1 h) hr hgd h.g_lesser_sets (cl_p (a_cons (d_name (pv 4)) a_nil)))) (fun _ _ _ _ _ _ => (tg_nm rfl sc.nd rfl (by first | exact Or.inl rfl | exact Or.inr rfl))) (fun _ _ _ _ _ _ _ hW => ts_nil) (fun _ _ _ _ _ _ _ hW => (d_ix hr.units rfl (d_name (pv 3)) (d_name (pv 7))))) a_nil)))))))))) (fun _ _ _ _ _ _ _ hW => (d_name (pv 4))))) a_nil)))))))))
theorem cs_meeting_sets_2 (h : Wd P c mg) : CallS P w c c.K mg base 5 2 [] (c.fn 8) [0, 1] [] F_meeting_sets :=
  let ⟨_, F⟩ := h.d_meeting_sets
  callS_of (ok_meeting_sets h F) F 2 [] [0, 1] rfl (by decide) (by decide) fun _ _ _ _ _ _ us ws h1 h2 => match us, ws, h1, h2 with | [_, _], [], _, _ => rfl
theorem cs_meeting_sets_0_sets_kinds (h : Wd P c mg) : CallS P w c c.K mg base 5 0 ["sets", "kinds"] (c.fn 8) [1, 0] [] F_meeting_sets :=
  let ⟨_, F⟩ := h.d_meeting_sets
  callS_of (ok_meeting_sets h F) F 0 ["sets", "kinds"] [1, 0] rfl (by decide) (by decide) fun _ _ _ _ _ _ us ws h1 h2 => match us, ws, h1, h2 with | [], [_, _], _, _ => rfl
theorem sc_complement_sets : FnScope ["kinds", "sets", "one", "kind"] ["kinds", "sets"] (defScope st_complement_sets) := ⟨rfl, rfl, rfl, by decide +kernel, rfl, by decide +kernel, by decide +kernel⟩
def lt_complement_sets_1 : Z.Env → Res Bool := (testD (op2D D.notIn (nameD 3) (nameD 2)))
def le_complement_sets_2 : Z.Env → Res RV := (nameD 3)
def le_complement_sets_3 : Z.Env → Res RV := (m1D joinAF (conD (.str "")) (lcD [3] (srcD (nameD 0)) (.nm 3) lt_complement_sets_1 le_complement_sets_2))
def m_complement_sets : Z.Env → SRes := (seqD (setD 0 (callZ 2 0 [0, 1] [] F_kinds_of (consA (conD (.str "abcd")) (consA (nameD 0) nilA)) nilA))
  (rtD [1] (newVD tupleF (consA (flatD (lcD [2] (srcD (callZ 2 0 [0, 1] [] F_sets_of (consA (nameD 0) (consA (nameD 1) nilA)) nilA)) (.nm 2) yesD le_complement_sets_3)) nilA))))
theorem ex_complement_sets : ∃ G : List O → CRes, G = fnD 4 [1] m_complement_sets := ⟨_, rfl⟩
def F_complement_sets : List O → CRes := Classical.choose ex_complement_sets
theorem eq_complement_sets : F_complement_sets = fnD 4 [1] m_complement_sets := Classical.choose_spec ex_complement_sets
theorem ok_complement_sets (h : Wd P c mg) {fd : FuncData} (F : FunD c.K "complement_sets" "complement_sets" (defArgs st_complement_sets) (defBody st_complement_sets) (defScope st_complement_sets) [] [] (c.fn 7) fd) : FnG P w c.K mg base (L2.CX P w) 5 (c.fn 7) fd ["kinds", "sets"] (spD c 2 F_complement_sets) := by
  rw [eq_complement_sets]
  have sc := sc_complement_sets
  exact fnG_mk F sc fun cdv A outer s H E σ0 hr hgd =>
  (s_seq (s_set sc.nd rfl (Or.inr rfl) (d_fn bx_hp (cs_kinds_of_2 h) hr hgd h.g_kinds_of (cl_p (a_cons (d_gstr h.g_KINDS) (a_cons (d_name (pv 0)) a_nil)))))
  (s_one (s_ret (d_callT (nw_tuple rfl) (pe_callTy call_tuple_of rfl h.n_tuple rfl (a_cons (d_flat (d_lc (own := [("one", 2)]) bx_hp rfl sc.nd rfl (blkOk_by rfl) (i_seq rfl (d_fn bx_hp (cs_sets_of_2 h) hr hgd h.g_sets_of (cl_p (a_cons (d_name (pv 0)) (a_cons (d_name (pv 1)) a_nil))))) (fun _ _ _ _ _ _ => (tg_nm rfl sc.nd rfl (by first | exact Or.inl rfl | exact Or.inr rfl))) (fun _ _ _ _ _ _ _ hW => ts_nil) (fun _ _ _ _ _ _ _ hW => (d_joinA rfl rfl d_str (d_lc (own := [("kind", 3)]) hW rfl sc.nd rfl (blkOk_by rfl) (i_seq rfl (d_name (pv 0))) (fun _ _ _ _ _ _ => (tg_nm rfl sc.nd rfl (by first | exact Or.inl rfl | exact Or.inr rfl))) (fun _ _ _ _ _ _ _ hW => (ts_one (t_cmp (op_notInA hr.u65) sc_notIn (d_name (pv 3)) (d_name (pv 2)) rfl))) (fun _ _ _ _ _ _ _ hW => (d_name (pv 3)))))))) a_nil))))))
theorem cs_complement_sets_2 (h : Wd P c mg) : CallS P w c c.K mg base 5 2 [] (c.fn 7) [0, 1] [] F_complement_sets :=
  let ⟨_, F⟩ := h.d_complement_sets
  callS_of (ok_complement_sets h F) F 2 [] [0, 1] rfl (by decide) (by decide) fun _ _ _ _ _ _ us ws h1 h2 => match us, ws, h1, h2 with | [_, _], [], _, _ => rfl
def tab__law_answer : TabL := [(8, [0, 1], [], F_meeting_sets), (7, [0, 1], [], F_complement_sets)]
theorem sc__law_answer : FnScope ["call", "kinds", "told", "fault"] ["call", "kinds", "told"] (defScope st__law_answer) := ⟨rfl, rfl, rfl, by decide +kernel, rfl, by decide +kernel, by decide +kernel⟩
def m__law_answer : Z.Env → SRes := (tryD (rtD [0, 1, 2] (tupD (consA (conD (.str "told")) (consA (callV 2 0 (fun j => tab__law_answer.lookup j) (consA (nameD 1) (consA (nameD 2) nilA))) nilA))))
  [(ct__law_answer_0, some 3, (rtD [0, 1, 2] (tupD (consA (conD (.str "none")) (consA (exFD [1] "letter" (nameD 3)) (consA (callD (isiF Tb) (consA (nameD 3) (consA (conD (.cl 0)) nilA))) nilA))))))])
theorem ex__law_answer : ∃ G : List O → CRes, G = fnD 4 [0, 1, 2] m__law_answer := ⟨_, rfl⟩
def F__law_answer : List O → CRes := Classical.choose ex__law_answer
theorem eq__law_answer : F__law_answer = fnD 4 [0, 1, 2] m__law_answer := Classical.choose_spec ex__law_answer
theorem ok__law_answer (h : Wd P c mg) {fd : FuncData} (F : FunD c.K "_law_answer" "_law_answer" (defArgs st__law_answer) (defBody st__law_answer) (defScope st__law_answer) [] [] (c.fn 16) fd) : FnG P w c.K mg base (L2.CX P w) 6 (c.fn 16) fd ["call", "kinds", "told"] (spD c 3 F__law_answer) := by
  rw [eq__law_answer]
  have sc := sc__law_answer
  exact fnG_mk F sc fun cdv A outer s H E σ0 hr hgd =>
  (s_one (s_try rfl rfl sc.nd bx_tk (fun W pn xe tk po => (s_one (s_ret (d_tup (a_consE d_str (a_cons (d_callV (HP.of_takes tk rfl rfl) (tabT_cons (cs_meeting_sets_2 h) (by decide) (tabT_cons (cs_complement_sets_2 h) (by decide) tabT_nil)) hr hgd (pv 0) (cl_p (a_cons (d_name (pv 1)) (a_cons (d_name (pv 2)) a_nil)))) a_nil) np_con))))) (HdsZ.named ⟨rfl, by decide, .inl h.g_NoLetter⟩ rfl rfl (fun _ _ _ _ => (s_one (s_ret (d_tup (a_cons d_str (a_cons (d_exF rfl (d_name (pv 3)) h.xf_letter) (a_cons (d_callS sc_isi (pe_callB (cr_isi rfl h.tab) rfl h.n_isinstance rfl (a_cons (d_name (pv 3)) (a_cons (d_clV h.g_RuelessError) a_nil)))) a_nil))))))) HdsZ.nil) (RdH.cons (h.ct__law_answer_0) (fun i hi => by cases hi; rfl) RdH.nil)))
theorem cs__law_answer_3 (h : Wd P c mg) : CallS P w c c.K mg base 6 3 [] (c.fn 16) [0, 1, 2] [] F__law_answer :=
  let ⟨_, F⟩ := h.d__law_answer
  callS_of (ok__law_answer h F) F 3 [] [0, 1, 2] rfl (by decide) (by decide) fun _ _ _ _ _ _ us ws h1 h2 => match us, ws, h1, h2 with | [_, _, _], [], _, _ => rfl
theorem sc__law_in : FnScope ["one", "other", "kind"] ["one", "other"] (defScope st__law_in) := ⟨rfl, rfl, rfl, by decide +kernel, rfl, by decide +kernel, by decide +kernel⟩
def lt__law_in_1 : Z.Env → Res Bool := (testD (op2D D.notIn (nameD 2) (nameD 1)))
def le__law_in_2 : Z.Env → Res RV := (nameD 2)
def m__law_in : Z.Env → SRes := (rtD [0, 1] (op2D D.eq (lcD [2] (srcD (nameD 0)) (.nm 2) lt__law_in_1 le__law_in_2) (lstD nilA)))
theorem ex__law_in : ∃ G : List O → CRes, G = fnD 3 [0, 1] m__law_in := ⟨_, rfl⟩
def F__law_in : List O → CRes := Classical.choose ex__law_in
theorem eq__law_in : F__law_in = fnD 3 [0, 1] m__law_in := Classical.choose_spec ex__law_in
theorem ok__law_in (h : Wd P c mg) {fd : FuncData} (F : FunD c.K "_law_in" "_law_in" (defArgs st__law_in) (defBody st__law_in) (defScope st__law_in) [] [] (c.fn 13) fd) : FnG P w c.K mg base (L2.CX P w) 1 (c.fn 13) fd ["one", "other"] (spD c 2 F__law_in) := by
  rw [eq__law_in]
  have sc := sc__law_in
  exact fnG_mk F sc fun cdv A outer s H E σ0 hr hgd =>
  (s_one (s_ret (d_cmp (op_eqD hr.units) sc_eq (d_lc (own := [("kind", 2)]) bx_hp rfl sc.nd rfl (blkOk_by rfl) (i_seq rfl (d_name (pv 0))) (fun _ _ _ _ _ _ => (tg_nm rfl sc.nd rfl (by first | exact Or.inl rfl | exact Or.inr rfl))) (fun _ _ _ _ _ _ _ hW => (ts_one (t_cmp (op_notInA hr.u65) sc_notIn (d_name (pv 2)) (d_name (pv 1)) rfl))) (fun _ _ _ _ _ _ _ hW => (d_name (pv 2)))) (d_lst a_nil) rfl)))
theorem cs__law_in_2 (h : Wd P c mg) : CallS P w c c.K mg base 1 2 [] (c.fn 13) [0, 1] [] F__law_in :=
  let ⟨_, F⟩ := h.d__law_in
  callS_of (ok__law_in h F) F 2 [] [0, 1] rfl (by decide) (by decide) fun _ _ _ _ _ _ us ws h1 h2 => match us, ws, h1, h2 with | [_, _], [], _, _ => rfl
theorem sc_law : FnScope ["script", "well", "kinds", "every", "sets", "told", "kept", "asked", "met", "least", "lacks", "turn", "row", "lots", "wrong", "due", "one", "less", "kind"] ["script"] (defScope st_law) := ⟨rfl, rfl, rfl, by decide +kernel, rfl, by decide +kernel, by decide +kernel⟩
def s_law_1 : Z.Env → SRes := (setD 1 (callZ 2 0 [0, 1] [] F__law_well (consA (nameD 0) (consA (conD (.int 0)) nilA)) nilA))
def s_law_2 : Z.Env → SRes := (setD 2 (callZ 2 0 [0, 1] [] F__law_one (consA (nameD 1) (consA (lstD (consA (conD (.str "abcd")) (consA (conD (.str "abcd")) (consA (conD (.str "abc")) (consA (conD (.str "abd")) (consA (conD (.str "bd")) (consA (conD (.str "c")) (consA (conD (.str "")) nilA)))))))) nilA)) nilA))
def s_law_3 : Z.Env → SRes := (setD 3 (callZ 1 0 [0] [] F__law_sets (consA (nameD 2) nilA) nilA))
def le_law_1 : Z.Env → Res RV := (callZ 2 0 [0, 1] [] F__law_one (consA (nameD 1) (consA (nameD 3) nilA)) nilA)
def s_law_4 : Z.Env → SRes := (setD 4 (lcD [11] (rangeD range1 (consA (callZ 2 0 [0, 1] [] F__law_draw (consA (nameD 1) (consA (conD (.int 6)) nilA)) nilA) nilA)) (.nm 11) yesD le_law_1))
def lt_law_2 : Z.Env → Res Bool := (testD (op2D D.ne (nameD 16) (conD (.str ""))))
def le_law_3 : Z.Env → Res RV := (nameD 16)
def s_law_5 : Z.Env → SRes := (ifS (testD (op2D D.gt (callZ 2 0 [0, 1] [] F__law_draw (consA (nameD 1) (consA (conD (.int 3)) nilA)) nilA) (conD (.int 0))))
  (setD 4 (lcD [16] (srcD (nameD 4)) (.nm 16) lt_law_2 le_law_3)) passD)
def le_law_4 : Z.Env → Res RV := (callZ 2 0 [0, 1] [] F__law_told (consA (nameD 1) (consA (nameD 16) nilA)) nilA)
def s_law_6 : Z.Env → SRes := (setD 5 (lcD [16] (srcD (nameD 4)) (.nm 16) yesD le_law_4))
def s_law_7 : Z.Env → SRes := (parD 6 7 (consA (callD reprF (consA (nameD 5) nilA)) (consA (callZ 2 0 [0, 1] [] F__law_told (consA (nameD 1) (consA (nameD 2) nilA)) nilA) nilA)))
def lt_law_5 : Z.Env → Res Bool := (testD (callZ 2 0 [0, 1] [] F__law_meets (consA (nameD 16) (consA (nameD 4) nilA)) nilA))
def le_law_6 : Z.Env → Res RV := (nameD 16)
def s_law_8 : Z.Env → SRes := (setD 8 (lcD [16] (srcD (nameD 3)) (.nm 16) lt_law_5 le_law_6))
def lt_law_7 : Z.Env → Res Bool := (andD (testD (op2D D.ne (nameD 17) (nameD 16))) (testD (callZ 2 0 [0, 1] [] F__law_in (consA (nameD 17) (consA (nameD 16) nilA)) nilA)))
def le_law_8 : Z.Env → Res RV := (nameD 17)
def lt_law_9 : Z.Env → Res Bool := (testD (op2D D.eq (lcD [17] (srcD (nameD 8)) (.nm 17) lt_law_7 le_law_8) (lstD nilA)))
def le_law_10 : Z.Env → Res RV := (nameD 16)
def s_law_9 : Z.Env → SRes := (setD 9 (lcD [16] (srcD (nameD 8)) (.nm 16) lt_law_9 le_law_10))
def lt_law_11 : Z.Env → Res Bool := (testD (op2D D.notIn (nameD 18) (nameD 16)))
def le_law_12 : Z.Env → Res RV := (nameD 18)
def le_law_13 : Z.Env → Res RV := (m1D joinAF (conD (.str "")) (lcD [18] (srcD (nameD 2)) (.nm 18) lt_law_11 le_law_12))
def s_law_10 : Z.Env → SRes := (setD 10 (lcD [16] (srcD (nameD 4)) (.nm 16) yesD le_law_13))
def lb_law_14 : Z.Env → SRes := (seqD (ifS (orD (testD (op2D D.ne (callD reprF (consA (callZ 2 0 [0, 1] [] F_meeting_sets (consA (nameD 7) (consA (nameD 5) nilA)) nilA) nilA)) (callD reprF (consA (newVD tupleF (consA (flatD (nameD 9)) nilA)) nilA)))) (testD (op2D D.ne (callD reprF (consA (callZ 2 0 [0, 1] [] F_complement_sets (consA (nameD 7) (consA (nameD 5) nilA)) nilA) nilA)) (callD reprF (consA (newVD tupleF (consA (flatD (nameD 10)) nilA)) nilA)))))
  (rtD [0] (conD (.bl false))) passD)
  (ifS (testD (op2D D.ne (callD reprF (consA (callZ 0 2 [1, 0] [] F_meeting_sets nilA (consA (newVD tupleF (consA (flatD (nameD 5)) nilA)) (consA (nameD 2) nilA))) nilA)) (callD reprF (consA (newVD tupleF (consA (flatD (nameD 9)) nilA)) nilA))))
  (rtD [0] (conD (.bl false))) passD))
def s_law_11 : Z.Env → SRes := (forS (rangeD range1 (consA (conD (.int 2)) nilA)) (.nm 11)
  lb_law_14)
def s_law_12 : Z.Env → SRes := (ifS (testD (op2D D.ne (callD reprF (consA (nameD 5) nilA)) (nameD 6)))
  (rtD [0] (conD (.bl false))) passD)
def s_law_13 : Z.Env → SRes := (setTD (.tp [.nm 12, .nm 13, .nm 14]) (callZ 3 0 [0, 1, 2] [] F__law_bad (consA (nameD 1) (consA (nameD 2) (consA (nameD 5) nilA))) nilA))
def s_law_14 : Z.Env → SRes := (setD 15 (callD reprF (consA (tupD (consA (conD (.str "none")) (consA (nameD 14) (consA (conD (.bl false)) nilA)))) nilA)))
def s_law_15 : Z.Env → SRes := (rtD [0] (andV (op2D D.eq (callD reprF (consA (callZ 3 0 [0, 1, 2] [] F__law_answer (consA (conD (.fn 8)) (consA (nameD 12) (consA (nameD 13) nilA))) nilA) nilA)) (nameD 15)) (op2D D.eq (callD reprF (consA (callZ 3 0 [0, 1, 2] [] F__law_answer (consA (conD (.fn 7)) (consA (nameD 12) (consA (nameD 13) nilA))) nilA) nilA)) (nameD 15))))
def m_law : Z.Env → SRes := (seqD s_law_1
  (seqD s_law_2
  (seqD s_law_3
  (seqD s_law_4
  (seqD s_law_5
  (seqD s_law_6
  (seqD s_law_7
  (seqD s_law_8
  (seqD s_law_9
  (seqD s_law_10
  (seqD s_law_11
  (seqD s_law_12
  (seqD s_law_13
  (seqD s_law_14
  s_law_15))))))))))))))
theorem ex_law : ∃ G : List O → CRes, G = fnD 19 [0] m_law := ⟨_, rfl⟩
def F_law : List O → CRes := Classical.choose ex_law
theorem eq_law : F_law = fnD 19 [0] m_law := Classical.choose_spec ex_law
theorem ok_law (h : Wd P c mg) {fd : FuncData} (F : FunD c.K "law" "law" (defArgs st_law) (defBody st_law) (defScope st_law) [] [] (c.fn 18) fd) : FnG P w c.K mg base (L2.CX P w) 7 (c.fn 18) fd ["script"] (spD c 1 F_law) := by
  rw [eq_law]
  have sc := sc_law
  exact fnG_mk F sc fun cdv A outer s H E σ0 hr hgd =>
  (s_seq (s_set sc.nd rfl (Or.inr rfl) (d_fn bx_hp (cs__law_well_2 h) hr hgd h.g__law_well (cl_p (a_cons (d_name (pv 0)) (a_cons d_int a_nil)))))
  (s_seq (s_set sc.nd rfl (Or.inr rfl) (d_fn bx_hp (cs__law_one_2 h) hr hgd h.g__law_one (cl_p (a_cons (d_name (pv 1)) (a_cons (d_lst (a_cons d_str (a_cons d_str (a_cons d_str (a_cons d_str (a_cons d_str (a_cons d_str (a_cons d_str a_nil)))))))) a_nil)))))
  (s_seq (s_set sc.nd rfl (Or.inr rfl) (d_fn bx_hp (cs__law_sets_1 h) hr hgd h.g__law_sets (cl_p (a_cons (d_name (pv 2)) a_nil))))
  (s_seq (s_set sc.nd rfl (Or.inr rfl) (d_lc (own := [("turn", 11)]) bx_hp rfl sc.nd rfl (blkOk_by rfl) (i_range1 (a_cons (d_fn bx_hp (cs__law_draw_2 h) hr hgd h.g__law_draw (cl_p (a_cons (d_name (pv 1)) (a_cons d_int a_nil)))) a_nil) rfl h.n_range) (fun _ _ _ _ _ _ => (tg_nm rfl sc.nd rfl (by first | exact Or.inl rfl | exact Or.inr rfl))) (fun _ _ _ _ _ _ _ hW => ts_nil) (fun _ _ _ _ _ _ _ hW => (d_fn hW (cs__law_one_2 h) hr hgd h.g__law_one (cl_p (a_cons (d_name (pv 1)) (a_cons (d_name (pv 3)) a_nil)))))))
  (s_seq (s_if (t_cmp op_gt sc_gt (d_fn bx_hp (cs__law_draw_2 h) hr hgd h.g__law_draw (cl_p (a_cons (d_name (pv 1)) (a_cons d_int a_nil)))) d_int rfl) (s_one (s_set sc.nd rfl (Or.inr rfl) (d_lc (own := [("one", 16)]) bx_hp rfl sc.nd rfl (blkOk_by rfl) (i_seq rfl (d_name (pv 4))) (fun _ _ _ _ _ _ => (tg_nm rfl sc.nd rfl (by first | exact Or.inl rfl | exact Or.inr rfl))) (fun _ _ _ _ _ _ _ hW => (ts_one (t_cmp (op_neD hr.units) sc_ne (d_name (pv 16)) d_str rfl))) (fun _ _ _ _ _ _ _ hW => (d_name (pv 16)))))) s_nil)
  (s_seq (s_setLc (own := [("one", 16)]) bx_hp rfl sc.nd rfl rfl rfl (sw_true rfl rfl rfl rfl) (blkOk_by rfl) (i_seq rfl (d_name (pv 4))) (fun _ _ _ _ _ _ => (tg_nm rfl sc.nd rfl (by first | exact Or.inl rfl | exact Or.inr rfl))) (fun _ _ _ _ _ _ _ hW => ts_nil) (fun _ _ _ _ _ _ _ hW => (d_fn hW (cs__law_told_2 h) hr hgd h.g__law_told (cl_p (a_cons (d_name (pv 1)) (a_cons (d_name (pv 16)) a_nil))))))
  (s_seq (s_par rfl sc.nd rfl rfl (by decide) rfl rfl (a_consE (d_callS (sc_repr rfl) (pe_callB (cr_repr hr.units hgd) rfl h.n_repr rfl (a_cons (d_name (pv 5)) a_nil))) (a_cons (d_fn bx_hp (cs__law_told_2 h) hr hgd h.g__law_told (cl_p (a_cons (d_name (pv 1)) (a_cons (d_name (pv 2)) a_nil)))) a_nil) np_callD))
  (s_seq (s_set sc.nd rfl (Or.inr rfl) (d_lc (own := [("one", 16)]) bx_hp rfl sc.nd rfl (blkOk_by rfl) (i_seq rfl (d_name (pv 3))) (fun _ _ _ _ _ _ => (tg_nm rfl sc.nd rfl (by first | exact Or.inl rfl | exact Or.inr rfl))) (fun _ _ _ _ _ _ _ hW => (ts_one (t_val (d_fn hW (cs__law_meets_2 h) hr hgd h.g__law_meets (cl_p (a_cons (d_name (pv 16)) (a_cons (d_name (pv 4)) a_nil))))))) (fun _ _ _ _ _ _ _ hW => (d_name (pv 16)))))
  (s_seq (s_setLc (own := [("one", 16)]) bx_hp rfl sc.nd rfl rfl rfl (sw_true rfl rfl rfl rfl) (blkOk_by rfl) (i_seq rfl (d_name (pv 8))) (fun _ _ _ _ _ _ => (tg_nm rfl sc.nd rfl (by first | exact Or.inl rfl | exact Or.inr rfl))) (fun _ _ _ _ _ _ _ hW => (ts_one (t_cmp (op_eqD hr.units) sc_eq (d_lc (own := [("less", 17)]) hW rfl sc.nd rfl (blkOk_by rfl) (i_seq rfl (d_name (pv 8))) (fun _ _ _ _ _ _ => (tg_nm rfl sc.nd rfl (by first | exact Or.inl rfl | exact Or.inr rfl))) (fun _ _ _ _ _ _ _ hW => (ts_one (t_w (t_and (t_cmp (op_neD hr.units) sc_ne (d_name (pv 17)) (d_name (pv 16)) rfl) (t_and1 (t_val (d_fn hW (cs__law_in_2 h) hr hgd h.g__law_in (cl_p (a_cons (d_name (pv 17)) (a_cons (d_name (pv 16)) a_nil)))))))))) (fun _ _ _ _ _ _ _ hW => (d_name (pv 17)))) (d_lst a_nil) rfl))) (fun _ _ _ _ _ _ _ hW => (d_name (pv 16))))
  (s_seq (s_setLc (own := [("one", 16)]) bx_hp rfl sc.nd rfl rfl rfl (sw_true rfl rfl rfl rfl) (blkOk_by rfl) (i_seq rfl (d_name (pv 4))) (fun _ _ _ _ _ _ => (tg_nm rfl sc.nd rfl (by first | exact Or.inl rfl | exact Or.inr rfl))) (fun _ _ _ _ _ _ _ hW => ts_nil) (fun _ _ _ _ _ _ _ hW => (d_joinA rfl rfl d_str (d_lc (own := [("kind", 18)]) hW rfl sc.nd rfl (blkOk_by rfl) (i_seq rfl (d_name (pv 2))) (fun _ _ _ _ _ _ => (tg_nm rfl sc.nd rfl (by first | exact Or.inl rfl | exact Or.inr rfl))) (fun _ _ _ _ _ _ _ hW => (ts_one (t_cmp (op_notInA hr.u65) sc_notIn (d_name (pv 18)) (d_name (pv 16)) rfl))) (fun _ _ _ _ _ _ _ hW => (d_name (pv 18)))))))
  (s_seq (s_for bx_po rfl (i_range1 (a_cons d_int a_nil) rfl h.n_range) (tg_nm rfl sc.nd rfl (by first | exact Or.inl rfl | exact Or.inr rfl)) (s_seq (s_if (t_w (t_or (t_cmp (op_neD hr.units) sc_ne (d_callS (sc_repr rfl) (pe_callB (cr_repr hr.units hgd) rfl h.n_repr rfl (a_cons (d_fn bx_hp (cs_meeting_sets_2 h) hr hgd h.g_meeting_sets (cl_p (a_cons (d_name (pv 7)) (a_cons (d_name (pv 5)) a_nil)))) a_nil))) (d_callS (sc_repr rfl) (pe_callB (cr_repr hr.units hgd) rfl h.n_repr rfl (a_cons (d_callT (nw_tuple rfl) (pe_callTy call_tuple_of rfl h.n_tuple rfl (a_cons (d_flat (d_name (pv 9))) a_nil))) a_nil))) rfl) (t_or1 (t_cmp (op_neD hr.units) sc_ne (d_callS (sc_repr rfl) (pe_callB (cr_repr hr.units hgd) rfl h.n_repr rfl (a_cons (d_fn bx_hp (cs_complement_sets_2 h) hr hgd h.g_complement_sets (cl_p (a_cons (d_name (pv 7)) (a_cons (d_name (pv 5)) a_nil)))) a_nil))) (d_callS (sc_repr rfl) (pe_callB (cr_repr hr.units hgd) rfl h.n_repr rfl (a_cons (d_callT (nw_tuple rfl) (pe_callTy call_tuple_of rfl h.n_tuple rfl (a_cons (d_flat (d_name (pv 10))) a_nil))) a_nil))) rfl)))) (s_one (s_ret d_bl)) s_nil)
  (s_one (s_if (t_cmp (op_neD hr.units) sc_ne (d_callS (sc_repr rfl) (pe_callB (cr_repr hr.units hgd) rfl h.n_repr rfl (a_cons (d_fn bx_hp (cs_meeting_sets_0_sets_kinds h) hr hgd h.g_meeting_sets (cl_k0 (k_cons (d_callT (nw_tuple rfl) (pe_callTy call_tuple_of rfl h.n_tuple rfl (a_cons (d_flat (d_name (pv 5))) a_nil))) (k_cons (d_name (pv 2)) k_nil)))) a_nil))) (d_callS (sc_repr rfl) (pe_callB (cr_repr hr.units hgd) rfl h.n_repr rfl (a_cons (d_callT (nw_tuple rfl) (pe_callTy call_tuple_of rfl h.n_tuple rfl (a_cons (d_flat (d_name (pv 9))) a_nil))) a_nil))) rfl) (s_one (s_ret d_bl)) s_nil))))
  (s_seq (s_if (t_cmp (op_neD hr.units) sc_ne (d_callS (sc_repr rfl) (pe_callB (cr_repr hr.units hgd) rfl h.n_repr rfl (a_cons (d_name (pv 5)) a_nil))) (d_name (pv 6)) rfl) (s_one (s_ret d_bl)) s_nil)
  (s_seq (s_setT (d_fn bx_hp (cs__law_bad_3 h) hr hgd h.g__law_bad (cl_p (a_cons (d_name (pv 1)) (a_cons (d_name (pv 2)) (a_cons (d_name (pv 5)) a_nil))))) (tg_tp rfl rfl (tgs_cons (tg_nm rfl sc.nd rfl (by first | exact Or.inl rfl | exact Or.inr rfl)) (tgs_cons (tg_nm rfl sc.nd rfl (by first | exact Or.inl rfl | exact Or.inr rfl)) (tgs_cons (tg_nm rfl sc.nd rfl (by first | exact Or.inl rfl | exact Or.inr rfl)) tgs_nil)))))
  (s_seq (s_set sc.nd rfl (Or.inl rfl) (d_callS (sc_repr rfl) (pe_callB (cr_repr hr.units hgd) rfl h.n_repr rfl (a_cons (d_tup (a_cons d_str (a_cons (d_name (pv 14)) (a_cons d_bl a_nil)))) a_nil))))
  (s_one (s_ret (d_and (d_cmp (op_eqD hr.units) sc_eq (d_callS (sc_repr rfl) (pe_callB (cr_repr hr.units hgd) rfl h.n_repr rfl (a_cons (d_fn bx_hp (cs__law_answer_3 h) hr hgd h.g__law_answer (cl_p (a_cons (d_fnV h.g_meeting_sets) (a_cons (d_name (pv 12)) (a_cons (d_name (pv 13)) a_nil))))) a_nil))) (d_name (pv 15)) rfl) (d_one (d_cmp (op_eqD hr.units) sc_eq (d_callS (sc_repr rfl) (pe_callB (cr_repr hr.units hgd) rfl h.n_repr rfl (a_cons (d_fn bx_hp (cs__law_answer_3 h) hr hgd h.g__law_answer (cl_p (a_cons (d_fnV h.g_complement_sets) (a_cons (d_name (pv 12)) (a_cons (d_name (pv 13)) a_nil))))) a_nil))) (d_name (pv 15)) rfl)))))))))))))))))))
end
end K65

set_option maxRecDepth 100000
set_option maxHeartbeats 2000000
namespace K65
open PySem L2 PySem.Spec PyProof.Rows Z
/-! ### the plain law: the well -/
def wellO (a b : Int) : O := .lst [.val (.int a), .val (.int b)]
def WellOk (o : O) : Prop := ∃ a b : Int, o = wellO a b ∧ 0 ≤ a ∧ 0 ≤ b ∧ b < 2147483648
theorem draw_old (a b m : Int) (ha : 0 < a) (hm : 0 < m) (hm2 : m < 1073741824) : F__law_draw [wellO a b, .val (.int m)] = .ok (.val (.int (a % m))) [wellO (a / m) b, .val (.int m)] := by
  simp [eq__law_draw, m__law_draw, wellO, ha, hm, hm2, seqD, ifS, forS, testD, op2D, op1D, ixD, nameD, conD, Z.Env.at, Res.bind, Res.of, Res.s, RV.get, RV.fz, O.fz, ixR, RV.part, Z.scal, sv, RV.bool, setD, callD, consA, nilA, fzs, RV.take, setIxD, storeIx, rtD, RV.out, Z.Env.put, endD, outsL, headO, valO, Z.O.get, Z.O.put, fnD, startE, callZ, argsZ, callR, lend, unlend, arrange, passD, rtN, addD, addF, RV.sh, O.sh, vals, andD, orD, notD, ifD, newLD, newVD, shs, lstD, tupD, takes, fzL, ixN, atI, D.add, D.sub, D.mul, D.fdiv, D.mod, D.gt, D.ge, D.lt, D.le, intF, absF, lenF, mulOk_eq, divOk_eq, flatD, RV.flat, vals_flatO, fzL_mv, vals_mv, fzL_append, fzL_vals]
theorem draw_new (a b m : Int) (ha : ¬ 0 < a) (hb : 0 ≤ b) (hb2 : b < 2147483648) (hm : 0 < m) : ∃ k b' : Int, F__law_draw [wellO a b, .val (.int m)] = .ok (.val (.int k)) [wellO a b', .val (.int m)] ∧ 0 ≤ k ∧ k < m ∧ 0 ≤ b' ∧ b' < 2147483648 := by
  have h2 : 0 ≤ (b * 48271 + 11) % 2147483647 := Int.emod_nonneg _ (by decide)
  have h3 : (b * 48271 + 11) % 2147483647 < 2147483647 := Int.emod_lt_of_pos _ (by decide)
  refine ⟨((((b * 48271 + 11) % 2147483647 / 7 + (b * 48271 + 11) % 2147483647) * 69621) % 2147483563 / 1021) % m, (b * 48271 + 11) % 2147483647, ?_, Int.emod_nonneg _ (by omega), Int.emod_lt_of_pos _ hm, h2, by omega⟩
  simp [eq__law_draw, m__law_draw, wellO, ha, hm, seqD, ifS, forS, testD, op2D, op1D, ixD, nameD, conD, Z.Env.at, Res.bind, Res.of, Res.s, RV.get, RV.fz, O.fz, ixR, RV.part, Z.scal, sv, RV.bool, setD, callD, consA, nilA, fzs, RV.take, setIxD, storeIx, rtD, RV.out, Z.Env.put, endD, outsL, headO, valO, Z.O.get, Z.O.put, fnD, startE, callZ, argsZ, callR, lend, unlend, arrange, passD, rtN, addD, addF, RV.sh, O.sh, vals, andD, orD, notD, ifD, newLD, newVD, shs, lstD, tupD, takes, fzL, ixN, atI, D.add, D.sub, D.mul, D.fdiv, D.mod, D.gt, D.ge, D.lt, D.le, intF, absF, lenF, mulOk_eq, divOk_eq, flatD, RV.flat, vals_flatO, fzL_mv, vals_mv, fzL_append, fzL_vals]
/-- a draw -/
theorem draw (w : O) (hw : WellOk w) (m : Int) (hm : 0 < m) (hm2 : m < 1073741824) : ∃ (k : Int) (w' : O), F__law_draw [w, .val (.int m)] = .ok (.val (.int k)) [w', .val (.int m)] ∧ 0 ≤ k ∧ k < m ∧ WellOk w' := by
  obtain ⟨a, b, rfl, ha, hb, hb2⟩ := hw
  by_cases h : 0 < a
  · exact ⟨_, _, draw_old a b m h hm hm2, Int.emod_nonneg _ (by omega), Int.emod_lt_of_pos _ hm, _, _, rfl, Int.ediv_nonneg ha (by omega), hb, hb2⟩
  · obtain ⟨k, b', e, h1, h2, h3, h4⟩ := draw_new a b m h hb hb2 hm
    exact ⟨k, _, e, h1, h2, _, _, rfl, ha, h3, h4⟩
/-- one of some, which are data -/
theorem one_of (w : O) (hw : WellOk w) (some_ : O) (ds : List D) (hs : some_ = .val (.lst ds) ∨ some_ = .lst (ds.map .val)) (h0 : ds ≠ []) (hl : ds.length < 1000000) : ∃ (d : D) (w' : O), F__law_one [w, some_] = .ok (.val d) [w', some_] ∧ d ∈ ds ∧ WellOk w' := by
  have hpos : 0 < ds.length := List.length_pos_iff.mpr h0
  obtain ⟨k, w', e, h1, h2, h3⟩ := draw w hw ds.length (by omega) (by omega)
  have hk : k.toNat < ds.length := by omega
  refine ⟨ds[k.toNat], w', ?_, List.getElem_mem hk, h3⟩
  have hix : (0 ≤ k) ∧ k < (ds.length : Int) := ⟨h1, h2⟩
  obtain ⟨a, b, rfl, _⟩ := hw
  obtain ⟨a', b', rfl, _⟩ := h3
  have fz := fzL_vals ds
  unfold wellO at e ⊢
  rcases hs with rfl | rfl
  · simp [eq__law_one, m__law_one, e, hk, hix, seqD, ifS, forS, testD, op2D, op1D, ixD, nameD, conD, Z.Env.at, Res.bind, Res.of, Res.s, RV.get, RV.fz, O.fz, ixR, RV.part, Z.scal, sv, RV.bool, setD, callD, consA, nilA, fzs, RV.take, setIxD, storeIx, rtD, RV.out, Z.Env.put, endD, outsL, headO, valO, Z.O.get, Z.O.put, fnD, startE, callZ, argsZ, callR, lend, unlend, arrange, passD, rtN, addD, addF, RV.sh, O.sh, vals, andD, orD, notD, ifD, newLD, newVD, shs, lstD, tupD, takes, fzL, ixN, atI, D.add, D.sub, D.mul, D.fdiv, D.mod, D.gt, D.ge, D.lt, D.le, intF, absF, lenF, mulOk_eq, divOk_eq, flatD, RV.flat, vals_flatO, fzL_mv, vals_mv, fzL_append, fzL_vals]
  · simp [eq__law_one, m__law_one, e, fz, hk, hix, seqD, ifS, forS, testD, op2D, op1D, ixD, nameD, conD, Z.Env.at, Res.bind, Res.of, Res.s, RV.get, RV.fz, O.fz, ixR, RV.part, Z.scal, sv, RV.bool, setD, callD, consA, nilA, fzs, RV.take, setIxD, storeIx, rtD, RV.out, Z.Env.put, endD, outsL, headO, valO, Z.O.get, Z.O.put, fnD, startE, callZ, argsZ, callR, lend, unlend, arrange, passD, rtN, addD, addF, RV.sh, O.sh, vals, andD, orD, notD, ifD, newLD, newVD, shs, lstD, tupD, takes, fzL, ixN, atI, D.add, D.sub, D.mul, D.fdiv, D.mod, D.gt, D.ge, D.lt, D.le, intF, absF, lenF, mulOk_eq, divOk_eq, flatD, RV.flat, vals_flatO, fzL_mv, vals_mv, fzL_append, fzL_vals]
/-! ### the script's well -/
theorem well_turn (sc k0 : Option O) (c s : Int) (h1 : 0 ≤ s) (h2 : s < 2147483648) : ∃ s' : Int, lb__law_well_1 [sc, k0, some (.val (.int s)), some (.val (.int c))] = .nx [sc, k0, some (.val (.int s')), some (.val (.int c))] ∧ 0 ≤ s' ∧ s' < 2147483648 := by
  refine ⟨(s * 16807 + (if c < 0 then -c else c) % 1000003) % 2147483629 + 1, ?_, ?_, ?_⟩
  · simp [lb__law_well_1, seqD, ifS, forS, testD, op2D, op1D, ixD, nameD, conD, Z.Env.at, Res.bind, Res.of, Res.s, RV.get, RV.fz, O.fz, ixR, RV.part, Z.scal, sv, RV.bool, setD, callD, consA, nilA, fzs, RV.take, setIxD, storeIx, rtD, RV.out, Z.Env.put, endD, outsL, headO, valO, Z.O.get, Z.O.put, fnD, startE, callZ, argsZ, callR, lend, unlend, arrange, passD, rtN, addD, addF, RV.sh, O.sh, vals, andD, orD, notD, ifD, newLD, newVD, shs, lstD, tupD, takes, fzL, ixN, atI, D.add, D.sub, D.mul, D.fdiv, D.mod, D.gt, D.ge, D.lt, D.le, intF, absF, lenF, mulOk_eq, divOk_eq, flatD, RV.flat, vals_flatO, fzL_mv, vals_mv, fzL_append, fzL_vals]
  · have := Int.emod_nonneg (s * 16807 + (if c < 0 then -c else c) % 1000003) (b := 2147483629) (by decide)
    omega
  · have := Int.emod_lt_of_pos (s * 16807 + (if c < 0 then -c else c) % 1000003) (b := 2147483629) (by decide)
    omega
theorem well_loop (sc k0 : Option O) : ∀ (cs : List Int) (s : Int) (c : Option O), 0 ≤ s → s < 2147483648 → ∃ (s' : Int) (c' : Option O), loopD (Tgt.nm 3).st lb__law_well_1 (cs.map .int) [sc, k0, some (.val (.int s)), c] = .nx [sc, k0, some (.val (.int s')), c'] ∧ 0 ≤ s' ∧ s' < 2147483648
  | [], s, c, h1, h2 => ⟨s, c, rfl, h1, h2⟩
  | d :: cs, s, c, h1, h2 => by
    obtain ⟨s1, e1, h3, h4⟩ := well_turn sc k0 d s h1 h2
    obtain ⟨s2, c2, e2, h5, h6⟩ := well_loop sc k0 cs s1 (some (.val (.int d))) h3 h4
    refine ⟨s2, c2, ?_, h5, h6⟩
    rw [List.map_cons, loopD]
    have hs : (Tgt.nm 3).st (.int d) [sc, k0, some (.val (.int s)), c] = some [sc, k0, some (.val (.int s)), some (.val (.int d))] := by simp [Tgt.st]
    rw [hs]
    dsimp only
    rw [e1]
    exact e2
theorem well_seed (ns : List Int) : ∃ w, F__law_well [.val (.lst (ns.map .int)), .val (.int 0)] = .ok w [.val (.lst (ns.map .int)), .val (.int 0)] ∧ WellOk w := by
  have hc : Z.cutD (ns.map D.int) none (some 40) = (ns.take 40).map D.int := by
    unfold Z.cutD
    simp [HT.sIx]
  obtain ⟨s, c, e, h1, h2⟩ := well_loop (some (.val (.lst (ns.map .int)))) (some (.val (.int 0))) (ns.take 40) 41 none (by decide) (by decide)
  rw [← hc] at e
  have fz := fzL_vals (Z.cutD (ns.map D.int) none (some 40))
  clear hc
  cases ns with
  | nil =>
    simp only [List.map_nil] at e fz
    refine ⟨wellO 0 s, ?_, 0, s, rfl, by decide, h1, h2⟩
    simp [eq__law_well, m__law_well, slD, srcD, noneP, someP, slF, D.items, fz, e, wellO, seqD, ifS, forS, testD, op2D, op1D, ixD, nameD, conD, Z.Env.at, Res.bind, Res.of, Res.s, RV.get, RV.fz, O.fz, ixR, RV.part, Z.scal, sv, RV.bool, setD, callD, consA, nilA, fzs, RV.take, setIxD, storeIx, rtD, RV.out, Z.Env.put, endD, outsL, headO, valO, Z.O.get, Z.O.put, fnD, startE, callZ, argsZ, callR, lend, unlend, arrange, passD, rtN, addD, addF, RV.sh, O.sh, vals, andD, orD, notD, ifD, newLD, newVD, shs, lstD, tupD, takes, fzL, ixN, atI, D.add, D.sub, D.mul, D.fdiv, D.mod, D.gt, D.ge, D.lt, D.le, intF, absF, lenF, mulOk_eq, divOk_eq, flatD, RV.flat, vals_flatO, fzL_mv, vals_mv, fzL_append, fzL_vals]
  | cons n r =>
    simp only [List.map_cons] at e fz
    by_cases h : 1000000000000000000 ≤ (if n < 0 then -n else n)
    · refine ⟨wellO (if n < 0 then -n else n) 3, ?_, _, 3, rfl, by omega, by decide, by decide⟩
      simp [eq__law_well, m__law_well, slD, srcD, noneP, someP, slF, D.items, D.pow, powOk_eq, h, wellO, seqD, ifS, forS, testD, op2D, op1D, ixD, nameD, conD, Z.Env.at, Res.bind, Res.of, Res.s, RV.get, RV.fz, O.fz, ixR, RV.part, Z.scal, sv, RV.bool, setD, callD, consA, nilA, fzs, RV.take, setIxD, storeIx, rtD, RV.out, Z.Env.put, endD, outsL, headO, valO, Z.O.get, Z.O.put, fnD, startE, callZ, argsZ, callR, lend, unlend, arrange, passD, rtN, addD, addF, RV.sh, O.sh, vals, andD, orD, notD, ifD, newLD, newVD, shs, lstD, tupD, takes, fzL, ixN, atI, D.add, D.sub, D.mul, D.fdiv, D.mod, D.gt, D.ge, D.lt, D.le, intF, absF, lenF, mulOk_eq, divOk_eq, flatD, RV.flat, vals_flatO, fzL_mv, vals_mv, fzL_append, fzL_vals]
    · refine ⟨wellO 0 s, ?_, 0, s, rfl, by decide, h1, h2⟩
      simp [eq__law_well, m__law_well, slD, srcD, noneP, someP, slF, D.items, D.pow, powOk_eq, h, fz, e, wellO, seqD, ifS, forS, testD, op2D, op1D, ixD, nameD, conD, Z.Env.at, Res.bind, Res.of, Res.s, RV.get, RV.fz, O.fz, ixR, RV.part, Z.scal, sv, RV.bool, setD, callD, consA, nilA, fzs, RV.take, setIxD, storeIx, rtD, RV.out, Z.Env.put, endD, outsL, headO, valO, Z.O.get, Z.O.put, fnD, startE, callZ, argsZ, callR, lend, unlend, arrange, passD, rtN, addD, addF, RV.sh, O.sh, vals, andD, orD, notD, ifD, newLD, newVD, shs, lstD, tupD, takes, fzL, ixN, atI, D.add, D.sub, D.mul, D.fdiv, D.mod, D.gt, D.ge, D.lt, D.le, intF, absF, lenF, mulOk_eq, divOk_eq, flatD, RV.flat, vals_flatO, fzL_mv, vals_mv, fzL_append, fzL_vals]
/-! ### a set is told -/
def sgn (c : Nat) : Str := ⟨#[c]⟩
def rowO (ls : List Nat) : O := .lst ((ls.map sgn).map fun s => .val (.str s))
def Low (ls : List Nat) : Prop := ∀ c ∈ ls, c < 1114112
theorem low_ok {ls : List Nat} (h : Low ls) : ∀ z ∈ ls.map sgn, PyData.strOk z = true := fun z hz => by
  obtain ⟨c, hc, rfl⟩ := List.mem_map.mp hz
  have := h c hc
  simp [PyData.strOk, sgn, this]
theorem row_fz (ls : List Nat) : fzL ((ls.map sgn).map fun s => O.val (.str s)) = (ls.map sgn).map .str := by
  have := fzL_vals ((ls.map sgn).map D.str)
  rw [List.map_map] at this
  exact this
theorem row_val (ls : List Nat) : rowO ls = .lst (((ls.map sgn).map D.str).map O.val) := by
  have : ((ls.map sgn).map D.str).map O.val = (ls.map sgn).map fun s => O.val (.str s) := by rw [List.map_map]; rfl
  rw [this]; rfl
theorem row_ne {ls : List Nat} (h : Low ls) : D.ne (.lst ((ls.map sgn).map .str)) (.lst []) = some (.bl (!ls.isEmpty)) := by
  unfold D.ne
  rw [eqb_nil (low_ok h)]
  cases ls <;> rfl
theorem told_turn (w : O) (hw : WellOk w) (one x : Option O) (y : Option O) (ls : List Nat) (hl : ls.length < 1000) (hlow : Low ls) : ∃ (w' : O) (ls' : List Nat), lb__law_told_2 [some w, one, some (rowO ls), x, y] = .nx [some w', one, some (rowO ls'), x, y] ∧ WellOk w' ∧ (∀ c, c ∈ ls' ↔ c ∈ ls) ∧ ls'.length ≤ ls.length + 1 := by
  by_cases h0 : ls = []
  · subst h0
    refine ⟨w, [], ?_, hw, fun _ => Iff.rfl, Nat.le_succ _⟩
    have hn := row_ne (ls := []) hlow
    simp only [List.map_nil] at hn
    simp [lb__law_told_2, rowO, hn, fzL, seqD, ifS, forS, testD, op2D, op1D, ixD, nameD, conD, Z.Env.at, Res.bind, Res.of, Res.s, RV.get, RV.fz, O.fz, ixR, RV.part, Z.scal, sv, RV.bool, setD, callD, consA, nilA, fzs, RV.take, setIxD, storeIx, rtD, RV.out, Z.Env.put, endD, outsL, headO, valO, Z.O.get, Z.O.put, fnD, startE, callZ, argsZ, callR, lend, unlend, arrange, passD, rtN, addD, addF, RV.sh, O.sh, vals, andD, orD, notD, ifD, newLD, newVD, shs, lstD, tupD, takes, fzL, ixN, atI, D.add, D.sub, D.mul, D.fdiv, D.mod, D.gt, D.ge, D.lt, D.le, intF, absF, lenF, mulOk_eq, divOk_eq, flatD, RV.flat, vals_flatO, fzL_mv, vals_mv, fzL_append, fzL_vals]
  · obtain ⟨d, w', e, hd, hw'⟩ := one_of w hw (rowO ls) ((ls.map sgn).map .str) (.inr (row_val ls)) (by simpa using h0) (by simp; omega)
    obtain ⟨z, hz, rfl⟩ := List.mem_map.mp hd
    obtain ⟨c, hc, rfl⟩ := List.mem_map.mp hz
    refine ⟨w', ls ++ [c], ?_, hw', fun b => ⟨fun h => ?_, fun h => List.mem_append_left _ h⟩, by simp⟩
    · have hn := row_ne hlow
      have hf := row_fz ls
      unfold rowO at e
      have he : ls.isEmpty = false := by simpa using h0
      have hlen : ls.length < 1000000 := by omega
      obtain ⟨a, b, rfl, _⟩ := hw
      unfold wellO at e ⊢
      simp [-List.map_map, lb__law_told_2, rowO, hn, hf, he, e, mutD, appendG, hlen, dropD, seqD, ifS, forS, testD, op2D, op1D, ixD, nameD, conD, Z.Env.at, Res.bind, Res.of, Res.s, RV.get, RV.fz, O.fz, ixR, RV.part, Z.scal, sv, RV.bool, setD, callD, consA, nilA, fzs, RV.take, setIxD, storeIx, rtD, RV.out, Z.Env.put, endD, outsL, headO, valO, Z.O.get, Z.O.put, fnD, startE, callZ, argsZ, callR, lend, unlend, arrange, passD, rtN, addD, addF, RV.sh, O.sh, vals, andD, orD, notD, ifD, newLD, newVD, shs, lstD, tupD, takes, fzL, ixN, atI, D.add, D.sub, D.mul, D.fdiv, D.mod, D.gt, D.ge, D.lt, D.le, intF, absF, lenF, mulOk_eq, divOk_eq, flatD, RV.flat, vals_flatO, fzL_mv, vals_mv, fzL_append, fzL_vals]
    · rcases List.mem_append.mp h with h | h
      · exact h
      · rw [List.mem_singleton.mp h]; exact hc
theorem told_loop (one y : Option O) : ∀ (ts : List D) (w : O) (ls : List Nat) (x : Option O), WellOk w → ls.length + ts.length < 1000 → Low ls → ∃ (w' : O) (ls' : List Nat) (x' : Option O), loopD (Tgt.nm 3).st lb__law_told_2 ts [some w, one, some (rowO ls), x, y] = .nx [some w', one, some (rowO ls'), x', y] ∧ WellOk w' ∧ (∀ c, c ∈ ls' ↔ c ∈ ls) ∧ ls'.length ≤ ls.length + ts.length
  | [], w, ls, x, hw, _, _ => ⟨w, ls, x, rfl, hw, fun _ => Iff.rfl, Nat.le_refl _⟩
  | d :: ts, w, ls, x, hw, hl, hlow => by
    simp only [List.length_cons] at hl
    obtain ⟨w1, ls1, e1, hw1, h1, l1⟩ := told_turn w hw one (some (.val d)) y ls (by omega) hlow
    obtain ⟨w2, ls2, x2, e2, hw2, h2, l2⟩ := told_loop one y ts w1 ls1 (some (.val d)) hw1 (by omega) fun c hc => hlow c ((h1 c).mp hc)
    refine ⟨w2, ls2, x2, ?_, hw2, fun c => (h2 c).trans (h1 c), by simp only [List.length_cons]; omega⟩
    rw [loopD]
    have hs : (Tgt.nm 3).st d [some w, one, some (rowO ls), x, y] = some [some w, one, some (rowO ls), some (.val d), y] := by simp [Tgt.st]
    rw [hs]
    dsimp only
    rw [e1]
    exact e2
theorem told_row (w : O) (ls : List Nat) : compL (Tgt.nm 4).st yesD le__law_told_1 [4] (((ls.map sgn).map D.str)) [] [some w, some (.val (.str ⟨ls.toArray⟩)), none, none, none] = .ok ((ls.map sgn).map fun s => .val (.str s)) [some w, some (.val (.str ⟨ls.toArray⟩)), none, none, none] := by
  have := comp_map (v := 4) (mt := yesD) (me := le__law_told_1) (t := fun _ => true) (f := fun d => d) (e0 := [some w, some (.val (.str ⟨ls.toArray⟩)), none, none, none]) rfl (ds := (ls.map sgn).map D.str) (acc := []) fun d hd => ⟨rfl, fun _ => by simp [le__law_told_1, seqD, ifS, forS, testD, op2D, op1D, ixD, nameD, conD, Z.Env.at, Res.bind, Res.of, Res.s, RV.get, RV.fz, O.fz, ixR, RV.part, Z.scal, sv, RV.bool, setD, callD, consA, nilA, fzs, RV.take, setIxD, storeIx, rtD, RV.out, Z.Env.put, endD, outsL, headO, valO, Z.O.get, Z.O.put, fnD, startE, callZ, argsZ, callR, lend, unlend, arrange, passD, rtN, addD, addF, RV.sh, O.sh, vals, andD, orD, notD, ifD, newLD, newVD, shs, lstD, tupD, takes, fzL, ixN, atI, D.add, D.sub, D.mul, D.fdiv, D.mod, D.gt, D.ge, D.lt, D.le, intF, absF, lenF, mulOk_eq, divOk_eq, flatD, RV.flat, vals_flatO, fzL_mv, vals_mv, fzL_append, fzL_vals]⟩
  rw [this, List.filter_eq_self.mpr (fun _ _ => rfl), List.nil_append, List.map_map]
  rfl
theorem row_items (ls : List Nat) : D.items (.str ⟨ls.toArray⟩) = some ((ls.map sgn).map D.str) := by
  simp [D.items, sgn]
def toldD (ls : List Nat) : List D := [.str (Txt.join "" (ls.map sgn)), .lst ((ls.map sgn).map .str), .tup ((ls.map sgn).map .str)]
theorem told_head (w : O) (ls : List Nat) (k : Int) (w1 : O) (hk : rangeOk 0 k = true) (he : F__law_draw [w, .val (.int 3)] = .ok (.val (.int k)) [w1, .val (.int 3)]) (e2 : Z.Env) (hl : loopD (Tgt.nm 3).st lb__law_told_2 (rangeL 0 k) [some w1, some (.val (.str ⟨ls.toArray⟩)), some (rowO ls), none, none] = .nx e2) (hw : WellOk w) (m : Z.Env → SRes) :
    (seqD (setD 2 (lcD [4] (srcD (nameD 1)) (.nm 4) yesD le__law_told_1)) (seqD (forS (rangeD range1 (consA (callZ 2 0 [0, 1] [] F__law_draw (consA (nameD 0) (consA (conD (.int 3)) nilA)) nilA) nilA)) (.nm 3) lb__law_told_2) m)) [some w, some (.val (.str ⟨ls.toArray⟩)), none, none, none] = m e2 := by
  have h1 := told_row w ls
  have h2 := row_items ls
  obtain ⟨a, b, rfl, _⟩ := hw
  unfold wellO rowO at *
  simp [-List.map_map, h1, h2, lcD, srcD, finL, restore, clear, rangeD, range1, hk, he, hl, seqD, ifS, forS, testD, op2D, op1D, ixD, nameD, conD, Z.Env.at, Res.bind, Res.of, Res.s, RV.get, RV.fz, O.fz, ixR, RV.part, Z.scal, sv, RV.bool, setD, callD, consA, nilA, fzs, RV.take, setIxD, storeIx, rtD, RV.out, Z.Env.put, endD, outsL, headO, valO, Z.O.get, Z.O.put, fnD, startE, callZ, argsZ, callR, lend, unlend, arrange, passD, rtN, addD, addF, RV.sh, O.sh, vals, andD, orD, notD, ifD, newLD, newVD, shs, lstD, tupD, takes, fzL, ixN, atI, D.add, D.sub, D.mul, D.fdiv, D.mod, D.gt, D.ge, D.lt, D.le, intF, absF, lenF, mulOk_eq, divOk_eq, flatD, RV.flat, vals_flatO, fzL_mv, vals_mv, fzL_append, fzL_vals]
theorem row_rev (ls : List Nat) : rowO ls.reverse = .lst (((ls.map sgn).map D.str).reverse.map .val) := by
  rw [row_val, List.map_reverse, List.map_reverse]
theorem row_vals (ls : List Nat) : vals ((ls.map sgn).map fun s => O.val (.str s)) = some ((ls.map sgn).map .str) := by
  have := vals_map ((ls.map sgn).map D.str)
  rw [List.map_map] at this
  exact this
theorem rev_at (w one x y : Option O) (ls : List Nat) : revD (flatD (nameD 2)) [w, one, some (rowO ls), x, y] = .ok (.tmp (rowO ls.reverse)) [w, one, some (rowO ls), x, y] := by
  have h := row_vals ls
  rw [row_rev]
  unfold rowO
  simp [-List.map_map, revD, h, seqD, ifS, forS, testD, op2D, op1D, ixD, nameD, conD, Z.Env.at, Res.bind, Res.of, Res.s, RV.get, RV.fz, O.fz, ixR, RV.part, Z.scal, sv, RV.bool, setD, callD, consA, nilA, fzs, RV.take, setIxD, storeIx, rtD, RV.out, Z.Env.put, endD, outsL, headO, valO, Z.O.get, Z.O.put, fnD, startE, callZ, argsZ, callR, lend, unlend, arrange, passD, rtN, addD, addF, RV.sh, O.sh, vals, andD, orD, notD, ifD, newLD, newVD, shs, lstD, tupD, takes, fzL, ixN, atI, D.add, D.sub, D.mul, D.fdiv, D.mod, D.gt, D.ge, D.lt, D.le, intF, absF, lenF, mulOk_eq, divOk_eq, flatD, RV.flat, vals_flatO, fzL_mv, vals_mv, fzL_append, fzL_vals]
theorem low_sOk {ls : List Nat} (h : Low ls) (hl : ls.length ≤ 1000) : sOk (⟨ls.toArray⟩ : Str) = true := by
  have h1 : ∀ x ∈ ls, x < 1114112 := h
  have h2 : (⟨ls.toArray⟩ : Str).length = ls.length := rfl
  have h3 : ls.length ≤ sizeLine := Nat.le_trans hl (by rw [sizeLine_eq]; decide)
  simp [sOk, PyData.strOk, h2, h3]
  exact h1
theorem told_list (w one x y : Option O) (ls : List Nat) (hl : ls.length ≤ 1000) (hlow : Low ls) : lstD (consA (m1D joinAF (conD (.str "")) (nameD 2)) (consA (nameD 2) (consA (newVD tupleF (consA (flatD (nameD 2)) nilA)) nilA))) [w, one, some (rowO ls), x, y] =
    .ok (.tmp (.lst [.val (.str ⟨ls.toArray⟩), .val (.lst ((ls.map sgn).map .str)), .val (.tup ((ls.map sgn).map .str))])) [w, one, some (.val (.lst ((ls.map sgn).map .str))), x, y] := by
  have h1 := joinAF_row (ls := ls) (by omega)
  have h2 := low_sOk hlow hl
  have h3 := row_fz ls
  have h4 := row_vals ls
  have h5 : (fun c => (⟨#[c]⟩ : Str)) = sgn := rfl
  rw [h5] at h1
  unfold rowO
  simp [-List.map_map, m1D, h1, h2, h3, h4, tupleF, seqD, ifS, forS, testD, op2D, op1D, ixD, nameD, conD, Z.Env.at, Res.bind, Res.of, Res.s, RV.get, RV.fz, O.fz, ixR, RV.part, Z.scal, sv, RV.bool, setD, callD, consA, nilA, fzs, RV.take, setIxD, storeIx, rtD, RV.out, Z.Env.put, endD, outsL, headO, valO, Z.O.get, Z.O.put, fnD, startE, callZ, argsZ, callR, lend, unlend, arrange, passD, rtN, addD, addF, RV.sh, O.sh, vals, andD, orD, notD, ifD, newLD, newVD, shs, lstD, tupD, takes, fzL, ixN, atI, D.add, D.sub, D.mul, D.fdiv, D.mod, D.gt, D.ge, D.lt, D.le, intF, absF, lenF, mulOk_eq, divOk_eq, flatD, RV.flat, vals_flatO, fzL_mv, vals_mv, fzL_append, fzL_vals]
def Pres (one : List Nat) (d : D) : Prop := ∃ ls : List Nat, (∀ c, c ∈ ls ↔ c ∈ one) ∧ ls.length ≤ 20 ∧ (d = .str ⟨ls.toArray⟩ ∨ d = .lst ((ls.map sgn).map .str) ∨ d = .tup ((ls.map sgn).map .str))
theorem eq_int (i j : Int) : D.eq (.int i) (.int j) = some (.bl (i == j)) := by
  simp [D.eq, D.eqb, D.py, SeqAt.shaped, PyData.canLay0, PyData.depth, PyData.eqv]
theorem told_rev (w : O) (hw : WellOk w) (one x y : Option O) (ls : List Nat) (k : Int) (w1 : O) (he : F__law_draw [w, .val (.int 2)] = .ok (.val (.int k)) [w1, .val (.int 2)]) :
    (ifS (testD (op2D D.eq (callZ 2 0 [0, 1] [] F__law_draw (consA (nameD 0) (consA (conD (.int 2)) nilA)) nilA) (conD (.int 0)))) (setD 2 (revD (flatD (nameD 2)))) passD) [some w, one, some (rowO ls), x, y] = .nx [some w1, one, some (rowO (if k = 0 then ls.reverse else ls)), x, y] := by
  have hr := rev_at (some w1) one x y ls
  obtain ⟨a, b, rfl, _⟩ := hw
  unfold wellO at *
  by_cases h : k = 0
  · simp [-List.map_map, he, eq_int, hr, h, seqD, ifS, forS, testD, op2D, op1D, ixD, nameD, conD, Z.Env.at, Res.bind, Res.of, Res.s, RV.get, RV.fz, O.fz, ixR, RV.part, Z.scal, sv, RV.bool, setD, callD, consA, nilA, fzs, RV.take, setIxD, storeIx, rtD, RV.out, Z.Env.put, endD, outsL, headO, valO, Z.O.get, Z.O.put, fnD, startE, callZ, argsZ, callR, lend, unlend, arrange, passD, rtN, addD, addF, RV.sh, O.sh, vals, andD, orD, notD, ifD, newLD, newVD, shs, lstD, tupD, takes, fzL, ixN, atI, D.add, D.sub, D.mul, D.fdiv, D.mod, D.gt, D.ge, D.lt, D.le, intF, absF, lenF, mulOk_eq, divOk_eq, flatD, RV.flat, vals_flatO, fzL_mv, vals_mv, fzL_append, fzL_vals]
  · simp [-List.map_map, he, eq_int, hr, h, seqD, ifS, forS, testD, op2D, op1D, ixD, nameD, conD, Z.Env.at, Res.bind, Res.of, Res.s, RV.get, RV.fz, O.fz, ixR, RV.part, Z.scal, sv, RV.bool, setD, callD, consA, nilA, fzs, RV.take, setIxD, storeIx, rtD, RV.out, Z.Env.put, endD, outsL, headO, valO, Z.O.get, Z.O.put, fnD, startE, callZ, argsZ, callR, lend, unlend, arrange, passD, rtN, addD, addF, RV.sh, O.sh, vals, andD, orD, notD, ifD, newLD, newVD, shs, lstD, tupD, takes, fzL, ixN, atI, D.add, D.sub, D.mul, D.fdiv, D.mod, D.gt, D.ge, D.lt, D.le, intF, absF, lenF, mulOk_eq, divOk_eq, flatD, RV.flat, vals_flatO, fzL_mv, vals_mv, fzL_append, fzL_vals]
theorem told_end (w : O) (hw : WellOk w) (one x y : Option O) (ls : List Nat) (hl : ls.length ≤ 1000) (hlow : Low ls) : ∃ (w' : O) (d : D), (rtD [0, 1] (callZ 2 0 [0, 1] [] F__law_one (consA (nameD 0) (consA (lstD (consA (m1D joinAF (conD (.str "")) (nameD 2)) (consA (nameD 2) (consA (newVD tupleF (consA (flatD (nameD 2)) nilA)) nilA)))) nilA)) nilA)) [some w, one, some (rowO ls), x, y] = .rt (.val d) [some w', one, some (.val (.lst ((ls.map sgn).map .str))), x, y] ∧ WellOk w' ∧ (d = .str ⟨ls.toArray⟩ ∨ d = .lst ((ls.map sgn).map .str) ∨ d = .tup ((ls.map sgn).map .str)) := by
  have hL := told_list (some w) one x y ls hl hlow
  obtain ⟨d, w', e, hd, hw'⟩ := one_of w hw (.lst [.val (.str ⟨ls.toArray⟩), .val (.lst ((ls.map sgn).map .str)), .val (.tup ((ls.map sgn).map .str))]) [.str ⟨ls.toArray⟩, .lst ((ls.map sgn).map .str), .tup ((ls.map sgn).map .str)] (.inr rfl) (by simp) (by simp)
  refine ⟨w', d, ?_, hw', by simpa using hd⟩
  generalize (lstD (consA (m1D joinAF (conD (.str "")) (nameD 2)) (consA (nameD 2) (consA (newVD tupleF (consA (flatD (nameD 2)) nilA)) nilA)))) = mL at hL ⊢
  obtain ⟨a, b, rfl, _⟩ := hw
  unfold wellO at *
  simp [-List.map_map, hL, e, seqD, ifS, forS, testD, op2D, op1D, ixD, nameD, conD, Z.Env.at, Res.bind, Res.of, Res.s, RV.get, RV.fz, O.fz, ixR, RV.part, Z.scal, sv, RV.bool, setD, callD, consA, nilA, fzs, RV.take, setIxD, storeIx, rtD, RV.out, Z.Env.put, endD, outsL, headO, valO, Z.O.get, Z.O.put, fnD, startE, callZ, argsZ, callR, lend, unlend, arrange, passD, rtN, addD, addF, RV.sh, O.sh, vals, andD, orD, notD, ifD, newLD, newVD, shs, lstD, tupD, takes, fzL, ixN, atI, D.add, D.sub, D.mul, D.fdiv, D.mod, D.gt, D.ge, D.lt, D.le, intF, absF, lenF, mulOk_eq, divOk_eq, flatD, RV.flat, vals_flatO, fzL_mv, vals_mv, fzL_append, fzL_vals]
theorem told (w : O) (hw : WellOk w) (one : List Nat) (h1 : one.length ≤ 8) (hlow : Low one) : ∃ (w' : O) (d : D), F__law_told [w, .val (.str ⟨one.toArray⟩)] = .ok (.val d) [w', .val (.str ⟨one.toArray⟩)] ∧ WellOk w' ∧ Pres one d := by
  obtain ⟨k, w1, e1, hk1, hk2, hw1⟩ := draw w hw 3 (by decide) (by decide)
  have hk : rangeOk 0 k = true := by rw [rangeOk_eq]; simp; omega
  have hlen : (rangeL 0 k).length ≤ 2 := by unfold rangeL; simp; omega
  obtain ⟨w2, ls, x2, e2, hw2, hls, hl2⟩ := told_loop (some (.val (.str ⟨one.toArray⟩))) none (rangeL 0 k) w1 one none hw1 (by omega) hlow
  obtain ⟨k2, w3, e3, hk3, hk4, hw3⟩ := draw w2 hw2 2 (by decide) (by decide)
  have hlow2 : Low (if k2 = 0 then ls.reverse else ls) := fun c hc => hlow c ((hls c).mp (by split at hc <;> simpa using hc))
  have hl3 : (if k2 = 0 then ls.reverse else ls).length = ls.length := by split <;> simp
  obtain ⟨w4, d, e4, hw4, hd⟩ := told_end w3 hw3 (some (.val (.str ⟨one.toArray⟩))) x2 none (if k2 = 0 then ls.reverse else ls) (by omega) hlow2
  refine ⟨w4, d, ?_, hw4, _, fun c => ?_, by omega, hd⟩
  · have r := told_rev w2 hw2 (some (.val (.str ⟨one.toArray⟩))) x2 none ls k2 w3 e3
    rw [eq__law_told]; unfold fnD m__law_told
    have st : startE 5 [w, .val (.str ⟨one.toArray⟩)] = [some w, some (.val (.str ⟨one.toArray⟩)), none, none, none] := rfl
    rw [st, told_head w one k w1 hk e1 _ e2 hw, seqD, r]
    dsimp only
    rw [e4]
    rfl
  · rw [← hls c]; split <;> simp
end K65

set_option maxRecDepth 100000
set_option maxHeartbeats 2000000
namespace K65
open PySem L2 PySem.Spec PyProof.Rows Z
/-! ### which kinds -/
def tyb (b : Bool) (d : D) (F : List O → CRes) : Prop := F [.val d] = .ok (.val (.bl b)) [.val d]
theorem text_str (s : Str) : F_is_text [.val (.str s)] = .ok (.val (.bl true)) [.val (.str s)] := by rw [eq_is_text]; rfl
theorem text_lst (ds : List D) : F_is_text [.val (.lst ds)] = .ok (.val (.bl false)) [.val (.lst ds)] := by rw [eq_is_text]; rfl
theorem text_tup (ds : List D) : F_is_text [.val (.tup ds)] = .ok (.val (.bl false)) [.val (.tup ds)] := by rw [eq_is_text]; rfl
theorem text_int (i : Int) : F_is_text [.val (.int i)] = .ok (.val (.bl false)) [.val (.int i)] := by rw [eq_is_text]; rfl
theorem text_non : F_is_text [.val .non] = .ok (.val (.bl false)) [.val .non] := by rw [eq_is_text]; rfl
theorem text_bl (b : Bool) : F_is_text [.val (.bl b)] = .ok (.val (.bl false)) [.val (.bl b)] := by rw [eq_is_text]; rfl
theorem seq_lst (ds : List D) : F_is_sequence [.val (.lst ds)] = .ok (.val (.bl true)) [.val (.lst ds)] := by rw [eq_is_sequence]; rfl
theorem seq_tup (ds : List D) : F_is_sequence [.val (.tup ds)] = .ok (.val (.bl true)) [.val (.tup ds)] := by rw [eq_is_sequence]; rfl
theorem seq_int (i : Int) : F_is_sequence [.val (.int i)] = .ok (.val (.bl false)) [.val (.int i)] := by rw [eq_is_sequence]; rfl
theorem seq_non : F_is_sequence [.val .non] = .ok (.val (.bl false)) [.val .non] := by rw [eq_is_sequence]; rfl
theorem seq_bl (b : Bool) : F_is_sequence [.val (.bl b)] = .ok (.val (.bl false)) [.val (.bl b)] := by rw [eq_is_sequence]; rfl
theorem letter_sgn (c : Nat) (ls : List Nat) : F_is_letter_of [.val (.str (Z.sgn c)), .val (.str (txt ls))] = .ok (.val (.bl (decide (c ∈ ls)))) [.val (.str (Z.sgn c)), .val (.str (txt ls))] := by
  have h1 := text_str (Z.sgn c)
  have h2 := isIn_str c ls
  have h3 : (Z.sgn c).length = 1 := rfl
  simp [eq_is_letter_of, m_is_letter_of, andV, h1, h2, h3, eq_int, seqD, ifS, forS, testD, op2D, op1D, ixD, nameD, conD, Z.Env.at, Res.bind, Res.of, Res.s, RV.get, RV.fz, O.fz, ixR, RV.part, Z.scal, sv, RV.bool, setD, callD, consA, nilA, fzs, RV.take, setIxD, storeIx, rtD, RV.out, Z.Env.put, endD, outsL, headO, valO, Z.O.get, Z.O.put, fnD, startE, callZ, argsZ, callR, lend, unlend, arrange, passD, rtN, addD, addF, RV.sh, O.sh, vals, andD, orD, notD, ifD, newLD, newVD, shs, lstD, tupD, takes, fzL, ixN, atI, D.add, D.sub, D.mul, D.fdiv, D.mod, D.gt, D.ge, D.lt, D.le, intF, absF, lenF, mulOk_eq, divOk_eq, flatD, RV.flat, vals_flatO, fzL_mv, vals_mv, fzL_append, fzL_vals]
def Let (K : List Nat) (b : Bool) (d : D) : Prop := F_is_letter_of [.val d, .val (.str (txt K))] = .ok (.val (.bl b)) [.val d, .val (.str (txt K))]
theorem kinds_turn (K : List Nat) (v d : D) (b : Bool) (h : Let K b d) : lb_kinds_of_1 [some (.val (.str (txt K))), some (.val v), some (.val d)] = if b = true then .nx [some (.val (.str (txt K))), some (.val v), some (.val d)] else .err ⟨1, [("letter", d)]⟩ [some (.val (.str (txt K))), some (.val v), some (.val d)] := by
  unfold Let at h
  cases b <;> simp [lb_kinds_of_1, h, notD, raiseD, seqD, ifS, forS, testD, op2D, op1D, ixD, nameD, conD, Z.Env.at, Res.bind, Res.of, Res.s, RV.get, RV.fz, O.fz, ixR, RV.part, Z.scal, sv, RV.bool, setD, callD, consA, nilA, fzs, RV.take, setIxD, storeIx, rtD, RV.out, Z.Env.put, endD, outsL, headO, valO, Z.O.get, Z.O.put, fnD, startE, callZ, argsZ, callR, lend, unlend, arrange, passD, rtN, addD, addF, RV.sh, O.sh, vals, andD, orD, notD, ifD, newLD, newVD, shs, lstD, tupD, takes, fzL, ixN, atI, D.add, D.sub, D.mul, D.fdiv, D.mod, D.gt, D.ge, D.lt, D.le, intF, absF, lenF, mulOk_eq, divOk_eq, flatD, RV.flat, vals_flatO, fzL_mv, vals_mv, fzL_append, fzL_vals]
theorem kinds_loop (K : List Nat) (v : D) : ∀ (ds : List D) (x : Option D), (∀ d ∈ ds, Let K true d) → ∃ x' : Option D, loopD (Tgt.nm 2).st lb_kinds_of_1 ds [some (.val (.str (txt K))), some (.val v), x.map .val] = .nx [some (.val (.str (txt K))), some (.val v), x'.map .val]
  | [], x, _ => ⟨x, rfl⟩
  | d :: ds, x, h => by
    obtain ⟨x', e⟩ := kinds_loop K v ds (some d) fun d' hd => h d' (List.mem_cons_of_mem _ hd)
    exact ⟨x', (loop_nx (kinds_turn K v d true (h d List.mem_cons_self))).trans e⟩
theorem kinds_loop_bad (K : List Nat) (v d : D) (post : List D) (hb : Let K false d) : ∀ (ds : List D) (x : Option O), (∀ d ∈ ds, Let K true d) → loopD (Tgt.nm 2).st lb_kinds_of_1 (ds ++ d :: post) [some (.val (.str (txt K))), some (.val v), x] = .err ⟨1, [("letter", d)]⟩ [some (.val (.str (txt K))), some (.val v), some (.val d)]
  | [], x, _ => by
    exact loop_err (kinds_turn K v d false hb)
  | d' :: ds, x, h => by
    have e := kinds_loop_bad K v d post hb ds (some (.val d')) fun d' hd => h d' (List.mem_cons_of_mem _ hd)
    exact (loop_nx (kinds_turn K v d' true (h d' List.mem_cons_self))).trans e
/-- what is a text or a sequence -/
def Sq (d : D) : Prop := F_is_text [.val d] = .ok (.val (.bl true)) [.val d] ∨ (F_is_text [.val d] = .ok (.val (.bl false)) [.val d] ∧ F_is_sequence [.val d] = .ok (.val (.bl true)) [.val d])
def NSq (d : D) : Prop := F_is_text [.val d] = .ok (.val (.bl false)) [.val d] ∧ F_is_sequence [.val d] = .ok (.val (.bl false)) [.val d]
theorem as_sq {ls : List Nat} {d : D} (h : AsD ls d) : Sq d := by
  rcases h with rfl | rfl | rfl
  · exact .inl (text_str _)
  · exact .inr ⟨text_lst _, seq_lst _⟩
  · exact .inr ⟨text_tup _, seq_tup _⟩
theorem kinds_first (K : List Nat) (v : D) (h : Sq v) (m : Z.Env → SRes) (e : Z.Env) (he : e = [some (.val (.str (txt K))), some (.val v), none]) :
    seqD (ifS (andD (notD (testD (callZ 1 0 [0] [] F_is_text (consA (nameD 1) nilA) nilA))) (notD (testD (callZ 1 0 [0] [] F_is_sequence (consA (nameD 1) nilA) nilA)))) (raiseD 1 "letter" (nameD 1)) passD) m e = m e := by
  subst he
  rcases h with h | ⟨h, h'⟩
  · simp [h, notD, seqD, ifS, forS, testD, op2D, op1D, ixD, nameD, conD, Z.Env.at, Res.bind, Res.of, Res.s, RV.get, RV.fz, O.fz, ixR, RV.part, Z.scal, sv, RV.bool, setD, callD, consA, nilA, fzs, RV.take, setIxD, storeIx, rtD, RV.out, Z.Env.put, endD, outsL, headO, valO, Z.O.get, Z.O.put, fnD, startE, callZ, argsZ, callR, lend, unlend, arrange, passD, rtN, addD, addF, RV.sh, O.sh, vals, andD, orD, notD, ifD, newLD, newVD, shs, lstD, tupD, takes, fzL, ixN, atI, D.add, D.sub, D.mul, D.fdiv, D.mod, D.gt, D.ge, D.lt, D.le, intF, absF, lenF, mulOk_eq, divOk_eq, flatD, RV.flat, vals_flatO, fzL_mv, vals_mv, fzL_append, fzL_vals]
  · simp [h, h', notD, seqD, ifS, forS, testD, op2D, op1D, ixD, nameD, conD, Z.Env.at, Res.bind, Res.of, Res.s, RV.get, RV.fz, O.fz, ixR, RV.part, Z.scal, sv, RV.bool, setD, callD, consA, nilA, fzs, RV.take, setIxD, storeIx, rtD, RV.out, Z.Env.put, endD, outsL, headO, valO, Z.O.get, Z.O.put, fnD, startE, callZ, argsZ, callR, lend, unlend, arrange, passD, rtN, addD, addF, RV.sh, O.sh, vals, andD, orD, notD, ifD, newLD, newVD, shs, lstD, tupD, takes, fzL, ixN, atI, D.add, D.sub, D.mul, D.fdiv, D.mod, D.gt, D.ge, D.lt, D.le, intF, absF, lenF, mulOk_eq, divOk_eq, flatD, RV.flat, vals_flatO, fzL_mv, vals_mv, fzL_append, fzL_vals]
theorem kinds_none (K : List Nat) (v : D) (h : NSq v) : F_kinds_of [.val (.str (txt K)), .val v] = .err ⟨1, [("letter", v)]⟩ [.val (.str (txt K)), .val v] := by
  obtain ⟨h, h'⟩ := h
  simp [eq_kinds_of, m_kinds_of, h, h', notD, raiseD, seqD, ifS, forS, testD, op2D, op1D, ixD, nameD, conD, Z.Env.at, Res.bind, Res.of, Res.s, RV.get, RV.fz, O.fz, ixR, RV.part, Z.scal, sv, RV.bool, setD, callD, consA, nilA, fzs, RV.take, setIxD, storeIx, rtD, RV.out, Z.Env.put, endD, outsL, headO, valO, Z.O.get, Z.O.put, fnD, startE, callZ, argsZ, callR, lend, unlend, arrange, passD, rtN, addD, addF, RV.sh, O.sh, vals, andD, orD, notD, ifD, newLD, newVD, shs, lstD, tupD, takes, fzL, ixN, atI, D.add, D.sub, D.mul, D.fdiv, D.mod, D.gt, D.ge, D.lt, D.le, intF, absF, lenF, mulOk_eq, divOk_eq, flatD, RV.flat, vals_flatO, fzL_mv, vals_mv, fzL_append, fzL_vals]
theorem kinds_bad (K : List Nat) (v d : D) (ds post : List D) (h : Sq v) (hi : v.items = some (ds ++ d :: post)) (hg : ∀ d ∈ ds, Let K true d) (hb : Let K false d) : F_kinds_of [.val (.str (txt K)), .val v] = .err ⟨1, [("letter", d)]⟩ [.val (.str (txt K)), .val v] := by
  have e := kinds_loop_bad K v d post hb ds none hg
  rw [eq_kinds_of]; unfold fnD m_kinds_of
  have st : startE 3 [.val (.str (txt K)), .val v] = [some (.val (.str (txt K))), some (.val v), none] := rfl
  rw [st, kinds_first K v h _ _ rfl]
  simp [hi, e, srcD, seqD, ifS, forS, testD, op2D, op1D, ixD, nameD, conD, Z.Env.at, Res.bind, Res.of, Res.s, RV.get, RV.fz, O.fz, ixR, RV.part, Z.scal, sv, RV.bool, setD, callD, consA, nilA, fzs, RV.take, setIxD, storeIx, rtD, RV.out, Z.Env.put, endD, outsL, headO, valO, Z.O.get, Z.O.put, fnD, startE, callZ, argsZ, callR, lend, unlend, arrange, passD, rtN, addD, addF, RV.sh, O.sh, vals, andD, orD, notD, ifD, newLD, newVD, shs, lstD, tupD, takes, fzL, ixN, atI, D.add, D.sub, D.mul, D.fdiv, D.mod, D.gt, D.ge, D.lt, D.le, intF, absF, lenF, mulOk_eq, divOk_eq, flatD, RV.flat, vals_flatO, fzL_mv, vals_mv, fzL_append, fzL_vals]
theorem kinds_good (K ls : List Nat) (v : D) (h : AsD ls v) (hk : Low K) (hl : ∀ c ∈ ls, c ∈ K) (hn : K.length ≤ 10000) : F_kinds_of [.val (.str (txt K)), .val v] = .ok (.val (.str (txt (K.filter fun c => decide (c ∈ ls))))) [.val (.str (txt K)), .val v] := by
  obtain ⟨x', e⟩ := kinds_loop K v ((ls.map Z.sgn).map .str) none fun d hd => by
    simp only [List.mem_map] at hd
    obtain ⟨_, ⟨c, hc, rfl⟩, rfl⟩ := hd
    have := letter_sgn c K
    simpa [Let, hl c hc] using this
  have hi := as_items h
  have hlow : Low ls := fun c hc => hk c (hl c hc)
  rw [eq_kinds_of]; unfold fnD m_kinds_of
  have st : startE 3 [.val (.str (txt K)), .val v] = [some (.val (.str (txt K))), some (.val v), none] := rfl
  rw [st, kinds_first K v (as_sq h) _ _ rfl]
  have hK : (D.str (txt K)).items = some ((K.map Z.sgn).map .str) := as_items (.inl rfl)
  have hc := comp_map (v := 2) (mt := lt_kinds_of_2) (me := le_kinds_of_3) (t := fun d => match D.isIn d v with | some (.bl b) => b | _ => false) (f := fun d => d) (e0 := [some (.val (.str (txt K))), some (.val v), none]) rfl (ds := (K.map Z.sgn).map .str) (acc := []) fun d hd => by
    simp only [List.mem_map] at hd
    obtain ⟨_, ⟨c, hc, rfl⟩, rfl⟩ := hd
    have := as_in (hk c hc) hlow h
    exact ⟨by simp [lt_kinds_of_2, this, seqD, ifS, forS, testD, op2D, op1D, ixD, nameD, conD, Z.Env.at, Res.bind, Res.of, Res.s, RV.get, RV.fz, O.fz, ixR, RV.part, Z.scal, sv, RV.bool, setD, callD, consA, nilA, fzs, RV.take, setIxD, storeIx, rtD, RV.out, Z.Env.put, endD, outsL, headO, valO, Z.O.get, Z.O.put, fnD, startE, callZ, argsZ, callR, lend, unlend, arrange, passD, rtN, addD, addF, RV.sh, O.sh, vals, andD, orD, notD, ifD, newLD, newVD, shs, lstD, tupD, takes, fzL, ixN, atI, D.add, D.sub, D.mul, D.fdiv, D.mod, D.gt, D.ge, D.lt, D.le, intF, absF, lenF, mulOk_eq, divOk_eq, flatD, RV.flat, vals_flatO, fzL_mv, vals_mv, fzL_append, fzL_vals], fun _ => by simp [le_kinds_of_3, seqD, ifS, forS, testD, op2D, op1D, ixD, nameD, conD, Z.Env.at, Res.bind, Res.of, Res.s, RV.get, RV.fz, O.fz, ixR, RV.part, Z.scal, sv, RV.bool, setD, callD, consA, nilA, fzs, RV.take, setIxD, storeIx, rtD, RV.out, Z.Env.put, endD, outsL, headO, valO, Z.O.get, Z.O.put, fnD, startE, callZ, argsZ, callR, lend, unlend, arrange, passD, rtN, addD, addF, RV.sh, O.sh, vals, andD, orD, notD, ifD, newLD, newVD, shs, lstD, tupD, takes, fzL, ixN, atI, D.add, D.sub, D.mul, D.fdiv, D.mod, D.gt, D.ge, D.lt, D.le, intF, absF, lenF, mulOk_eq, divOk_eq, flatD, RV.flat, vals_flatO, fzL_mv, vals_mv, fzL_append, fzL_vals]⟩
  have hf : ((K.map Z.sgn).map D.str).filter (fun d => match D.isIn d v with | some (.bl b) => b | _ => false) = ((K.filter fun c => decide (c ∈ ls)).map Z.sgn).map D.str := by
    rw [List.filter_map, List.filter_map]
    congr 2
    refine List.filter_congr fun c hc => ?_
    have := as_in (hk c hc) hlow h
    simp [this]
  rw [hf] at hc
  have hj := joinAF_row (ls := K.filter fun c => decide (c ∈ ls)) (Nat.le_trans (List.length_filter_le _ _) (by omega))
  have ho := sOk_txt (ls := K.filter fun c => decide (c ∈ ls)) (fun c hc => hk c (List.mem_filter.mp hc).1) (Nat.le_trans (List.length_filter_le _ _) hn)
  have hfz := fzL_vals (((K.filter fun c => decide (c ∈ ls)).map Z.sgn).map D.str)
  rw [show (fun c => (⟨#[c]⟩ : Str)) = Z.sgn from rfl] at hj
  unfold txt at *
  rcases x' with _ | x' <;> simp only [Option.map_none, Option.map_some] at e <;> simp [-List.map_map, hi, hK, e, srcD, lcD, clear, hc, finL, restore, m1D, hfz, hj, ho, seqD, ifS, forS, testD, op2D, op1D, ixD, nameD, conD, Z.Env.at, Res.bind, Res.of, Res.s, RV.get, RV.fz, O.fz, ixR, RV.part, Z.scal, sv, RV.bool, setD, callD, consA, nilA, fzs, RV.take, setIxD, storeIx, rtD, RV.out, Z.Env.put, endD, outsL, headO, valO, Z.O.get, Z.O.put, fnD, startE, callZ, argsZ, callR, lend, unlend, arrange, passD, rtN, addD, addF, RV.sh, O.sh, vals, andD, orD, notD, ifD, newLD, newVD, shs, lstD, tupD, takes, fzL, ixN, atI, D.add, D.sub, D.mul, D.fdiv, D.mod, D.gt, D.ge, D.lt, D.le, intF, absF, lenF, mulOk_eq, divOk_eq, flatD, RV.flat, vals_flatO, fzL_mv, vals_mv, fzL_append, fzL_vals]
end K65

set_option maxRecDepth 100000
set_option maxHeartbeats 2000000
namespace K65
open PySem L2 PySem.Spec PyProof.Rows Z
/-! ### the sets -/
/-- the value d tells the set one out of K -/
def Tells (K one : List Nat) (d : D) : Prop := ∃ ls, AsD ls d ∧ (∀ c ∈ ls, c ∈ K) ∧ (K.filter fun c => decide (c ∈ ls)) = one
/-- a sequence as it may stand: owned or not -/
def Stands (ds : List D) (o : O) (d : D) : Prop := (d = .lst ds ∨ d = .tup ds) ∧ (o = .val d ∨ (o = .lst (ds.map .val) ∧ d = .lst ds))
theorem sets_good (K : List Nat) (hk : Low K) (hn : K.length ≤ 10000) (ps : List (List Nat × D)) (h : ∀ p ∈ ps, Tells K p.1 p.2) (o : O) (d : D) (hs : Stands (ps.map (·.2)) o d) :
    F_sets_of [.val (.str (txt K)), o] = .ok (.lst (ps.map fun p => .val (.str (txt p.1)))) [.val (.str (txt K)), .val d] := by
  have hc := comp_pairs (v := 2) (me := le_sets_of_1) (e0 := [some (.val (.str (txt K))), some (.val d), none]) rfl (ps := ps.map fun p => (p.2, D.str (txt p.1))) (acc := []) fun q hq => by
    obtain ⟨p, hp, rfl⟩ := List.mem_map.mp hq
    obtain ⟨ls, h1, h2, h3⟩ := h p hp
    have := kinds_good K ls p.2 h1 hk h2 hn
    rw [h3] at this
    simp [le_sets_of_1, this, seqD, ifS, forS, testD, op2D, op1D, ixD, nameD, conD, Z.Env.at, Res.bind, Res.of, Res.s, RV.get, RV.fz, O.fz, ixR, RV.part, Z.scal, sv, RV.bool, setD, callD, consA, nilA, fzs, RV.take, setIxD, storeIx, rtD, RV.out, Z.Env.put, endD, outsL, headO, valO, Z.O.get, Z.O.put, fnD, startE, callZ, argsZ, callR, lend, unlend, arrange, passD, rtN, addD, addF, RV.sh, O.sh, vals, andD, orD, notD, ifD, newLD, newVD, shs, lstD, tupD, takes, fzL, ixN, atI, D.add, D.sub, D.mul, D.fdiv, D.mod, D.gt, D.ge, D.lt, D.le, intF, absF, lenF, mulOk_eq, divOk_eq, flatD, RV.flat, vals_flatO, fzL_mv, vals_mv, fzL_append, fzL_vals]
  rw [List.map_map, List.map_map] at hc
  have e1 : ((fun p : D × D => p.1) ∘ fun p : List Nat × D => (p.2, D.str (txt p.1))) = fun p => p.2 := rfl
  have e2 : ((fun p : D × D => O.val p.2) ∘ fun p : List Nat × D => (p.2, D.str (txt p.1))) = fun p => .val (.str (txt p.1)) := rfl
  rw [e1, e2] at hc
  obtain ⟨hd, ho⟩ := hs
  have hsq : F_is_sequence [.val d] = .ok (.val (.bl true)) [.val d] := by rcases hd with rfl | rfl; exact seq_lst _; exact seq_tup _
  have hit : d.items = some (ps.map (·.2)) := by rcases hd with rfl | rfl <;> rfl
  rcases ho with rfl | ⟨rfl, rfl⟩
  · simp [-List.map_map, eq_sets_of, m_sets_of, hsq, hit, notD, hc, lcD, srcD, clear, finL, restore, seqD, ifS, forS, testD, op2D, op1D, ixD, nameD, conD, Z.Env.at, Res.bind, Res.of, Res.s, RV.get, RV.fz, O.fz, ixR, RV.part, Z.scal, sv, RV.bool, setD, callD, consA, nilA, fzs, RV.take, setIxD, storeIx, rtD, RV.out, Z.Env.put, endD, outsL, headO, valO, Z.O.get, Z.O.put, fnD, startE, callZ, argsZ, callR, lend, unlend, arrange, passD, rtN, addD, addF, RV.sh, O.sh, vals, andD, orD, notD, ifD, newLD, newVD, shs, lstD, tupD, takes, fzL, ixN, atI, D.add, D.sub, D.mul, D.fdiv, D.mod, D.gt, D.ge, D.lt, D.le, intF, absF, lenF, mulOk_eq, divOk_eq, flatD, RV.flat, vals_flatO, fzL_mv, vals_mv, fzL_append, fzL_vals]
  · have hso : F_is_sequence [.lst ((ps.map (·.2)).map .val)] = .ok (.val (.bl true)) [.lst ((ps.map (·.2)).map .val)] := by rw [eq_is_sequence]; rfl
    have hfz := fzL_vals (ps.map (·.2))
    simp [-List.map_map, eq_sets_of, m_sets_of, hso, hfz, hit, notD, hc, lcD, srcD, clear, finL, restore, seqD, ifS, forS, testD, op2D, op1D, ixD, nameD, conD, Z.Env.at, Res.bind, Res.of, Res.s, RV.get, RV.fz, O.fz, ixR, RV.part, Z.scal, sv, RV.bool, setD, callD, consA, nilA, fzs, RV.take, setIxD, storeIx, rtD, RV.out, Z.Env.put, endD, outsL, headO, valO, Z.O.get, Z.O.put, fnD, startE, callZ, argsZ, callR, lend, unlend, arrange, passD, rtN, addD, addF, RV.sh, O.sh, vals, andD, orD, notD, ifD, newLD, newVD, shs, lstD, tupD, takes, fzL, ixN, atI, D.add, D.sub, D.mul, D.fdiv, D.mod, D.gt, D.ge, D.lt, D.le, intF, absF, lenF, mulOk_eq, divOk_eq, flatD, RV.flat, vals_flatO, fzL_mv, vals_mv, fzL_append, fzL_vals]
theorem sets_bad (K : List Nat) (hk : Low K) (hn : K.length ≤ 10000) (ps : List (List Nat × D)) (b : D) (post : List D) (x : Exn) (h : ∀ p ∈ ps, Tells K p.1 p.2) (hb : F_kinds_of [.val (.str (txt K)), .val b] = .err x [.val (.str (txt K)), .val b]) (d : D) (hd : d = .lst (ps.map (·.2) ++ b :: post) ∨ d = .tup (ps.map (·.2) ++ b :: post)) :
    F_sets_of [.val (.str (txt K)), .val d] = .err x [.val (.str (txt K)), .val d] := by
  have hc := comp_err (v := 2) (mt := yesD) (me := le_sets_of_1) (e0 := [some (.val (.str (txt K))), some (.val d), none]) (b := b) (post := post) (x := x) (e1 := [some (.val (.str (txt K))), some (.val d), some (.val b)]) rfl rfl (by simp [le_sets_of_1, hb, seqD, ifS, forS, testD, op2D, op1D, ixD, nameD, conD, Z.Env.at, Res.bind, Res.of, Res.s, RV.get, RV.fz, O.fz, ixR, RV.part, Z.scal, sv, RV.bool, setD, callD, consA, nilA, fzs, RV.take, setIxD, storeIx, rtD, RV.out, Z.Env.put, endD, outsL, headO, valO, Z.O.get, Z.O.put, fnD, startE, callZ, argsZ, callR, lend, unlend, arrange, passD, rtN, addD, addF, RV.sh, O.sh, vals, andD, orD, notD, ifD, newLD, newVD, shs, lstD, tupD, takes, fzL, ixN, atI, D.add, D.sub, D.mul, D.fdiv, D.mod, D.gt, D.ge, D.lt, D.le, intF, absF, lenF, mulOk_eq, divOk_eq, flatD, RV.flat, vals_flatO, fzL_mv, vals_mv, fzL_append, fzL_vals]) (ds := ps.map (·.2)) (acc := []) fun q hq => by
    obtain ⟨p, hp, rfl⟩ := List.mem_map.mp hq
    obtain ⟨ls, h1, h2, h3⟩ := h p hp
    have := kinds_good K ls p.2 h1 hk h2 hn
    rw [h3] at this
    exact ⟨_, rfl, by simp [le_sets_of_1, this, seqD, ifS, forS, testD, op2D, op1D, ixD, nameD, conD, Z.Env.at, Res.bind, Res.of, Res.s, RV.get, RV.fz, O.fz, ixR, RV.part, Z.scal, sv, RV.bool, setD, callD, consA, nilA, fzs, RV.take, setIxD, storeIx, rtD, RV.out, Z.Env.put, endD, outsL, headO, valO, Z.O.get, Z.O.put, fnD, startE, callZ, argsZ, callR, lend, unlend, arrange, passD, rtN, addD, addF, RV.sh, O.sh, vals, andD, orD, notD, ifD, newLD, newVD, shs, lstD, tupD, takes, fzL, ixN, atI, D.add, D.sub, D.mul, D.fdiv, D.mod, D.gt, D.ge, D.lt, D.le, intF, absF, lenF, mulOk_eq, divOk_eq, flatD, RV.flat, vals_flatO, fzL_mv, vals_mv, fzL_append, fzL_vals]; rfl⟩
  have hsq : F_is_sequence [.val d] = .ok (.val (.bl true)) [.val d] := by rcases hd with rfl | rfl; exact seq_lst _; exact seq_tup _
  have hit : d.items = some (ps.map (·.2) ++ b :: post) := by rcases hd with rfl | rfl <;> rfl
  simp [-List.map_map, eq_sets_of, m_sets_of, hsq, hit, notD, hc, lcD, srcD, clear, finL, restore, seqD, ifS, forS, testD, op2D, op1D, ixD, nameD, conD, Z.Env.at, Res.bind, Res.of, Res.s, RV.get, RV.fz, O.fz, ixR, RV.part, Z.scal, sv, RV.bool, setD, callD, consA, nilA, fzs, RV.take, setIxD, storeIx, rtD, RV.out, Z.Env.put, endD, outsL, headO, valO, Z.O.get, Z.O.put, fnD, startE, callZ, argsZ, callR, lend, unlend, arrange, passD, rtN, addD, addF, RV.sh, O.sh, vals, andD, orD, notD, ifD, newLD, newVD, shs, lstD, tupD, takes, fzL, ixN, atI, D.add, D.sub, D.mul, D.fdiv, D.mod, D.gt, D.ge, D.lt, D.le, intF, absF, lenF, mulOk_eq, divOk_eq, flatD, RV.flat, vals_flatO, fzL_mv, vals_mv, fzL_append, fzL_vals]
theorem sets_none (K : List Nat) (d : D) (h : NSq d) : F_sets_of [.val (.str (txt K)), .val d] = .err ⟨1, [("letter", d)]⟩ [.val (.str (txt K)), .val d] := by
  simp [eq_sets_of, m_sets_of, h.2, notD, raiseD, seqD, ifS, forS, testD, op2D, op1D, ixD, nameD, conD, Z.Env.at, Res.bind, Res.of, Res.s, RV.get, RV.fz, O.fz, ixR, RV.part, Z.scal, sv, RV.bool, setD, callD, consA, nilA, fzs, RV.take, setIxD, storeIx, rtD, RV.out, Z.Env.put, endD, outsL, headO, valO, Z.O.get, Z.O.put, fnD, startE, callZ, argsZ, callR, lend, unlend, arrange, passD, rtN, addD, addF, RV.sh, O.sh, vals, andD, orD, notD, ifD, newLD, newVD, shs, lstD, tupD, takes, fzL, ixN, atI, D.add, D.sub, D.mul, D.fdiv, D.mod, D.gt, D.ge, D.lt, D.le, intF, absF, lenF, mulOk_eq, divOk_eq, flatD, RV.flat, vals_flatO, fzL_mv, vals_mv, fzL_append, fzL_vals]
def ABCD : List Nat := [97, 98, 99, 100]
theorem abcd_txt : (Str.ofString "abcd") = txt ABCD := by decide +kernel
theorem abcd_low : Low ABCD := by unfold Low ABCD; decide
/-- ''.join([kind for kind in kinds if kind not in one]) -/
theorem comp_lack (K one : List Nat) (hk : Low K) (hn : K.length ≤ 10000) (d : D) : le_complement_sets_3 [some (.val (.str (txt K))), some (.val d), some (.val (.str (txt one))), none] = .ok (rv (.str (txt (K.filter fun c => !decide (c ∈ one))))) [some (.val (.str (txt K))), some (.val d), some (.val (.str (txt one))), none] := by
  have hc := comp_map (v := 3) (mt := lt_complement_sets_1) (me := le_complement_sets_2) (t := fun d => match D.notIn d (.str (txt one)) with | some (.bl b) => b | _ => false) (f := fun d => d) (e0 := [some (.val (.str (txt K))), some (.val d), some (.val (.str (txt one))), none]) rfl (ds := (K.map Z.sgn).map .str) (acc := []) fun d hd => by
    simp only [List.mem_map] at hd
    obtain ⟨_, ⟨c, hc, rfl⟩, rfl⟩ := hd
    have := notIn_str c one
    exact ⟨by simp [lt_complement_sets_1, this, seqD, ifS, forS, testD, op2D, op1D, ixD, nameD, conD, Z.Env.at, Res.bind, Res.of, Res.s, RV.get, RV.fz, O.fz, ixR, RV.part, Z.scal, sv, RV.bool, setD, callD, consA, nilA, fzs, RV.take, setIxD, storeIx, rtD, RV.out, Z.Env.put, endD, outsL, headO, valO, Z.O.get, Z.O.put, fnD, startE, callZ, argsZ, callR, lend, unlend, arrange, passD, rtN, addD, addF, RV.sh, O.sh, vals, andD, orD, notD, ifD, newLD, newVD, shs, lstD, tupD, takes, fzL, ixN, atI, D.add, D.sub, D.mul, D.fdiv, D.mod, D.gt, D.ge, D.lt, D.le, intF, absF, lenF, mulOk_eq, divOk_eq, flatD, RV.flat, vals_flatO, fzL_mv, vals_mv, fzL_append, fzL_vals], fun _ => by simp [le_complement_sets_2, seqD, ifS, forS, testD, op2D, op1D, ixD, nameD, conD, Z.Env.at, Res.bind, Res.of, Res.s, RV.get, RV.fz, O.fz, ixR, RV.part, Z.scal, sv, RV.bool, setD, callD, consA, nilA, fzs, RV.take, setIxD, storeIx, rtD, RV.out, Z.Env.put, endD, outsL, headO, valO, Z.O.get, Z.O.put, fnD, startE, callZ, argsZ, callR, lend, unlend, arrange, passD, rtN, addD, addF, RV.sh, O.sh, vals, andD, orD, notD, ifD, newLD, newVD, shs, lstD, tupD, takes, fzL, ixN, atI, D.add, D.sub, D.mul, D.fdiv, D.mod, D.gt, D.ge, D.lt, D.le, intF, absF, lenF, mulOk_eq, divOk_eq, flatD, RV.flat, vals_flatO, fzL_mv, vals_mv, fzL_append, fzL_vals]⟩
  have hf : ((K.map Z.sgn).map D.str).filter (fun d => match D.notIn d (.str (txt one)) with | some (.bl b) => b | _ => false) = ((K.filter fun c => !decide (c ∈ one)).map Z.sgn).map D.str := by
    rw [List.filter_map, List.filter_map]
    congr 2
    refine List.filter_congr fun c hc => ?_
    have := notIn_str c one
    simp [this]
  rw [hf] at hc
  have hK : (D.str (txt K)).items = some ((K.map Z.sgn).map .str) := as_items (.inl rfl)
  have hj := joinAF_row (ls := K.filter fun c => !decide (c ∈ one)) (Nat.le_trans (List.length_filter_le _ _) (by omega))
  have ho := sOk_txt (ls := K.filter fun c => !decide (c ∈ one)) (fun c hc => hk c (List.mem_filter.mp hc).1) (Nat.le_trans (List.length_filter_le _ _) hn)
  have hfz := fzL_vals (((K.filter fun c => !decide (c ∈ one)).map Z.sgn).map D.str)
  rw [show (fun c => (⟨#[c]⟩ : Str)) = Z.sgn from rfl] at hj
  unfold txt at *
  simp [-List.map_map, le_complement_sets_3, hK, srcD, lcD, clear, hc, finL, restore, m1D, hfz, hj, ho, seqD, ifS, forS, testD, op2D, op1D, ixD, nameD, conD, Z.Env.at, Res.bind, Res.of, Res.s, RV.get, RV.fz, O.fz, ixR, RV.part, Z.scal, sv, RV.bool, setD, callD, consA, nilA, fzs, RV.take, setIxD, storeIx, rtD, RV.out, Z.Env.put, endD, outsL, headO, valO, Z.O.get, Z.O.put, fnD, startE, callZ, argsZ, callR, lend, unlend, arrange, passD, rtN, addD, addF, RV.sh, O.sh, vals, andD, orD, notD, ifD, newLD, newVD, shs, lstD, tupD, takes, fzL, ixN, atI, D.add, D.sub, D.mul, D.fdiv, D.mod, D.gt, D.ge, D.lt, D.le, intF, absF, lenF, mulOk_eq, divOk_eq, flatD, RV.flat, vals_flatO, fzL_mv, vals_mv, fzL_append, fzL_vals]
theorem lack_good (K : List Nat) (hK : ∀ c ∈ K, c ∈ ABCD) (hn : K.length ≤ 100) (dk : D) (hdk : Tells ABCD K dk) (ps : List (List Nat × D)) (h : ∀ p ∈ ps, Tells K p.1 p.2) (hp : ps.length ≤ 100) (o : O) (d : D) (hs : Stands (ps.map (·.2)) o d) :
    F_complement_sets [.val dk, o] = .ok (.val (.tup (ps.map fun p => .str (txt (K.filter fun c => !decide (c ∈ p.1)))))) [.val dk, .val d] := by
  have hk : Low K := fun c hc => abcd_low c (hK c hc)
  obtain ⟨ls, h1, h2, h3⟩ := hdk
  have hkk := kinds_good ABCD ls dk h1 abcd_low h2 (by decide)
  rw [h3] at hkk
  have hss := sets_good K hk (by omega) ps h o d hs
  have hc := comp_pairs (v := 2) (me := le_complement_sets_3) (e0 := [some (.val (.str (txt K))), some (.val d), none, none]) rfl (ps := ps.map fun p => (D.str (txt p.1), D.str (txt (K.filter fun c => !decide (c ∈ p.1))))) (acc := []) fun q hq => by
    obtain ⟨p, hp, rfl⟩ := List.mem_map.mp hq
    have := comp_lack K p.1 hk (by omega) d
    simpa using this
  rw [List.map_map, List.map_map] at hc
  have hfz : fzL (ps.map fun p => O.val (.str (txt p.1))) = ps.map fun p => .str (txt p.1) := by
    have := fzL_vals (ps.map fun p => D.str (txt p.1))
    rwa [List.map_map] at this
  have hv : vals (ps.map fun p => O.val (.str (txt (K.filter fun c => !decide (c ∈ p.1))))) = some (ps.map fun p => .str (txt (K.filter fun c => !decide (c ∈ p.1)))) := by
    have := vals_map (ps.map fun p => D.str (txt (K.filter fun c => !decide (c ∈ p.1))))
    rwa [List.map_map] at this
  have e1 : ((fun p : D × D => p.1) ∘ fun p : List Nat × D => (D.str (txt p.1), D.str (txt (K.filter fun c => !decide (c ∈ p.1))))) = fun p => D.str (txt p.1) := rfl
  have e2 : ((fun p : D × D => O.val p.2) ∘ fun p : List Nat × D => (D.str (txt p.1), D.str (txt (K.filter fun c => !decide (c ∈ p.1))))) = fun p => .val (.str (txt (K.filter fun c => !decide (c ∈ p.1)))) := rfl
  rw [e1, e2] at hc
  rcases hs.2 with rfl | ⟨rfl, rfl⟩ <;> simp [-List.map_map, eq_complement_sets, m_complement_sets, abcd_txt, hkk, hss, hfz, hv, hc, D.items, lcD, srcD, clear, finL, restore, newVD, tupleF, seqD, ifS, forS, testD, op2D, op1D, ixD, nameD, conD, Z.Env.at, Res.bind, Res.of, Res.s, RV.get, RV.fz, O.fz, ixR, RV.part, Z.scal, sv, RV.bool, setD, callD, consA, nilA, fzs, RV.take, setIxD, storeIx, rtD, RV.out, Z.Env.put, endD, outsL, headO, valO, Z.O.get, Z.O.put, fnD, startE, callZ, argsZ, callR, lend, unlend, arrange, passD, rtN, addD, addF, RV.sh, O.sh, vals, andD, orD, notD, ifD, newLD, newVD, shs, lstD, tupD, takes, fzL, ixN, atI, D.add, D.sub, D.mul, D.fdiv, D.mod, D.gt, D.ge, D.lt, D.le, intF, absF, lenF, mulOk_eq, divOk_eq, flatD, RV.flat, vals_flatO, fzL_mv, vals_mv, fzL_append, fzL_vals]
theorem lack_kinds_bad (dk d : D) (x : Exn) (h : F_kinds_of [.val (.str (txt ABCD)), .val dk] = .err x [.val (.str (txt ABCD)), .val dk]) : F_complement_sets [.val dk, .val d] = .err x [.val dk, .val d] := by
  simp [eq_complement_sets, m_complement_sets, abcd_txt, h, seqD, ifS, forS, testD, op2D, op1D, ixD, nameD, conD, Z.Env.at, Res.bind, Res.of, Res.s, RV.get, RV.fz, O.fz, ixR, RV.part, Z.scal, sv, RV.bool, setD, callD, consA, nilA, fzs, RV.take, setIxD, storeIx, rtD, RV.out, Z.Env.put, endD, outsL, headO, valO, Z.O.get, Z.O.put, fnD, startE, callZ, argsZ, callR, lend, unlend, arrange, passD, rtN, addD, addF, RV.sh, O.sh, vals, andD, orD, notD, ifD, newLD, newVD, shs, lstD, tupD, takes, fzL, ixN, atI, D.add, D.sub, D.mul, D.fdiv, D.mod, D.gt, D.ge, D.lt, D.le, intF, absF, lenF, mulOk_eq, divOk_eq, flatD, RV.flat, vals_flatO, fzL_mv, vals_mv, fzL_append, fzL_vals]
theorem lack_sets_bad (K : List Nat) (dk d : D) (hdk : Tells ABCD K dk) (x : Exn) (h : F_sets_of [.val (.str (txt K)), .val d] = .err x [.val (.str (txt K)), .val d]) : F_complement_sets [.val dk, .val d] = .err x [.val dk, .val d] := by
  obtain ⟨ls, h1, h2, h3⟩ := hdk
  have hkk := kinds_good ABCD ls dk h1 abcd_low h2 (by decide)
  rw [h3] at hkk
  simp [eq_complement_sets, m_complement_sets, abcd_txt, hkk, h, lcD, srcD, newVD, seqD, ifS, forS, testD, op2D, op1D, ixD, nameD, conD, Z.Env.at, Res.bind, Res.of, Res.s, RV.get, RV.fz, O.fz, ixR, RV.part, Z.scal, sv, RV.bool, setD, callD, consA, nilA, fzs, RV.take, setIxD, storeIx, rtD, RV.out, Z.Env.put, endD, outsL, headO, valO, Z.O.get, Z.O.put, fnD, startE, callZ, argsZ, callR, lend, unlend, arrange, passD, rtN, addD, addF, RV.sh, O.sh, vals, andD, orD, notD, ifD, newLD, newVD, shs, lstD, tupD, takes, fzL, ixN, atI, D.add, D.sub, D.mul, D.fdiv, D.mod, D.gt, D.ge, D.lt, D.le, intF, absF, lenF, mulOk_eq, divOk_eq, flatD, RV.flat, vals_flatO, fzL_mv, vals_mv, fzL_append, fzL_vals]
theorem meet_kinds_bad (dk d : D) (x : Exn) (h : F_kinds_of [.val (.str (txt ABCD)), .val dk] = .err x [.val (.str (txt ABCD)), .val dk]) : F_meeting_sets [.val dk, .val d] = .err x [.val dk, .val d] := by
  simp [eq_meeting_sets, m_meeting_sets, abcd_txt, h, seqD, ifS, forS, testD, op2D, op1D, ixD, nameD, conD, Z.Env.at, Res.bind, Res.of, Res.s, RV.get, RV.fz, O.fz, ixR, RV.part, Z.scal, sv, RV.bool, setD, callD, consA, nilA, fzs, RV.take, setIxD, storeIx, rtD, RV.out, Z.Env.put, endD, outsL, headO, valO, Z.O.get, Z.O.put, fnD, startE, callZ, argsZ, callR, lend, unlend, arrange, passD, rtN, addD, addF, RV.sh, O.sh, vals, andD, orD, notD, ifD, newLD, newVD, shs, lstD, tupD, takes, fzL, ixN, atI, D.add, D.sub, D.mul, D.fdiv, D.mod, D.gt, D.ge, D.lt, D.le, intF, absF, lenF, mulOk_eq, divOk_eq, flatD, RV.flat, vals_flatO, fzL_mv, vals_mv, fzL_append, fzL_vals]
theorem meet_sets_bad (K : List Nat) (dk d : D) (hdk : Tells ABCD K dk) (x : Exn) (h : F_sets_of [.val (.str (txt K)), .val d] = .err x [.val (.str (txt K)), .val d]) : F_meeting_sets [.val dk, .val d] = .err x [.val dk, .val d] := by
  obtain ⟨ls, h1, h2, h3⟩ := hdk
  have hkk := kinds_good ABCD ls dk h1 abcd_low h2 (by decide)
  rw [h3] at hkk
  simp [eq_meeting_sets, m_meeting_sets, abcd_txt, hkk, h, seqD, ifS, forS, testD, op2D, op1D, ixD, nameD, conD, Z.Env.at, Res.bind, Res.of, Res.s, RV.get, RV.fz, O.fz, ixR, RV.part, Z.scal, sv, RV.bool, setD, callD, consA, nilA, fzs, RV.take, setIxD, storeIx, rtD, RV.out, Z.Env.put, endD, outsL, headO, valO, Z.O.get, Z.O.put, fnD, startE, callZ, argsZ, callR, lend, unlend, arrange, passD, rtN, addD, addF, RV.sh, O.sh, vals, andD, orD, notD, ifD, newLD, newVD, shs, lstD, tupD, takes, fzL, ixN, atI, D.add, D.sub, D.mul, D.fdiv, D.mod, D.gt, D.ge, D.lt, D.le, intF, absF, lenF, mulOk_eq, divOk_eq, flatD, RV.flat, vals_flatO, fzL_mv, vals_mv, fzL_append, fzL_vals]
/-! ### all sets of kinds -/
def KS : List (List Nat) := [[97, 98, 99, 100], [97, 98, 99], [97, 98, 100], [98, 100], [99], []]
def EV : List Nat → List (List Nat) := fun K => if K = [97, 98, 99, 100] then [[], [97], [98], [99], [100], [97, 98], [97, 99], [97, 100], [98, 99], [98, 100], [99, 100], [97, 98, 99], [97, 98, 100], [97, 99, 100], [98, 99, 100], [97, 98, 99, 100]]
  else if K = [97, 98, 99] then [[], [97], [98], [99], [97, 98], [97, 99], [98, 99], [97, 98, 99]]
  else if K = [97, 98, 100] then [[], [97], [98], [100], [97, 98], [97, 100], [98, 100], [97, 98, 100]]
  else if K = [98, 100] then [[], [98], [100], [98, 100]] else if K = [99] then [[], [99]] else [[]]
def less (one : List Nat) : List (List Nat) := (List.range one.length).map fun k => one.take k ++ one.drop (k + 1)
theorem kinds_cases {K : List Nat} (h : K ∈ KS) : K = [97, 98, 99, 100] ∨ K = [97, 98, 99] ∨ K = [97, 98, 100] ∨ K = [98, 100] ∨ K = [99] ∨ K = [] := by simpa [KS] using h
theorem law_sets {K : List Nat} (h : K ∈ KS) : F__law_sets [.val (.str (txt K))] = .ok (.lst ((EV K).map fun s => .val (.str (txt s)))) [.val (.str (txt K))] := by
  rw [eq__law_sets]; rcases kinds_cases h with rfl | rfl | rfl | rfl | rfl | rfl <;> kernel_rfl
theorem kind_sets {K : List Nat} (h : K ∈ KS) : F_kind_sets [.val (.str (txt K))] = .ok (.lst ((EV K).map fun s => .val (.str (txt s)))) [.val (.str (txt K))] := by
  rw [eq_kind_sets]; rcases kinds_cases h with rfl | rfl | rfl | rfl | rfl | rfl <;> kernel_rfl
theorem lesser {one : List Nat} (h : one ∈ EV [97, 98, 99, 100]) : F_lesser_sets [.val (.str (txt one))] = .ok (.lst ((less one).map fun s => .val (.str (txt s)))) [.val (.str (txt one))] := by
  have : one = [] ∨ one = [97] ∨ one = [98] ∨ one = [99] ∨ one = [100] ∨ one = [97, 98] ∨ one = [97, 99] ∨ one = [97, 100] ∨ one = [98, 99] ∨ one = [98, 100] ∨ one = [99, 100] ∨ one = [97, 98, 99] ∨ one = [97, 98, 100] ∨ one = [97, 99, 100] ∨ one = [98, 99, 100] ∨ one = [97, 98, 99, 100] := by simpa [EV] using h
  rw [eq_lesser_sets]; rcases this with rfl | rfl | rfl | rfl | rfl | rfl | rfl | rfl | rfl | rfl | rfl | rfl | rfl | rfl | rfl | rfl <;> kernel_rfl
theorem ev_abcd : ∀ K ∈ KS, ∀ one ∈ EV K, one ∈ EV [97, 98, 99, 100] := by decide +kernel
theorem ev_in : ∀ K ∈ KS, ∀ one ∈ EV K, (∀ c ∈ one, c ∈ K) ∧ (K.filter fun c => decide (c ∈ one)) = one := by decide +kernel
theorem ev_less : ∀ K ∈ KS, ∀ one ∈ EV K, ∀ x ∈ less one, x ∈ EV K ∧ x ≠ one ∧ ∀ c ∈ x, c ∈ one := by decide +kernel
theorem ev_nodup : ∀ K ∈ KS, (EV K).Nodup := by decide +kernel
theorem ev_low : ∀ K ∈ KS, ∀ one ∈ EV K, one.length ≤ 4 ∧ ∀ c ∈ one, c < 1114112 := by decide +kernel
theorem ev_step : ∀ K ∈ KS, ∀ one ∈ EV K, ∀ x ∈ EV K, (∀ c ∈ x, c ∈ one) → x ≠ one → ((less one).any fun y => x.all fun c => decide (c ∈ y)) = true := by decide +kernel
theorem ks_in : ∀ K ∈ KS, (∀ c ∈ K, c ∈ ABCD) ∧ K.length ≤ 4 ∧ (ABCD.filter fun c => decide (c ∈ K)) = K := by decide +kernel
/-! ### the meeting sets -/
/-- each of T shares a letter with one -/
def M (T : List (List Nat)) (one : List Nat) : Bool := T.all fun other => other.any fun c => decide (c ∈ one)
theorem bools_map {α : Type} (f : α → Bool) : ∀ l : List α, boolsD (l.map fun a => .bl (f a)) = some (l.map f)
  | [] => rfl
  | a :: l => by simp [boolsD, bools_map f l]
theorem put_new {κ : Type} [DecidableEq κ] (k : κ) (o : O) : ∀ l : List (κ × O), k ∉ l.map (·.1) → putO k o l = some (l ++ [(k, o)])
  | [], _ => rfl
  | (k', o') :: r, h => by
    simp only [List.map_cons, List.mem_cons, not_or] at h
    have := put_new k o r h.2
    have h2 : ¬ k' = k := fun e => h.1 e.symm
    simp [putO, this, h2]
theorem meet_any (K other one : List Nat) (s t : D) (m : O) (ho : ∀ c ∈ other, c < 1114112) :
    le_meeting_sets_2 [some (.val (.str (txt K))), some (.val s), some (.val t), some m, some (.val (.str (txt one))), some (.val (.str (txt other))), none, none] = .ok (rv (.bl (other.any fun c => decide (c ∈ one)))) [some (.val (.str (txt K))), some (.val s), some (.val t), some m, some (.val (.str (txt one))), some (.val (.str (txt other))), none, none] := by
  have hc := comp_pairs (v := 6) (me := le_meeting_sets_1) (e0 := [some (.val (.str (txt K))), some (.val s), some (.val t), some m, some (.val (.str (txt one))), some (.val (.str (txt other))), none, none]) rfl (ps := other.map fun c => (D.str (Z.sgn c), .bl (decide (c ∈ one)))) (acc := []) fun q hq => by
    obtain ⟨c, hc, rfl⟩ := List.mem_map.mp hq
    have := isIn_str c one
    simp [le_meeting_sets_1, this, seqD, ifS, forS, testD, op2D, op1D, ixD, nameD, conD, Z.Env.at, Res.bind, Res.of, Res.s, RV.get, RV.fz, O.fz, ixR, RV.part, Z.scal, sv, RV.bool, setD, callD, consA, nilA, fzs, RV.take, setIxD, storeIx, rtD, RV.out, Z.Env.put, endD, outsL, headO, valO, Z.O.get, Z.O.put, fnD, startE, callZ, argsZ, callR, lend, unlend, arrange, passD, rtN, addD, addF, RV.sh, O.sh, vals, andD, orD, notD, ifD, newLD, newVD, shs, lstD, tupD, takes, fzL, ixN, atI, D.add, D.sub, D.mul, D.fdiv, D.mod, D.gt, D.ge, D.lt, D.le, intF, absF, lenF, mulOk_eq, divOk_eq, flatD, RV.flat, vals_flatO, fzL_mv, vals_mv, fzL_append, fzL_vals]
  rw [List.map_map, List.map_map] at hc
  have hi : (D.str (txt other)).items = some (other.map fun c => D.str (Z.sgn c)) := by
    have := as_items (ls := other) (.inl rfl)
    rwa [List.map_map] at this
  have e1 : ((fun p : D × D => p.1) ∘ fun c : Nat => (D.str (Z.sgn c), .bl (decide (c ∈ one)))) = fun c => D.str (Z.sgn c) := rfl
  have e2 : ((fun p : D × D => O.val p.2) ∘ fun c : Nat => (D.str (Z.sgn c), .bl (decide (c ∈ one)))) = fun c => .val (.bl (decide (c ∈ one))) := rfl
  rw [e1, e2] at hc
  have hfz : fzL (other.map fun c => O.val (.bl (decide (c ∈ one)))) = other.map fun c => .bl (decide (c ∈ one)) := by
    have := fzL_vals (other.map fun c => D.bl (decide (c ∈ one)))
    rwa [List.map_map] at this
  have hb := bools_map (fun c => decide (c ∈ one)) other
  simp [-List.map_map, -List.any_eq_true, le_meeting_sets_2, hi, hc, hfz, hb, lcD, srcD, clear, finL, restore, anyF, seqD, ifS, forS, testD, op2D, op1D, ixD, nameD, conD, Z.Env.at, Res.bind, Res.of, Res.s, RV.get, RV.fz, O.fz, ixR, RV.part, Z.scal, sv, RV.bool, setD, callD, consA, nilA, fzs, RV.take, setIxD, storeIx, rtD, RV.out, Z.Env.put, endD, outsL, headO, valO, Z.O.get, Z.O.put, fnD, startE, callZ, argsZ, callR, lend, unlend, arrange, passD, rtN, addD, addF, RV.sh, O.sh, vals, andD, orD, notD, ifD, newLD, newVD, shs, lstD, tupD, takes, fzL, ixN, atI, D.add, D.sub, D.mul, D.fdiv, D.mod, D.gt, D.ge, D.lt, D.le, intF, absF, lenF, mulOk_eq, divOk_eq, flatD, RV.flat, vals_flatO, fzL_mv, vals_mv, fzL_append, fzL_vals]
theorem meet_turn (K one : List Nat) (s : D) (T : List (List Nat)) (kvs : List (Key × O)) (hT : ∀ t ∈ T, ∀ c ∈ t, c < 1114112) (hk : (.inr (txt one) : Key) ∉ kvs.map (·.1)) (hl : kvs.length < 1000) (to : O) (hto : to = .lst (T.map fun t => .val (.str (txt t))) ∨ to = .val (.lst (T.map fun t => .str (txt t)))) :
    lb_meeting_sets_3 [some (.val (.str (txt K))), some (.val s), some to, some (.dct kvs), some (.val (.str (txt one))), none, none, none] = .nx [some (.val (.str (txt K))), some (.val s), some (.val (.lst (T.map fun t => .str (txt t)))), some (.dct (kvs ++ [(.inr (txt one), .val (.bl (M T one)))])), some (.val (.str (txt one))), none, none, none] := by
  have hc := comp_pairs (v := 5) (me := le_meeting_sets_2) (e0 := [some (.val (.str (txt K))), some (.val s), some (.val (.lst (T.map fun t => .str (txt t)))), some (.dct kvs), some (.val (.str (txt one))), none, none, none]) rfl (ps := T.map fun t => (D.str (txt t), .bl (t.any fun c => decide (c ∈ one)))) (acc := []) fun q hq => by
    obtain ⟨t, ht, rfl⟩ := List.mem_map.mp hq
    have := meet_any K t one s (.lst (T.map fun t => .str (txt t))) (.dct kvs) (hT t ht)
    simpa using this
  rw [List.map_map, List.map_map] at hc
  have e1 : ((fun p : D × D => p.1) ∘ fun t : List Nat => (D.str (txt t), .bl (t.any fun c => decide (c ∈ one)))) = fun t => D.str (txt t) := rfl
  have e2 : ((fun p : D × D => O.val p.2) ∘ fun t : List Nat => (D.str (txt t), .bl (t.any fun c => decide (c ∈ one)))) = fun t => .val (.bl (t.any fun c => decide (c ∈ one))) := rfl
  rw [e1, e2] at hc
  have hfz : fzL (T.map fun t => O.val (.str (txt t))) = T.map fun t => .str (txt t) := by
    have := fzL_vals (T.map fun t => D.str (txt t))
    rwa [List.map_map] at this
  have hfz2 : fzL (T.map fun t => O.val (.bl (t.any fun c => decide (c ∈ one)))) = T.map fun t => .bl (t.any fun c => decide (c ∈ one)) := by
    have := fzL_vals (T.map fun t => D.bl (t.any fun c => decide (c ∈ one)))
    rwa [List.map_map] at this
  have hb := bools_map (fun t : List Nat => t.any fun c => decide (c ∈ one)) T
  have hp := put_new (.inr (txt one) : Key) (.val (.bl (M T one))) kvs hk
  have hl' : kvs.length < 1000000 := by omega
  have hM : (T.map fun t => t.any fun c => decide (c ∈ one)).all id = M T one := by simp [M, List.all_map, Function.comp_def]
  rcases hto with rfl | rfl <;> simp [-List.map_map, -List.any_eq_true, -List.all_eq_true, lb_meeting_sets_3, D.items, hc, hfz, hfz2, hb, hM, hp, hl', lcD, srcD, clear, finL, restore, allF, D.keyOf, seqD, ifS, forS, testD, op2D, op1D, ixD, nameD, conD, Z.Env.at, Res.bind, Res.of, Res.s, RV.get, RV.fz, O.fz, ixR, RV.part, Z.scal, sv, RV.bool, setD, callD, consA, nilA, fzs, RV.take, setIxD, storeIx, rtD, RV.out, Z.Env.put, endD, outsL, headO, valO, Z.O.get, Z.O.put, fnD, startE, callZ, argsZ, callR, lend, unlend, arrange, passD, rtN, addD, addF, RV.sh, O.sh, vals, andD, orD, notD, ifD, newLD, newVD, shs, lstD, tupD, takes, fzL, ixN, atI, D.add, D.sub, D.mul, D.fdiv, D.mod, D.gt, D.ge, D.lt, D.le, intF, absF, lenF, mulOk_eq, divOk_eq, flatD, RV.flat, vals_flatO, fzL_mv, vals_mv, fzL_append, fzL_vals]
def dctO (T : List (List Nat)) (l : List (List Nat)) : List (Key × O) := l.map fun one => (.inr (txt one), .val (.bl (M T one)))
theorem meet_loop (K : List Nat) (s : D) (T : List (List Nat)) (hT : ∀ t ∈ T, ∀ c ∈ t, c < 1114112) : ∀ (ones done : List (List Nat)) (to : O) (x : Option D), (done ++ ones).Nodup → (done ++ ones).length < 1000 → (to = .lst (T.map fun t => .val (.str (txt t))) ∨ to = .val (.lst (T.map fun t => .str (txt t)))) →
    ∃ (to' : O) (x' : Option D), loopD (Tgt.nm 4).st lb_meeting_sets_3 (ones.map fun s => .str (txt s)) [some (.val (.str (txt K))), some (.val s), some to, some (.dct (dctO T done)), x.map .val, none, none, none] = .nx [some (.val (.str (txt K))), some (.val s), some to', some (.dct (dctO T (done ++ ones))), x'.map .val, none, none, none]
  | [], done, to, x, _, _, _ => ⟨to, x, by simp [loopD]⟩
  | one :: ones, done, to, x, hn, hl, hto => by
    have hk : (.inr (txt one) : Key) ∉ (dctO T done).map (·.1) := by
      unfold dctO
      rw [List.map_map]
      intro h
      obtain ⟨y, hy, e⟩ := List.mem_map.mp h
      have : y = one := by simpa [txt] using e
      subst this
      have := List.nodup_append.mp hn
      exact this.2.2 y hy y List.mem_cons_self rfl
    have ht := meet_turn K one s T (dctO T done) hT hk (by simp [dctO] at hl ⊢; omega) to hto
    have e : dctO T done ++ [(.inr (txt one), .val (.bl (M T one)))] = dctO T (done ++ [one]) := by simp [dctO]
    rw [e] at ht
    have ha : done ++ one :: ones = (done ++ [one]) ++ ones := by simp
    obtain ⟨to', x', h⟩ := meet_loop K s T hT ones (done ++ [one]) _ (some (.str (txt one))) (ha ▸ hn) (ha ▸ hl) (.inr rfl)
    refine ⟨to', x', ?_⟩
    rw [List.map_cons, loop_nx (e2 := _) (v := 4) ht, ha]
    exact h
theorem look_dct {T : List (List Nat)} {one : List Nat} : ∀ {l : List (List Nat)}, one ∈ l → lookD (.inr (txt one) : Key) (l.map fun one => (.inr (txt one), .bl (M T one))) = some (.bl (M T one))
  | x :: l, h => by
    by_cases e : x = one
    · subst e; simp [lookD]
    · have h2 : one ∈ l := by rcases List.mem_cons.mp h with h | h; exact absurd h.symm e; exact h
      have := look_dct (T := T) h2
      have h3 : ¬ (Sum.inr (txt x) : Key) = .inr (txt one) := fun e' => e (by simpa [txt] using e')
      simp [lookD, h3, this]
/-- the elements of the dict's own walk -/
theorem meet_test (K : List Nat) (s : D) (to : O) (one : List Nat) (ys : List (List Nat)) (m : List Nat → Bool) (kv : List (Key × D)) (h1 : lookD (.inr (txt one) : Key) kv = some (.bl (m one))) (h2 : ∀ y ∈ ys, lookD (.inr (txt y) : Key) kv = some (.bl (m y))) (hL : F_lesser_sets [.val (.str (txt one))] = .ok (.lst (ys.map fun s => .val (.str (txt s)))) [.val (.str (txt one))]) :
    lt_meeting_sets_5 [some (.val (.str (txt K))), some (.val s), some to, some (.val (.dct kv)), some (.val (.str (txt one))), none, none, none] = .ok (m one && !ys.any m) [some (.val (.str (txt K))), some (.val s), some to, some (.val (.dct kv)), some (.val (.str (txt one))), none, none, none] := by
  have hc := comp_pairs (v := 7) (me := le_meeting_sets_4) (e0 := [some (.val (.str (txt K))), some (.val s), some to, some (.val (.dct kv)), some (.val (.str (txt one))), none, none, none]) rfl (ps := ys.map fun y => (D.str (txt y), .bl (m y))) (acc := []) fun q hq => by
    obtain ⟨y, hy, rfl⟩ := List.mem_map.mp hq
    have := h2 y hy
    simp [le_meeting_sets_4, D.keyOf, this, seqD, ifS, forS, testD, op2D, op1D, ixD, nameD, conD, Z.Env.at, Res.bind, Res.of, Res.s, RV.get, RV.fz, O.fz, ixR, RV.part, Z.scal, sv, RV.bool, setD, callD, consA, nilA, fzs, RV.take, setIxD, storeIx, rtD, RV.out, Z.Env.put, endD, outsL, headO, valO, Z.O.get, Z.O.put, fnD, startE, callZ, argsZ, callR, lend, unlend, arrange, passD, rtN, addD, addF, RV.sh, O.sh, vals, andD, orD, notD, ifD, newLD, newVD, shs, lstD, tupD, takes, fzL, ixN, atI, D.add, D.sub, D.mul, D.fdiv, D.mod, D.gt, D.ge, D.lt, D.le, intF, absF, lenF, mulOk_eq, divOk_eq, flatD, RV.flat, vals_flatO, fzL_mv, vals_mv, fzL_append, fzL_vals]
  rw [List.map_map, List.map_map] at hc
  have e1 : ((fun p : D × D => p.1) ∘ fun y : List Nat => (D.str (txt y), .bl (m y))) = fun y => D.str (txt y) := rfl
  have e2 : ((fun p : D × D => O.val p.2) ∘ fun y : List Nat => (D.str (txt y), .bl (m y))) = fun y => .val (.bl (m y)) := rfl
  rw [e1, e2] at hc
  have hfz : fzL (ys.map fun t => O.val (.str (txt t))) = ys.map fun t => .str (txt t) := by
    have := fzL_vals (ys.map fun t => D.str (txt t))
    rwa [List.map_map] at this
  have hfz2 : fzL (ys.map fun t => O.val (.bl (m t))) = ys.map fun t => .bl (m t) := by
    have := fzL_vals (ys.map fun t => D.bl (m t))
    rwa [List.map_map] at this
  have hb := bools_map m ys
  have h5 : (callD anyF (consA (lcD [7] (srcD (callZ 1 0 [0] [] F_lesser_sets (consA (nameD 4) nilA) nilA)) (.nm 7) yesD le_meeting_sets_4) nilA)) [some (.val (.str (txt K))), some (.val s), some to, some (.val (.dct kv)), some (.val (.str (txt one))), none, none, none] = .ok (rv (.bl (ys.any m))) [some (.val (.str (txt K))), some (.val s), some to, some (.val (.dct kv)), some (.val (.str (txt one))), none, none, none] := by
    simp [-List.map_map, -List.any_eq_true, D.items, hL, hc, hfz, hfz2, hb, lcD, srcD, clear, finL, restore, anyF, seqD, ifS, forS, testD, op2D, op1D, ixD, nameD, conD, Z.Env.at, Res.bind, Res.of, Res.s, RV.get, RV.fz, O.fz, ixR, RV.part, Z.scal, sv, RV.bool, setD, callD, consA, nilA, fzs, RV.take, setIxD, storeIx, rtD, RV.out, Z.Env.put, endD, outsL, headO, valO, Z.O.get, Z.O.put, fnD, startE, callZ, argsZ, callR, lend, unlend, arrange, passD, rtN, addD, addF, RV.sh, O.sh, vals, andD, orD, notD, ifD, newLD, newVD, shs, lstD, tupD, takes, fzL, ixN, atI, D.add, D.sub, D.mul, D.fdiv, D.mod, D.gt, D.ge, D.lt, D.le, intF, absF, lenF, mulOk_eq, divOk_eq, flatD, RV.flat, vals_flatO, fzL_mv, vals_mv, fzL_append, fzL_vals]
  have h6 : testD (ixD (nameD 3) (nameD 4)) [some (.val (.str (txt K))), some (.val s), some to, some (.val (.dct kv)), some (.val (.str (txt one))), none, none, none] = .ok (m one) [some (.val (.str (txt K))), some (.val s), some to, some (.val (.dct kv)), some (.val (.str (txt one))), none, none, none] := by
    simp [D.keyOf, h1, seqD, ifS, forS, testD, op2D, op1D, ixD, nameD, conD, Z.Env.at, Res.bind, Res.of, Res.s, RV.get, RV.fz, O.fz, ixR, RV.part, Z.scal, sv, RV.bool, setD, callD, consA, nilA, fzs, RV.take, setIxD, storeIx, rtD, RV.out, Z.Env.put, endD, outsL, headO, valO, Z.O.get, Z.O.put, fnD, startE, callZ, argsZ, callR, lend, unlend, arrange, passD, rtN, addD, addF, RV.sh, O.sh, vals, andD, orD, notD, ifD, newLD, newVD, shs, lstD, tupD, takes, fzL, ixN, atI, D.add, D.sub, D.mul, D.fdiv, D.mod, D.gt, D.ge, D.lt, D.le, intF, absF, lenF, mulOk_eq, divOk_eq, flatD, RV.flat, vals_flatO, fzL_mv, vals_mv, fzL_append, fzL_vals]
  unfold lt_meeting_sets_5 andD notD
  rw [h6]
  simp only [Res.bind]
  cases m one
  · simp
  · simp only [if_true, testD, h5, Res.bind, RV.bool, Res.of, Bool.true_and]
end K65

set_option maxRecDepth 100000
set_option maxHeartbeats 2000000
namespace K65
open PySem L2 PySem.Spec PyProof.Rows Z
def leastM (K : List Nat) (T : List (List Nat)) : List (List Nat) := (EV K).filter fun one => M T one && !(less one).any (M T)
def kvD (T : List (List Nat)) (l : List (List Nat)) : List (Key × D) := l.map fun one => (.inr (txt one), .bl (M T one))
theorem fz_dct (T : List (List Nat)) : ∀ l, fzK (dctO T l) = kvD T l
  | [] => rfl
  | a :: l => by
    have := fz_dct T l
    unfold dctO kvD at *
    simp [fzK, O.fz, this]
theorem meet_good {K : List Nat} (hK : K ∈ KS) (dk : D) (hdk : Tells ABCD K dk) (ps : List (List Nat × D)) (h : ∀ p ∈ ps, Tells K p.1 p.2) (hp : ∀ p ∈ ps, p.1 ∈ EV K) (o : O) (d : D) (hs : Stands (ps.map (·.2)) o d) :
    F_meeting_sets [.val dk, o] = .ok (.val (.tup ((leastM K (ps.map (·.1))).map fun s => .str (txt s)))) [.val dk, .val d] := by
  have hk : Low K := fun c hc => abcd_low c ((ks_in K hK).1 c hc)
  obtain ⟨ls, h1, h2, h3⟩ := hdk
  have hkk := kinds_good ABCD ls dk h1 abcd_low h2 (by decide)
  rw [h3] at hkk
  have hss := sets_good K hk (by have := (ks_in K hK).2.1; omega) ps h o d hs
  have e0 : (ps.map fun p => O.val (.str (txt p.1))) = (ps.map (·.1)).map fun t => .val (.str (txt t)) := by rw [List.map_map]; rfl
  rw [e0] at hss
  have hT : ∀ t ∈ ps.map (·.1), ∀ c ∈ t, c < 1114112 := fun t ht => by
    obtain ⟨p, hp', rfl⟩ := List.mem_map.mp ht
    exact (ev_low K hK p.1 (hp p hp')).2
  generalize ps.map (·.1) = T at *
  have hks := kind_sets hK
  obtain ⟨to, x, hl⟩ := meet_loop K d T hT (EV K) [] (.lst (T.map fun t => .val (.str (txt t)))) none (by simpa using ev_nodup K hK) (by rcases kinds_cases hK with rfl | rfl | rfl | rfl | rfl | rfl <;> decide) (.inl rfl)
  rw [List.nil_append] at hl
  have hd0 : dctO T [] = [] := rfl
  rw [hd0, Option.map_none] at hl
  have hfz : fzL ((EV K).map fun s => O.val (.str (txt s))) = (EV K).map fun s => .str (txt s) := by
    have := fzL_vals ((EV K).map fun s => D.str (txt s))
    rwa [List.map_map] at this
  have hc := fun (x : Option D) => comp_map (v := 4) (mt := lt_meeting_sets_5) (me := le_meeting_sets_6) (t := fun d => match lookD (match d with | .str s => (.inr s : Key) | _ => .inl 0) (kvD T (EV K)) with | some (.bl b) => b && (match d with | .str s => !(less s.cps.toList).any (M T) | _ => false) | _ => false) (f := fun d => d) (e0 := [some (.val (.str (txt K))), some (.val d), some to, some (.val (.dct (kvD T (EV K)))), none, none, none, none]) rfl (ds := (EV K).map fun s => .str (txt s)) (acc := []) fun q hq => by
    obtain ⟨one, hone, rfl⟩ := List.mem_map.mp hq
    have hd := look_dct (T := T) hone
    have := meet_test K d to one (less one) (M T) (kvD T (EV K)) hd (fun y hy => look_dct (T := T) (ev_less K hK one hone y hy).1) (lesser (ev_abcd K hK one hone))
    have e2 : (txt one).cps.toList = one := rfl
    refine ⟨?_, fun _ => by simp [le_meeting_sets_6, seqD, ifS, forS, testD, op2D, op1D, ixD, nameD, conD, Z.Env.at, Res.bind, Res.of, Res.s, RV.get, RV.fz, O.fz, ixR, RV.part, Z.scal, sv, RV.bool, setD, callD, consA, nilA, fzs, RV.take, setIxD, storeIx, rtD, RV.out, Z.Env.put, endD, outsL, headO, valO, Z.O.get, Z.O.put, fnD, startE, callZ, argsZ, callR, lend, unlend, arrange, passD, rtN, addD, addF, RV.sh, O.sh, vals, andD, orD, notD, ifD, newLD, newVD, shs, lstD, tupD, takes, fzL, ixN, atI, D.add, D.sub, D.mul, D.fdiv, D.mod, D.gt, D.ge, D.lt, D.le, intF, absF, lenF, mulOk_eq, divOk_eq, flatD, RV.flat, vals_flatO, fzL_mv, vals_mv, fzL_append, fzL_vals]⟩
    show lt_meeting_sets_5 [some (.val (.str (txt K))), some (.val d), some to, some (.val (.dct (kvD T (EV K)))), some (.val (.str (txt one))), none, none, none] = _
    rw [this]
    have hd' : lookD (.inr (txt one) : Key) (kvD T (EV K)) = some (.bl (M T one)) := hd
    simp only [hd', e2]
    rfl
  have hf : ((EV K).map fun s => D.str (txt s)).filter (fun d => match lookD (match d with | .str s => (.inr s : Key) | _ => .inl 0) (kvD T (EV K)) with | some (.bl b) => b && (match d with | .str s => !(less s.cps.toList).any (M T) | _ => false) | _ => false) = (leastM K T).map fun s => .str (txt s) := by
    unfold leastM
    rw [List.filter_map]
    congr 1
    refine List.filter_congr fun one hone => ?_
    have hd' : lookD (.inr (txt one) : Key) (kvD T (EV K)) = some (.bl (M T one)) := look_dct (T := T) hone
    have e2 : (txt one).cps.toList = one := rfl
    simp only [Function.comp_def, hd', e2]
  rw [hf] at hc
  have hv : vals ((leastM K T).map fun s => O.val (.str (txt s))) = some ((leastM K T).map fun s => .str (txt s)) := by
    have := vals_map ((leastM K T).map fun s => D.str (txt s))
    rwa [List.map_map] at this
  have hkeys : ((dctO T (EV K)).all fun p => keyOkD p.1) = true := by
    unfold dctO
    rw [List.all_map, List.all_eq_true]
    intro one hone
    exact sOk_txt (ev_low K hK one hone).2 (by have := (ev_low K hK one hone).1; omega)
  have hlen : (dctO T (EV K)).length ≤ 1000000 := by
    have : (EV K).length ≤ 100 := by rcases kinds_cases hK with rfl | rfl | rfl | rfl | rfl | rfl <;> decide
    simp [dctO]; omega
  have hmk : ((dctO T (EV K)).map fun p => keyD p.1) = (EV K).map fun s => .str (txt s) := by unfold dctO; rw [List.map_map]; rfl
  have hfzk := fz_dct T (EV K)
  have hc := hc x
  have e3 : (((leastM K T).map fun s => D.str (txt s)).map fun d => O.val d) = (leastM K T).map fun s => .val (.str (txt s)) := by rw [List.map_map]; rfl
  rw [e3] at hc
  have hd : Stands (ps.map (·.2)) o d := hs
  rcases hs.2 with rfl | ⟨rfl, rfl⟩ <;> rcases x with _ | x <;> simp only [Option.map_none, Option.map_some] at hl <;> simp [-List.map_map, eq_meeting_sets, m_meeting_sets, abcd_txt, hkk, hss, hks, hfz, hv, hc, hl, hkeys, hlen, hmk, hfzk, newD, lcKD, keysD, noErr, O.put, D.items, srcD, clear, finL, restore, newVD, tupleF, seqD, ifS, forS, testD, op2D, op1D, ixD, nameD, conD, Z.Env.at, Res.bind, Res.of, Res.s, RV.get, RV.fz, O.fz, ixR, RV.part, Z.scal, sv, RV.bool, setD, callD, consA, nilA, fzs, RV.take, setIxD, storeIx, rtD, RV.out, Z.Env.put, endD, outsL, headO, valO, Z.O.get, Z.O.put, fnD, startE, callZ, argsZ, callR, lend, unlend, arrange, passD, rtN, addD, addF, RV.sh, O.sh, vals, andD, orD, notD, ifD, newLD, newVD, shs, lstD, tupD, takes, fzL, ixN, atI, D.add, D.sub, D.mul, D.fdiv, D.mod, D.gt, D.ge, D.lt, D.le, intF, absF, lenF, mulOk_eq, divOk_eq, flatD, RV.flat, vals_flatO, fzL_mv, vals_mv, fzL_append, fzL_vals]
end K65

set_option maxRecDepth 100000
set_option maxHeartbeats 2000000
namespace K65
open PySem L2 PySem.Spec PyProof.Rows Z
/-! ### the law's own -/
theorem filter_nil {α : Type} (p : α → Bool) (l : List α) : (l.filter p).isEmpty = !l.any p := by
  rw [Bool.eq_iff_iff]
  simp
theorem law_in (one other : List Nat) (ho : Low one) : F__law_in [.val (.str (txt one)), .val (.str (txt other))] = .ok (.val (.bl (one.all fun c => decide (c ∈ other)))) [.val (.str (txt one)), .val (.str (txt other))] := by
  have hc := comp_notIn (v := 2) (w := 1) (e0 := [some (.val (.str (txt one))), some (.val (.str (txt other))), none]) (ls := one) (one := other) (acc := []) rfl rfl (by decide) (by simp)
  have hfz := fzL_vals (((one.filter fun c => !decide (c ∈ other)).map Z.sgn).map D.str)
  have he := eq_signs_nil (ls := one.filter fun c => !decide (c ∈ other)) fun c hc => ho c (List.mem_filter.mp hc).1
  rw [filter_nil] at he
  have ha : (!one.any fun c => !decide (c ∈ other)) = one.all fun c => decide (c ∈ other) := by rw [← List.not_all_eq_any_not]; simp
  rw [ha] at he
  have hit := txt_items one
  simp [-List.map_map, -List.all_eq_true, eq__law_in, m__law_in, lt__law_in_1, le__law_in_2, lcD, srcD, hit, clear, hc, finL, restore, hfz, he, fzL, seqD, ifS, forS, testD, op2D, op1D, ixD, nameD, conD, Z.Env.at, Res.bind, Res.of, Res.s, RV.get, RV.fz, O.fz, ixR, RV.part, Z.scal, sv, RV.bool, setD, callD, consA, nilA, fzs, RV.take, setIxD, storeIx, rtD, RV.out, Z.Env.put, endD, outsL, headO, valO, Z.O.get, Z.O.put, fnD, startE, callZ, argsZ, callR, lend, unlend, arrange, passD, rtN, addD, addF, RV.sh, O.sh, vals, andD, orD, notD, ifD, newLD, newVD, shs, lstD, tupD, takes, fzL, ixN, atI, D.add, D.sub, D.mul, D.fdiv, D.mod, D.gt, D.ge, D.lt, D.le, intF, absF, lenF, mulOk_eq, divOk_eq, flatD, RV.flat, vals_flatO, fzL_mv, vals_mv, fzL_append, fzL_vals]
theorem law_meets (one : List Nat) (T : List (List Nat)) (hT : ∀ t ∈ T, Low t) : F__law_meets [.val (.str (txt one)), .val (.lst ((T.map txt).map .str))] = .ok (.val (.bl (M T one))) [.val (.str (txt one)), .val (.lst ((T.map txt).map .str))] := by
  have hc := comp_map (v := 2) (mt := lt__law_meets_3) (me := le__law_meets_4) (t := fun d => match d with | .str s => !(s.cps.toList.any fun c => decide (c ∈ one)) | _ => false) (f := fun d => d) (e0 := [some (.val (.str (txt one))), some (.val (.lst ((T.map txt).map .str))), none, none]) rfl (ds := (T.map txt).map .str) (acc := []) fun d hd => by
    simp only [List.mem_map] at hd
    obtain ⟨_, ⟨t, ht, rfl⟩, rfl⟩ := hd
    have hc := comp_in (v := 3) (w := 0) (e0 := [some (.val (.str (txt one))), some (.val (.lst ((T.map txt).map .str))), some (.val (.str (txt t))), none]) (ls := t) (one := one) (acc := []) rfl rfl (by decide) (by simp)
    have hfz := fzL_vals (((t.filter fun c => decide (c ∈ one)).map Z.sgn).map D.str)
    have he := eq_signs_nil (ls := t.filter fun c => decide (c ∈ one)) fun c hc => hT t ht c (List.mem_filter.mp hc).1
    rw [filter_nil] at he
    have hit := txt_items t
    have e2 : (txt t).cps.toList = t := rfl
    exact ⟨by simp [-List.map_map, -List.any_eq_true, lt__law_meets_3, lt__law_meets_1, le__law_meets_2, lcD, srcD, hit, clear, hc, finL, restore, hfz, he, fzL, e2, seqD, ifS, forS, testD, op2D, op1D, ixD, nameD, conD, Z.Env.at, Res.bind, Res.of, Res.s, RV.get, RV.fz, O.fz, ixR, RV.part, Z.scal, sv, RV.bool, setD, callD, consA, nilA, fzs, RV.take, setIxD, storeIx, rtD, RV.out, Z.Env.put, endD, outsL, headO, valO, Z.O.get, Z.O.put, fnD, startE, callZ, argsZ, callR, lend, unlend, arrange, passD, rtN, addD, addF, RV.sh, O.sh, vals, andD, orD, notD, ifD, newLD, newVD, shs, lstD, tupD, takes, fzL, ixN, atI, D.add, D.sub, D.mul, D.fdiv, D.mod, D.gt, D.ge, D.lt, D.le, intF, absF, lenF, mulOk_eq, divOk_eq, flatD, RV.flat, vals_flatO, fzL_mv, vals_mv, fzL_append, fzL_vals], fun _ => by simp [le__law_meets_4, seqD, ifS, forS, testD, op2D, op1D, ixD, nameD, conD, Z.Env.at, Res.bind, Res.of, Res.s, RV.get, RV.fz, O.fz, ixR, RV.part, Z.scal, sv, RV.bool, setD, callD, consA, nilA, fzs, RV.take, setIxD, storeIx, rtD, RV.out, Z.Env.put, endD, outsL, headO, valO, Z.O.get, Z.O.put, fnD, startE, callZ, argsZ, callR, lend, unlend, arrange, passD, rtN, addD, addF, RV.sh, O.sh, vals, andD, orD, notD, ifD, newLD, newVD, shs, lstD, tupD, takes, fzL, ixN, atI, D.add, D.sub, D.mul, D.fdiv, D.mod, D.gt, D.ge, D.lt, D.le, intF, absF, lenF, mulOk_eq, divOk_eq, flatD, RV.flat, vals_flatO, fzL_mv, vals_mv, fzL_append, fzL_vals]⟩
  have hf : ((T.map txt).map D.str).filter (fun d => match d with | .str s => !(s.cps.toList.any fun c => decide (c ∈ one)) | _ => false) = ((T.filter fun t => !(t.any fun c => decide (c ∈ one))).map txt).map .str := by
    rw [List.filter_map, List.filter_map]
    rfl
  rw [hf] at hc
  have hfz := fzL_vals (((T.filter fun t => !(t.any fun c => decide (c ∈ one))).map txt).map D.str)
  have he := eqb_strs_nil (ls := T.filter fun t => !(t.any fun c => decide (c ∈ one))) fun t ht => hT t (List.mem_filter.mp ht).1
  rw [filter_nil] at he
  have ha : (!T.any fun t => !(t.any fun c => decide (c ∈ one))) = M T one := by unfold M; rw [← List.not_all_eq_any_not]; simp
  rw [ha] at he
  simp [-List.map_map, eq__law_meets, m__law_meets, lcD, srcD, D.items, clear, hc, finL, restore, hfz, D.eq, he, fzL, seqD, ifS, forS, testD, op2D, op1D, ixD, nameD, conD, Z.Env.at, Res.bind, Res.of, Res.s, RV.get, RV.fz, O.fz, ixR, RV.part, Z.scal, sv, RV.bool, setD, callD, consA, nilA, fzs, RV.take, setIxD, storeIx, rtD, RV.out, Z.Env.put, endD, outsL, headO, valO, Z.O.get, Z.O.put, fnD, startE, callZ, argsZ, callR, lend, unlend, arrange, passD, rtN, addD, addF, RV.sh, O.sh, vals, andD, orD, notD, ifD, newLD, newVD, shs, lstD, tupD, takes, fzL, ixN, atI, D.add, D.sub, D.mul, D.fdiv, D.mod, D.gt, D.ge, D.lt, D.le, intF, absF, lenF, mulOk_eq, divOk_eq, flatD, RV.flat, vals_flatO, fzL_mv, vals_mv, fzL_append, fzL_vals]
end K65

set_option maxRecDepth 100000
set_option maxHeartbeats 2000000
namespace K65
open PySem L2 PySem.Spec PyProof.Rows Z
/-! ### what is bad -/
theorem fzL_len (os : List O) : (fzL os).length = os.length := by rw [fzL_map, List.length_map]
/-- one of some, owned or not -/
theorem one_ofO (w : O) (hw : WellOk w) (os : List O) (h0 : os ≠ []) (hl : os.length < 1000000) : ∃ (o : O) (w' o' : O), F__law_one [w, .lst os] = .ok (.val o.fz) [w', o'] ∧ o ∈ os ∧ WellOk w' := by
  have hpos : 0 < os.length := List.length_pos_iff.mpr h0
  obtain ⟨k, w', e, h1, h2, h3⟩ := draw w hw os.length (by omega) (by omega)
  have hk : k.toNat < os.length := by omega
  have hix : (0 ≤ k) ∧ k < (os.length : Int) := ⟨h1, h2⟩
  have fl := fzL_len os
  obtain ⟨a, b, rfl, _⟩ := hw
  obtain ⟨a', b', rfl, hw'⟩ := h3
  unfold wellO at e ⊢
  have hm := List.getElem_mem hk
  cases ho : os[k.toNat] with
  | val d =>
    refine ⟨.val d, wellO a' b', .lst os, ?_, ho ▸ hm, _, _, rfl, hw'⟩
    unfold wellO
    simp [eq__law_one, m__law_one, e, fl, hk, hix, ho, seqD, ifS, forS, testD, op2D, op1D, ixD, nameD, conD, Z.Env.at, Res.bind, Res.of, Res.s, RV.get, RV.fz, O.fz, ixR, RV.part, Z.scal, sv, RV.bool, setD, callD, consA, nilA, fzs, RV.take, setIxD, storeIx, rtD, RV.out, Z.Env.put, endD, outsL, headO, valO, Z.O.get, Z.O.put, fnD, startE, callZ, argsZ, callR, lend, unlend, arrange, passD, rtN, addD, addF, RV.sh, O.sh, vals, andD, orD, notD, ifD, newLD, newVD, shs, lstD, tupD, takes, fzL, ixN, atI, D.add, D.sub, D.mul, D.fdiv, D.mod, D.gt, D.ge, D.lt, D.le, intF, absF, lenF, mulOk_eq, divOk_eq, flatD, RV.flat, vals_flatO, fzL_mv, vals_mv, fzL_append, fzL_vals]
  | lst xs =>
    refine ⟨.lst xs, wellO a' b', .lst (os.set k.toNat (.val (O.lst xs).fz)), ?_, ho ▸ hm, _, _, rfl, hw'⟩
    unfold wellO
    simp [eq__law_one, m__law_one, e, fl, hk, hix, ho, RV.sub, O.step, O.put1, seqD, ifS, forS, testD, op2D, op1D, ixD, nameD, conD, Z.Env.at, Res.bind, Res.of, Res.s, RV.get, RV.fz, O.fz, ixR, RV.part, Z.scal, sv, RV.bool, setD, callD, consA, nilA, fzs, RV.take, setIxD, storeIx, rtD, RV.out, Z.Env.put, endD, outsL, headO, valO, Z.O.get, Z.O.put, fnD, startE, callZ, argsZ, callR, lend, unlend, arrange, passD, rtN, addD, addF, RV.sh, O.sh, vals, andD, orD, notD, ifD, newLD, newVD, shs, lstD, tupD, takes, fzL, ixN, atI, D.add, D.sub, D.mul, D.fdiv, D.mod, D.gt, D.ge, D.lt, D.le, intF, absF, lenF, mulOk_eq, divOk_eq, flatD, RV.flat, vals_flatO, fzL_mv, vals_mv, fzL_append, fzL_vals]
  | dct xs =>
    refine ⟨.dct xs, wellO a' b', .lst (os.set k.toNat (.val (O.dct xs).fz)), ?_, ho ▸ hm, _, _, rfl, hw'⟩
    unfold wellO
    simp [eq__law_one, m__law_one, e, fl, hk, hix, ho, RV.sub, O.step, O.put1, seqD, ifS, forS, testD, op2D, op1D, ixD, nameD, conD, Z.Env.at, Res.bind, Res.of, Res.s, RV.get, RV.fz, O.fz, ixR, RV.part, Z.scal, sv, RV.bool, setD, callD, consA, nilA, fzs, RV.take, setIxD, storeIx, rtD, RV.out, Z.Env.put, endD, outsL, headO, valO, Z.O.get, Z.O.put, fnD, startE, callZ, argsZ, callR, lend, unlend, arrange, passD, rtN, addD, addF, RV.sh, O.sh, vals, andD, orD, notD, ifD, newLD, newVD, shs, lstD, tupD, takes, fzL, ixN, atI, D.add, D.sub, D.mul, D.fdiv, D.mod, D.gt, D.ge, D.lt, D.le, intF, absF, lenF, mulOk_eq, divOk_eq, flatD, RV.flat, vals_flatO, fzL_mv, vals_mv, fzL_append, fzL_vals]
  | dcT xs =>
    refine ⟨.dcT xs, wellO a' b', .lst (os.set k.toNat (.val (O.dcT xs).fz)), ?_, ho ▸ hm, _, _, rfl, hw'⟩
    unfold wellO
    simp [eq__law_one, m__law_one, e, fl, hk, hix, ho, RV.sub, O.step, O.put1, seqD, ifS, forS, testD, op2D, op1D, ixD, nameD, conD, Z.Env.at, Res.bind, Res.of, Res.s, RV.get, RV.fz, O.fz, ixR, RV.part, Z.scal, sv, RV.bool, setD, callD, consA, nilA, fzs, RV.take, setIxD, storeIx, rtD, RV.out, Z.Env.put, endD, outsL, headO, valO, Z.O.get, Z.O.put, fnD, startE, callZ, argsZ, callR, lend, unlend, arrange, passD, rtN, addD, addF, RV.sh, O.sh, vals, andD, orD, notD, ifD, newLD, newVD, shs, lstD, tupD, takes, fzL, ixN, atI, D.add, D.sub, D.mul, D.fdiv, D.mod, D.gt, D.ge, D.lt, D.le, intF, absF, lenF, mulOk_eq, divOk_eq, flatD, RV.flat, vals_flatO, fzL_mv, vals_mv, fzL_append, fzL_vals]
  | obj k' xs =>
    refine ⟨.obj k' xs, wellO a' b', .lst (os.set k.toNat (.val (O.obj k' xs).fz)), ?_, ho ▸ hm, _, _, rfl, hw'⟩
    unfold wellO
    simp [eq__law_one, m__law_one, e, fl, hk, hix, ho, RV.sub, O.step, O.put1, seqD, ifS, forS, testD, op2D, op1D, ixD, nameD, conD, Z.Env.at, Res.bind, Res.of, Res.s, RV.get, RV.fz, O.fz, ixR, RV.part, Z.scal, sv, RV.bool, setD, callD, consA, nilA, fzs, RV.take, setIxD, storeIx, rtD, RV.out, Z.Env.put, endD, outsL, headO, valO, Z.O.get, Z.O.put, fnD, startE, callZ, argsZ, callR, lend, unlend, arrange, passD, rtN, addD, addF, RV.sh, O.sh, vals, andD, orD, notD, ifD, newLD, newVD, shs, lstD, tupD, takes, fzL, ixN, atI, D.add, D.sub, D.mul, D.fdiv, D.mod, D.gt, D.ge, D.lt, D.le, intF, absF, lenF, mulOk_eq, divOk_eq, flatD, RV.flat, vals_flatO, fzL_mv, vals_mv, fzL_append, fzL_vals]
def WR : List D := [.str "e", .str "0", .int 5, .non, .str "aa", .str "", .lst [.str "a"], .bl false]
theorem not_let {K : List Nat} {d : D} (h : F_is_text [.val d] = .ok (.val (.bl false)) [.val d]) : Let K false d := by
  unfold Let
  simp [eq_is_letter_of, m_is_letter_of, andV, h, seqD, ifS, forS, testD, op2D, op1D, ixD, nameD, conD, Z.Env.at, Res.bind, Res.of, Res.s, RV.get, RV.fz, O.fz, ixR, RV.part, Z.scal, sv, RV.bool, setD, callD, consA, nilA, fzs, RV.take, setIxD, storeIx, rtD, RV.out, Z.Env.put, endD, outsL, headO, valO, Z.O.get, Z.O.put, fnD, startE, callZ, argsZ, callR, lend, unlend, arrange, passD, rtN, addD, addF, RV.sh, O.sh, vals, andD, orD, notD, ifD, newLD, newVD, shs, lstD, tupD, takes, fzL, ixN, atI, D.add, D.sub, D.mul, D.fdiv, D.mod, D.gt, D.ge, D.lt, D.le, intF, absF, lenF, mulOk_eq, divOk_eq, flatD, RV.flat, vals_flatO, fzL_mv, vals_mv, fzL_append, fzL_vals]
theorem not_let_str {K : List Nat} {s : Str} (h : s.length ≠ 1) : Let K false (.str s) := by
  have h1 := text_str s
  have h2 : ¬ (s.length : Int) = 1 := by omega
  unfold Let
  simp [eq_is_letter_of, m_is_letter_of, andV, h1, h2, eq_int, seqD, ifS, forS, testD, op2D, op1D, ixD, nameD, conD, Z.Env.at, Res.bind, Res.of, Res.s, RV.get, RV.fz, O.fz, ixR, RV.part, Z.scal, sv, RV.bool, setD, callD, consA, nilA, fzs, RV.take, setIxD, storeIx, rtD, RV.out, Z.Env.put, endD, outsL, headO, valO, Z.O.get, Z.O.put, fnD, startE, callZ, argsZ, callR, lend, unlend, arrange, passD, rtN, addD, addF, RV.sh, O.sh, vals, andD, orD, notD, ifD, newLD, newVD, shs, lstD, tupD, takes, fzL, ixN, atI, D.add, D.sub, D.mul, D.fdiv, D.mod, D.gt, D.ge, D.lt, D.le, intF, absF, lenF, mulOk_eq, divOk_eq, flatD, RV.flat, vals_flatO, fzL_mv, vals_mv, fzL_append, fzL_vals]
theorem not_let_sgn {K : List Nat} {c : Nat} (h : c ∉ K) : Let K false (.str (Z.sgn c)) := by
  have := letter_sgn c K
  simpa [Let, h] using this
theorem wr_not {K : List Nat} (hK : ∀ c ∈ K, c ∈ ABCD) {d : D} (h : d ∈ WR) : Let K false d := by
  simp only [WR, List.mem_cons, List.not_mem_nil, or_false] at h
  rcases h with rfl | rfl | rfl | rfl | rfl | rfl | rfl | rfl
  · exact not_let_sgn (c := 101) fun h => absurd (hK _ h) (by decide)
  · exact not_let_sgn (c := 48) fun h => absurd (hK _ h) (by decide)
  · exact not_let (text_int _)
  · exact not_let text_non
  · exact not_let_str (by decide +kernel)
  · exact not_let_str (by decide +kernel)
  · exact not_let (text_lst _)
  · exact not_let (text_bl _)
theorem wr_sho {d : D} (h : d ∈ WR) : ShoD 100 2 d := by
  simp only [WR, List.mem_cons, List.not_mem_nil, or_false] at h
  rcases h with rfl | rfl | rfl | rfl | rfl | rfl | rfl | rfl
  · exact (sho_str (strOk_ofString _)).mono (by decide +kernel) (by decide)
  · exact (sho_str (strOk_ofString _)).mono (by decide +kernel) (by decide)
  · exact (sho_int (m := 1) (by decide) (by decide) (by decide)).mono (by decide) (by decide)
  · exact sho_non.mono (by decide) (by decide)
  · exact (sho_str (strOk_ofString _)).mono (by decide +kernel) (by decide)
  · exact (sho_str (strOk_ofString _)).mono (by decide +kernel) (by decide)
  · exact (sho_lst (n := 12) (k := 0) fun d hd => by rw [List.mem_singleton.mp hd]; exact (sho_str (strOk_ofString _)).mono (by decide +kernel) (by decide)).mono (by decide +kernel) (by decide)
  · exact (sho_bl _).mono (by decide) (by decide)
/-- what the law asks of bad ones: the first thing that is no kind -/
def BadOk (row lots wrong : D) : Prop := (F_kinds_of [.val (.str (txt ABCD)), .val row] = .err ⟨1, [("letter", wrong)]⟩ [.val (.str (txt ABCD)), .val row]) ∨
  ∃ K, Tells ABCD K row ∧ F_sets_of [.val (.str (txt K)), .val lots] = .err ⟨1, [("letter", wrong)]⟩ [.val (.str (txt K)), .val lots]
def sl : D → Bool
  | .str _ => true
  | .lst _ => true
  | _ => false
theorem isi_sl {d : D} (h : d ∈ WR) : isiF Tb [d, .tup [.ty "str", .ty "list"]] = some (.bl (sl d)) := by
  simp only [WR, List.mem_cons, List.not_mem_nil, or_false] at h
  rcases h with rfl | rfl | rfl | rfl | rfl | rfl | rfl | rfl <;> rfl
theorem tells_txt {K : List Nat} (hK : K ∈ KS) : Tells ABCD K (.str (txt K)) := ⟨K, .inl rfl, (ks_in K hK).1, (ks_in K hK).2.2⟩
theorem bad_first (w : O) (hw : WellOk w) : ∃ (d : D) (w' o' : O), F__law_one [w, .lst [.val (.str "e"), .val (.str "0"), .val (.int 5), .val .non, .val (.str "aa"), .val (.str ""), .lst [.val (.str "a")], .val (.bl false)]] = .ok (.val d) [w', o'] ∧ d ∈ WR ∧ WellOk w' := by
  obtain ⟨o, w', o', e, h, hw'⟩ := one_ofO w hw [.val (.str "e"), .val (.str "0"), .val (.int 5), .val .non, .val (.str "aa"), .val (.str ""), .lst [.val (.str "a")], .val (.bl false)] (by simp) (by simp)
  refine ⟨o.fz, w', o', e, ?_, hw'⟩
  simp only [List.mem_cons, List.not_mem_nil, or_false] at h
  rcases h with rfl | rfl | rfl | rfl | rfl | rfl | rfl | rfl <;> simp [WR, O.fz, fzL]
/-- the head of _law_bad: a wrong thing and a place are drawn -/
theorem bad_head (w : O) (hw : WellOk w) (a t : D) (m : Z.Env → SRes) : ∃ (d : D) (k : Int) (w' : O), d ∈ WR ∧ 0 ≤ k ∧ k < 4 ∧ WellOk w' ∧
    (seqD (setD 3 (callZ 2 0 [0, 1] [] F__law_one (consA (nameD 0) (consA (lstD (consA (conD (.str "e")) (consA (conD (.str "0")) (consA (conD (.int 5)) (consA (conD .non) (consA (conD (.str "aa")) (consA (conD (.str "")) (consA (lstD (consA (conD (.str "a")) nilA)) (consA (conD (.bl false)) nilA))))))))) nilA)) nilA))
      (seqD (setD 4 (callZ 2 0 [0, 1] [] F__law_draw (consA (nameD 0) (consA (conD (.int 4)) nilA)) nilA)) m)) [some w, some (.val a), some (.val t), none, none, none, none] = m [some w', some (.val a), some (.val t), some (.val d), some (.val (.int k)), none, none] := by
  obtain ⟨d, w1, o', e1, hd, hw1⟩ := bad_first w hw
  obtain ⟨k, w2, e2, h1, h2, hw2⟩ := draw w1 hw1 4 (by decide) (by decide)
  refine ⟨d, k, w2, hd, h1, h2, hw2, ?_⟩
  obtain ⟨a0, b0, rfl, _⟩ := hw
  obtain ⟨a1, b1, rfl, _⟩ := hw1
  unfold wellO at *
  simp [e1, e2, seqD, ifS, forS, testD, op2D, op1D, ixD, nameD, conD, Z.Env.at, Res.bind, Res.of, Res.s, RV.get, RV.fz, O.fz, ixR, RV.part, Z.scal, sv, RV.bool, setD, callD, consA, nilA, fzs, RV.take, setIxD, storeIx, rtD, RV.out, Z.Env.put, endD, outsL, headO, valO, Z.O.get, Z.O.put, fnD, startE, callZ, argsZ, callR, lend, unlend, arrange, passD, rtN, addD, addF, RV.sh, O.sh, vals, andD, orD, notD, ifD, newLD, newVD, shs, lstD, tupD, takes, fzL, ixN, atI, D.add, D.sub, D.mul, D.fdiv, D.mod, D.gt, D.ge, D.lt, D.le, intF, absF, lenF, mulOk_eq, divOk_eq, flatD, RV.flat, vals_flatO, fzL_mv, vals_mv, fzL_append, fzL_vals]
theorem list_letters (K : List Nat) (e0 : Z.Env) (v : Nat) (h0 : e0.set v none = e0) (hv : v < e0.length) : compL (Tgt.nm v).st yesD (nameD v) [v] ((K.map Z.sgn).map D.str) [] e0 = .ok (((K.map Z.sgn).map D.str).map .val) e0 := by
  have := comp_pairs (v := v) (me := nameD v) h0 (ps := ((K.map Z.sgn).map D.str).map fun d => (d, d)) (acc := []) fun p hp => by
    obtain ⟨d, _, rfl⟩ := List.mem_map.mp hp
    have := at_set_self (e := e0) (o := .val d) hv
    simp only [nameD, this]
  rw [List.map_map, List.map_map] at this
  simpa [Function.comp_def] using this
theorem law_bad {K : List Nat} (hK : K ∈ KS) (w : O) (hw : WellOk w) (ps : List (List Nat × D)) (h : ∀ p ∈ ps, Tells K p.1 p.2) (hl : ps.length ≤ 100) : ∃ (w' : O) (row lots wrong : D), F__law_bad [w, .val (.str (txt K)), .val (.lst (ps.map (·.2)))] = .ok (.val (.tup [row, lots, wrong])) [w', .val (.str (txt K)), .val (.lst (ps.map (·.2)))] ∧ WellOk w' ∧ BadOk row lots wrong ∧ ShoD 100 2 wrong := by
  have hlow : Low K := fun c hc => abcd_low c ((ks_in K hK).1 c hc)
  have hKl := (ks_in K hK).2.1
  obtain ⟨d, k, w1, hd, hk1, hk2, hw1, e1⟩ := bad_head w hw (.str (txt K)) (.lst (ps.map (·.2))) _
  have st : startE 7 [w, .val (.str (txt K)), .val (.lst (ps.map (·.2)))] = [some w, some (.val (.str (txt K))), some (.val (.lst (ps.map (·.2)))), none, none, none, none] := rfl
  rw [eq__law_bad]
  unfold fnD m__law_bad
  rw [st, e1]
  have hs := isi_sl hd
  have hns : NSq (.int 9) := ⟨text_int _, seq_int _⟩
  have hcases : k = 0 ∨ k = 1 ∨ k = 2 ∨ k = 3 := by omega
  rcases hcases with rfl | rfl | rfl | rfl
  · cases hsl : sl d with
    | true =>
      rw [hsl] at hs
      exact ⟨w1, .int 9, .lst (ps.map (·.2)), .int 9, by simp [-List.map_map, eq_int, hs, notD, ifD, seqD, ifS, forS, testD, op2D, op1D, ixD, nameD, conD, Z.Env.at, Res.bind, Res.of, Res.s, RV.get, RV.fz, O.fz, ixR, RV.part, Z.scal, sv, RV.bool, setD, callD, consA, nilA, fzs, RV.take, setIxD, storeIx, rtD, RV.out, Z.Env.put, endD, outsL, headO, valO, Z.O.get, Z.O.put, fnD, startE, callZ, argsZ, callR, lend, unlend, arrange, passD, rtN, addD, addF, RV.sh, O.sh, vals, andD, orD, notD, ifD, newLD, newVD, shs, lstD, tupD, takes, fzL, ixN, atI, D.add, D.sub, D.mul, D.fdiv, D.mod, D.gt, D.ge, D.lt, D.le, intF, absF, lenF, mulOk_eq, divOk_eq, flatD, RV.flat, vals_flatO, fzL_mv, vals_mv, fzL_append, fzL_vals], hw1, .inl (kinds_none _ _ hns), (sho_int (m := 1) (by decide) (by decide) (by decide)).mono (by decide) (by decide)⟩
    | false =>
      rw [hsl] at hs
      refine ⟨w1, d, .lst (ps.map (·.2)), d, by simp [-List.map_map, eq_int, hs, notD, ifD, seqD, ifS, forS, testD, op2D, op1D, ixD, nameD, conD, Z.Env.at, Res.bind, Res.of, Res.s, RV.get, RV.fz, O.fz, ixR, RV.part, Z.scal, sv, RV.bool, setD, callD, consA, nilA, fzs, RV.take, setIxD, storeIx, rtD, RV.out, Z.Env.put, endD, outsL, headO, valO, Z.O.get, Z.O.put, fnD, startE, callZ, argsZ, callR, lend, unlend, arrange, passD, rtN, addD, addF, RV.sh, O.sh, vals, andD, orD, notD, ifD, newLD, newVD, shs, lstD, tupD, takes, fzL, ixN, atI, D.add, D.sub, D.mul, D.fdiv, D.mod, D.gt, D.ge, D.lt, D.le, intF, absF, lenF, mulOk_eq, divOk_eq, flatD, RV.flat, vals_flatO, fzL_mv, vals_mv, fzL_append, fzL_vals], hw1, .inl (kinds_none _ _ ?_), wr_sho hd⟩
      simp only [WR, List.mem_cons, List.not_mem_nil, or_false] at hd
      rcases hd with rfl | rfl | rfl | rfl | rfl | rfl | rfl | rfl <;> first | cases hsl | skip
      · exact ⟨text_int _, seq_int _⟩
      · exact ⟨text_non, seq_non⟩
      · exact ⟨text_bl _, seq_bl _⟩
  · have hc := list_letters K [some w1, some (.val (.str (txt K))), some (.val (.lst (ps.map (·.2)))), some (.val d), some (.val (.int 1)), none, none] 6 rfl (by simp)
    have hit := txt_items K
    have hfz := fzL_vals ((K.map Z.sgn).map D.str)
    have hll : K.length + 2 ≤ 1000000 := by omega
    refine ⟨w1, .lst ((K.map Z.sgn).map .str ++ [d, .int 77]), .lst (ps.map (·.2)), d, ?_, hw1, .inl ?_, wr_sho hd⟩
    · simp [-List.map_map, eq_int, lcD, srcD, hit, clear, le__law_bad_1, hc, hfz, hll, finL, restore, fzL, seqD, ifS, forS, testD, op2D, op1D, ixD, nameD, conD, Z.Env.at, Res.bind, Res.of, Res.s, RV.get, RV.fz, O.fz, ixR, RV.part, Z.scal, sv, RV.bool, setD, callD, consA, nilA, fzs, RV.take, setIxD, storeIx, rtD, RV.out, Z.Env.put, endD, outsL, headO, valO, Z.O.get, Z.O.put, fnD, startE, callZ, argsZ, callR, lend, unlend, arrange, passD, rtN, addD, addF, RV.sh, O.sh, vals, andD, orD, notD, ifD, newLD, newVD, shs, lstD, tupD, takes, fzL, ixN, atI, D.add, D.sub, D.mul, D.fdiv, D.mod, D.gt, D.ge, D.lt, D.le, intF, absF, lenF, mulOk_eq, divOk_eq, flatD, RV.flat, vals_flatO, fzL_mv, vals_mv, fzL_append, fzL_vals]
    · refine kinds_bad ABCD _ d ((K.map Z.sgn).map .str) [.int 77] (.inr ⟨text_lst _, seq_lst _⟩) rfl (fun x hx => ?_) (wr_not (fun _ h => h) hd)
      simp only [List.mem_map] at hx
      obtain ⟨_, ⟨c, hc, rfl⟩, rfl⟩ := hx
      have := letter_sgn c ABCD
      simpa [Let, (ks_in K hK).1 c hc] using this
  · have hll : ps.length + 1 ≤ 1000000 := by omega
    refine ⟨w1, .str (txt K), .lst (ps.map (·.2) ++ [.lst [d]]), d, ?_, hw1, .inr ⟨K, tells_txt hK, ?_⟩, wr_sho hd⟩
    · simp [-List.map_map, eq_int, listF, newLD, hll, fzL, seqD, ifS, forS, testD, op2D, op1D, ixD, nameD, conD, Z.Env.at, Res.bind, Res.of, Res.s, RV.get, RV.fz, O.fz, ixR, RV.part, Z.scal, sv, RV.bool, setD, callD, consA, nilA, fzs, RV.take, setIxD, storeIx, rtD, RV.out, Z.Env.put, endD, outsL, headO, valO, Z.O.get, Z.O.put, fnD, startE, callZ, argsZ, callR, lend, unlend, arrange, passD, rtN, addD, addF, RV.sh, O.sh, vals, andD, orD, notD, ifD, newLD, newVD, shs, lstD, tupD, takes, fzL, ixN, atI, D.add, D.sub, D.mul, D.fdiv, D.mod, D.gt, D.ge, D.lt, D.le, intF, absF, lenF, mulOk_eq, divOk_eq, flatD, RV.flat, vals_flatO, fzL_mv, vals_mv, fzL_append, fzL_vals]
    · exact sets_bad K hlow (by omega) ps (.lst [d]) [] _ h (kinds_bad K _ d [] [] (.inr ⟨text_lst _, seq_lst _⟩) rfl (fun _ h => nomatch h) (wr_not (fun c hc => (ks_in K hK).1 c hc) hd)) _ (.inl rfl)
  · have hc := comp_notIn (v := 6) (w := 1) (e0 := [some w1, some (.val (.str (txt K))), some (.val (.lst (ps.map (·.2)))), some (.val d), some (.val (.int 3)), none, none]) (ls := ABCD) (one := K) (acc := []) rfl rfl (by decide) (by simp)
    have hit := txt_items ABCD
    have he := eq_signs_nil (ls := ABCD.filter fun c => !decide (c ∈ K)) fun c hc => abcd_low c (List.mem_filter.mp hc).1
    have hfz := fzL_vals (((ABCD.filter fun c => !decide (c ∈ K)).map Z.sgn).map D.str)
    by_cases hA : K = ABCD
    · have h0 : (ABCD.filter fun c => !decide (c ∈ K)) = [] := by rw [hA]; decide
      rw [h0] at hc he hfz
      refine ⟨w1, .str (txt K), .int 8, .int 8, ?_, hw1, .inr ⟨K, tells_txt hK, sets_none K _ ⟨text_int _, seq_int _⟩⟩, (sho_int (m := 1) (by decide) (by decide) (by decide)).mono (by decide) (by decide)⟩
      simp only [List.map_nil, List.isEmpty_nil, List.append_nil] at hc he
      simp [-List.map_map, eq_int, abcd_txt, lcD, srcD, hit, clear, lt__law_bad_2, le__law_bad_3, hc, he, hfz, finL, restore, fzL, seqD, ifS, forS, testD, op2D, op1D, ixD, nameD, conD, Z.Env.at, Res.bind, Res.of, Res.s, RV.get, RV.fz, O.fz, ixR, RV.part, Z.scal, sv, RV.bool, setD, callD, consA, nilA, fzs, RV.take, setIxD, storeIx, rtD, RV.out, Z.Env.put, endD, outsL, headO, valO, Z.O.get, Z.O.put, fnD, startE, callZ, argsZ, callR, lend, unlend, arrange, passD, rtN, addD, addF, RV.sh, O.sh, vals, andD, orD, notD, ifD, newLD, newVD, shs, lstD, tupD, takes, fzL, ixN, atI, D.add, D.sub, D.mul, D.fdiv, D.mod, D.gt, D.ge, D.lt, D.le, intF, absF, lenF, mulOk_eq, divOk_eq, flatD, RV.flat, vals_flatO, fzL_mv, vals_mv, fzL_append, fzL_vals]
    · obtain ⟨c, r, hcr⟩ : ∃ c r, (ABCD.filter fun c => !decide (c ∈ K)) = c :: r := by
        rcases kinds_cases hK with rfl | rfl | rfl | rfl | rfl | rfl
        · exact absurd rfl hA
        all_goals exact ⟨_, _, rfl⟩
      have hcm : c ∈ ABCD ∧ c ∉ K := by
        have : c ∈ ABCD.filter fun c => !decide (c ∈ K) := hcr ▸ List.mem_cons_self
        have := List.mem_filter.mp this
        exact ⟨this.1, by simpa using this.2⟩
      rw [hcr] at hc he hfz
      have hj := joinAF_txt (ls := K) (by omega)
      have hcl : Low (c :: K) := fun x hx => by
        rcases List.mem_cons.mp hx with rfl | hx
        · exact abcd_low _ hcm.1
        · exact hlow x hx
      have hz : (Z.sgn c).length + (txt K).length ≤ sizeLine := Nat.le_trans (show 1 + K.length ≤ 16777216 by omega) sizeLine_le
      have ha : Z.sgn c ++ txt K = txt (c :: K) := by rw [str_app]; simp [Z.sgn, txt]
      have ho := sOk_txt hcl (by simp; omega)
      have hok := sOk_txt hlow (by omega)
      have hll : 1 + ps.length ≤ 1000000 := by omega
      have hos := sOk_txt (ls := [c]) (fun x hx => hcl x (by simp at hx; simp [hx])) (by simp)
      rw [← sgn_txt] at hos
      refine ⟨w1, .str (txt K), .lst (.str (txt (c :: K)) :: ps.map (·.2)), .str (Z.sgn c), ?_, hw1, .inr ⟨K, tells_txt hK, ?_⟩, (sho_str (sOk_strOk hos)).mono (by show 10 * 1 + 2 ≤ 100; decide) (by decide)⟩
      · simp only [List.map_cons, List.isEmpty_cons, List.nil_append] at hc he hfz
        simp [-List.map_map, eq_int, abcd_txt, lcD, srcD, hit, clear, lt__law_bad_2, le__law_bad_3, hc, he, hfz, finL, restore, fzL, m1D, hj, hz, ha, ho, hok, hos, listF, newLD, hll, seqD, ifS, forS, testD, op2D, op1D, ixD, nameD, conD, Z.Env.at, Res.bind, Res.of, Res.s, RV.get, RV.fz, O.fz, ixR, RV.part, Z.scal, sv, RV.bool, setD, callD, consA, nilA, fzs, RV.take, setIxD, storeIx, rtD, RV.out, Z.Env.put, endD, outsL, headO, valO, Z.O.get, Z.O.put, fnD, startE, callZ, argsZ, callR, lend, unlend, arrange, passD, rtN, addD, addF, RV.sh, O.sh, vals, andD, orD, notD, ifD, newLD, newVD, shs, lstD, tupD, takes, fzL, ixN, atI, D.add, D.sub, D.mul, D.fdiv, D.mod, D.gt, D.ge, D.lt, D.le, intF, absF, lenF, mulOk_eq, divOk_eq, flatD, RV.flat, vals_flatO, fzL_mv, vals_mv, fzL_append, fzL_vals]
      · exact sets_bad K hlow (by omega) [] (.str (txt (c :: K))) (ps.map (·.2)) _ (fun _ h => nomatch h) (kinds_bad K _ (.str (Z.sgn c)) [] ((K.map Z.sgn).map .str) (.inl (text_str _)) (txt_items _) (fun _ h => nomatch h) (not_let_sgn hcm.2)) _ (.inl rfl)
end K65

set_option maxRecDepth 100000
set_option maxHeartbeats 2000000
namespace K65
open PySem L2 PySem.Spec PyProof.Rows Z
theorem meet_bad {row lots wrong : D} (h : BadOk row lots wrong) : F_meeting_sets [.val row, .val lots] = .err ⟨1, [("letter", wrong)]⟩ [.val row, .val lots] := by
  rcases h with h | ⟨K, h1, h2⟩
  · exact meet_kinds_bad _ _ _ h
  · exact meet_sets_bad K _ _ h1 _ h2
theorem lack_bad {row lots wrong : D} (h : BadOk row lots wrong) : F_complement_sets [.val row, .val lots] = .err ⟨1, [("letter", wrong)]⟩ [.val row, .val lots] := by
  rcases h with h | ⟨K, h1, h2⟩
  · exact lack_kinds_bad _ _ _ h
  · exact lack_sets_bad K _ _ h1 _ h2
theorem isi_exn (wrong : D) : isiF Tb [.exn 1 [("letter", wrong)], .cl 0] = some (.bl false) := by rfl
theorem look8 : tab__law_answer.lookup 8 = some ([0, 1], [], F_meeting_sets) := by rfl
theorem look7 : tab__law_answer.lookup 7 = some ([0, 1], [], F_complement_sets) := by rfl
theorem ct1 : ct__law_answer_0 1 = some true := by rfl
theorem answer_meet {row lots wrong : D} (h : BadOk row lots wrong) : F__law_answer [.val (.fn 8), .val row, .val lots] = .ok (.val (.tup [.str "none", wrong, .bl false])) [.val (.fn 8), .val row, .val lots] := by
  have h1 := meet_bad h
  simp [eq__law_answer, m__law_answer, tryD, callV, look8, h1, catchD, ct1, endI, setI, exFD, isi_exn, lookD, fzL, O.fz, seqD, ifS, forS, testD, op2D, op1D, ixD, nameD, conD, Z.Env.at, Res.bind, Res.of, Res.s, RV.get, RV.fz, O.fz, ixR, RV.part, Z.scal, sv, RV.bool, setD, callD, consA, nilA, fzs, RV.take, setIxD, storeIx, rtD, RV.out, Z.Env.put, endD, outsL, headO, valO, Z.O.get, Z.O.put, fnD, startE, callZ, argsZ, callR, lend, unlend, arrange, passD, rtN, addD, addF, RV.sh, O.sh, vals, andD, orD, notD, ifD, newLD, newVD, shs, lstD, tupD, takes, fzL, ixN, atI, D.add, D.sub, D.mul, D.fdiv, D.mod, D.gt, D.ge, D.lt, D.le, intF, absF, lenF, mulOk_eq, divOk_eq, flatD, RV.flat, vals_flatO, fzL_mv, vals_mv, fzL_append, fzL_vals]
theorem answer_lack {row lots wrong : D} (h : BadOk row lots wrong) : F__law_answer [.val (.fn 7), .val row, .val lots] = .ok (.val (.tup [.str "none", wrong, .bl false])) [.val (.fn 7), .val row, .val lots] := by
  have h1 := lack_bad h
  simp [eq__law_answer, m__law_answer, tryD, callV, look7, h1, catchD, ct1, endI, setI, exFD, isi_exn, lookD, fzL, O.fz, seqD, ifS, forS, testD, op2D, op1D, ixD, nameD, conD, Z.Env.at, Res.bind, Res.of, Res.s, RV.get, RV.fz, O.fz, ixR, RV.part, Z.scal, sv, RV.bool, setD, callD, consA, nilA, fzs, RV.take, setIxD, storeIx, rtD, RV.out, Z.Env.put, endD, outsL, headO, valO, Z.O.get, Z.O.put, fnD, startE, callZ, argsZ, callR, lend, unlend, arrange, passD, rtN, addD, addF, RV.sh, O.sh, vals, andD, orD, notD, ifD, newLD, newVD, shs, lstD, tupD, takes, fzL, ixN, atI, D.add, D.sub, D.mul, D.fdiv, D.mod, D.gt, D.ge, D.lt, D.le, intF, absF, lenF, mulOk_eq, divOk_eq, flatD, RV.flat, vals_flatO, fzL_mv, vals_mv, fzL_append, fzL_vals]
end K65

set_option maxRecDepth 100000
set_option maxHeartbeats 2000000
namespace K65
open PySem L2 PySem.Spec PyProof.Rows Z
theorem law1 (ns : List Int) : ∃ w, WellOk w ∧ s_law_1 [some (.val (.lst (ns.map .int))), none, none, none, none, none, none, none, none, none, none, none, none, none, none, none, none, none, none] = .nx [some (.val (.lst (ns.map .int))), some w, none, none, none, none, none, none, none, none, none, none, none, none, none, none, none, none, none] := by
  obtain ⟨w, e, hw⟩ := well_seed ns
  refine ⟨w, hw, ?_⟩
  obtain ⟨a, b, rfl, _⟩ := hw
  unfold wellO at *
  simp [s_law_1, e, seqD, ifS, forS, testD, op2D, op1D, ixD, nameD, conD, Z.Env.at, Res.bind, Res.of, Res.s, RV.get, RV.fz, O.fz, ixR, RV.part, Z.scal, sv, RV.bool, setD, callD, consA, nilA, fzs, RV.take, setIxD, storeIx, rtD, RV.out, Z.Env.put, endD, outsL, headO, valO, Z.O.get, Z.O.put, fnD, startE, callZ, argsZ, callR, lend, unlend, arrange, passD, rtN, addD, addF, RV.sh, O.sh, vals, andD, orD, notD, ifD, newLD, newVD, shs, lstD, tupD, takes, fzL, ixN, atI, D.add, D.sub, D.mul, D.fdiv, D.mod, D.gt, D.ge, D.lt, D.le, intF, absF, lenF, mulOk_eq, divOk_eq, flatD, RV.flat, vals_flatO, fzL_mv, vals_mv, fzL_append, fzL_vals]
theorem law2 (ns : List Int) (w : O) (hw : WellOk w) : ∃ w' K, WellOk w' ∧ K ∈ KS ∧ s_law_2 [some (.val (.lst (ns.map .int))), some w, none, none, none, none, none, none, none, none, none, none, none, none, none, none, none, none, none] = .nx [some (.val (.lst (ns.map .int))), some w', some (.val (.str (txt K))), none, none, none, none, none, none, none, none, none, none, none, none, none, none, none, none] := by
  obtain ⟨d, w', e, hd, hw'⟩ := one_of w hw (.lst [.val (.str "abcd"), .val (.str "abcd"), .val (.str "abc"), .val (.str "abd"), .val (.str "bd"), .val (.str "c"), .val (.str "")]) [.str "abcd", .str "abcd", .str "abc", .str "abd", .str "bd", .str "c", .str ""] (.inr rfl) (by simp) (by simp)
  have hK : ∃ K ∈ KS, d = .str (txt K) := by
    simp only [List.mem_cons, List.not_mem_nil, or_false] at hd
    rcases hd with rfl | rfl | rfl | rfl | rfl | rfl | rfl
    · exact ⟨[97, 98, 99, 100], by decide, by rw [D.str.injEq]; decide +kernel⟩
    · exact ⟨[97, 98, 99, 100], by decide, by rw [D.str.injEq]; decide +kernel⟩
    · exact ⟨[97, 98, 99], by decide, by rw [D.str.injEq]; decide +kernel⟩
    · exact ⟨[97, 98, 100], by decide, by rw [D.str.injEq]; decide +kernel⟩
    · exact ⟨[98, 100], by decide, by rw [D.str.injEq]; decide +kernel⟩
    · exact ⟨[99], by decide, by rw [D.str.injEq]; decide +kernel⟩
    · exact ⟨[], by decide, by rw [D.str.injEq]; decide +kernel⟩
  obtain ⟨K, hK, rfl⟩ := hK
  refine ⟨w', K, hw', hK, ?_⟩
  obtain ⟨a, b, rfl, _⟩ := hw
  unfold wellO at *
  simp [s_law_2, e, seqD, ifS, forS, testD, op2D, op1D, ixD, nameD, conD, Z.Env.at, Res.bind, Res.of, Res.s, RV.get, RV.fz, O.fz, ixR, RV.part, Z.scal, sv, RV.bool, setD, callD, consA, nilA, fzs, RV.take, setIxD, storeIx, rtD, RV.out, Z.Env.put, endD, outsL, headO, valO, Z.O.get, Z.O.put, fnD, startE, callZ, argsZ, callR, lend, unlend, arrange, passD, rtN, addD, addF, RV.sh, O.sh, vals, andD, orD, notD, ifD, newLD, newVD, shs, lstD, tupD, takes, fzL, ixN, atI, D.add, D.sub, D.mul, D.fdiv, D.mod, D.gt, D.ge, D.lt, D.le, intF, absF, lenF, mulOk_eq, divOk_eq, flatD, RV.flat, vals_flatO, fzL_mv, vals_mv, fzL_append, fzL_vals]
theorem law3 (ns : List Int) (w : O) (K : List Nat) (hK : K ∈ KS) : s_law_3 [some (.val (.lst (ns.map .int))), some w, some (.val (.str (txt K))), none, none, none, none, none, none, none, none, none, none, none, none, none, none, none, none] = .nx [some (.val (.lst (ns.map .int))), some w, some (.val (.str (txt K))), some (.lst ((EV K).map fun s => .val (.str (txt s)))), none, none, none, none, none, none, none, none, none, none, none, none, none, none, none] := by
  have := law_sets hK
  simp [s_law_3, this, seqD, ifS, forS, testD, op2D, op1D, ixD, nameD, conD, Z.Env.at, Res.bind, Res.of, Res.s, RV.get, RV.fz, O.fz, ixR, RV.part, Z.scal, sv, RV.bool, setD, callD, consA, nilA, fzs, RV.take, setIxD, storeIx, rtD, RV.out, Z.Env.put, endD, outsL, headO, valO, Z.O.get, Z.O.put, fnD, startE, callZ, argsZ, callR, lend, unlend, arrange, passD, rtN, addD, addF, RV.sh, O.sh, vals, andD, orD, notD, ifD, newLD, newVD, shs, lstD, tupD, takes, fzL, ixN, atI, D.add, D.sub, D.mul, D.fdiv, D.mod, D.gt, D.ge, D.lt, D.le, intF, absF, lenF, mulOk_eq, divOk_eq, flatD, RV.flat, vals_flatO, fzL_mv, vals_mv, fzL_append, fzL_vals]
theorem law4 (ns : List Int) (w : O) (hw : WellOk w) (K : List Nat) (hK : K ∈ KS) : ∃ (w' : O) (T : List (List Nat)), WellOk w' ∧ (∀ t ∈ T, t ∈ EV K) ∧ T.length ≤ 5 ∧ s_law_4 [some (.val (.lst (ns.map .int))), some w, some (.val (.str (txt K))), some (.lst ((EV K).map fun s => .val (.str (txt s)))), none, none, none, none, none, none, none, none, none, none, none, none, none, none, none] = .nx [some (.val (.lst (ns.map .int))), some w', some (.val (.str (txt K))), some (.lst ((EV K).map fun s => .val (.str (txt s)))), some (.lst (T.map fun s => .val (.str (txt s)))), none, none, none, none, none, none, none, none, none, none, none, none, none, none] := by
  obtain ⟨k, w1, e1, hk1, hk2, hw1⟩ := draw w hw 6 (by decide) (by decide)
  have hne : (EV K).map (fun s => D.str (txt s)) ≠ [] ∧ ((EV K).map (fun s => D.str (txt s))).length < 1000000 := by
    rcases kinds_cases hK with rfl | rfl | rfl | rfl | rfl | rfl <;> decide
  obtain ⟨e2, ps, h1, h2, h3, h4⟩ := comp_each (v := 11) (me := le_law_1) (fun e => ∃ w, WellOk w ∧ e = [some (.val (.lst (ns.map .int))), some w, some (.val (.str (txt K))), some (.lst ((EV K).map fun s => .val (.str (txt s)))), none, none, none, none, none, none, none, none, none, none, none, none, none, none, none]) (fun _ o => ∃ t ∈ EV K, o = .val (.str (txt t))) (ds := rangeL 0 k) (acc := []) (e0 := [some (.val (.lst (ns.map .int))), some w1, some (.val (.str (txt K))), some (.lst ((EV K).map fun s => .val (.str (txt s)))), none, none, none, none, none, none, none, none, none, none, none, none, none, none, none]) ⟨w1, hw1, rfl⟩ fun d _ e ⟨w2, hw2, he⟩ => by
    subst he
    obtain ⟨d', w3, e3, hd, hw3⟩ := one_of w2 hw2 (.lst ((EV K).map fun s => .val (.str (txt s)))) ((EV K).map fun s => .str (txt s)) (.inr (by rw [List.map_map]; rfl)) hne.1 hne.2
    obtain ⟨t, ht, rfl⟩ := List.mem_map.mp hd
    refine ⟨rv (.str (txt t)), [some (.val (.lst (ns.map .int))), some w3, some (.val (.str (txt K))), some (.lst ((EV K).map fun s => .val (.str (txt s)))), none, none, none, none, none, none, none, some (.val d), none, none, none, none, none, none, none], .val (.str (txt t)), _, ?_, rfl, ⟨t, ht, rfl⟩, w3, hw3, rfl⟩
    obtain ⟨a, b, rfl, _⟩ := hw2
    unfold wellO at *
    simp [-List.map_map, le_law_1, e3, seqD, ifS, forS, testD, op2D, op1D, ixD, nameD, conD, Z.Env.at, Res.bind, Res.of, Res.s, RV.get, RV.fz, O.fz, ixR, RV.part, Z.scal, sv, RV.bool, setD, callD, consA, nilA, fzs, RV.take, setIxD, storeIx, rtD, RV.out, Z.Env.put, endD, outsL, headO, valO, Z.O.get, Z.O.put, fnD, startE, callZ, argsZ, callR, lend, unlend, arrange, passD, rtN, addD, addF, RV.sh, O.sh, vals, andD, orD, notD, ifD, newLD, newVD, shs, lstD, tupD, takes, fzL, ixN, atI, D.add, D.sub, D.mul, D.fdiv, D.mod, D.gt, D.ge, D.lt, D.le, intF, absF, lenF, mulOk_eq, divOk_eq, flatD, RV.flat, vals_flatO, fzL_mv, vals_mv, fzL_append, fzL_vals]
  obtain ⟨w2, hw2, rfl⟩ := h2
  obtain ⟨T, hT, hTl, hTe⟩ := choose_map (l := ps.map (·.2)) (f := fun t => O.val (.str (txt t))) (P := fun t => t ∈ EV K) fun b hb => by
    obtain ⟨p, hp, rfl⟩ := List.mem_map.mp hb
    exact h4 p hp
  have hr : rangeOk 0 k = true := by rw [rangeOk_eq]; simp; omega
  rw [hT] at h1
  refine ⟨w2, T, hw2, hTe, ?_, ?_⟩
  · have := rangeL_len 0 k
    have e4 : ps.length = (rangeL 0 k).length := by rw [← h3, List.length_map]
    simp only [List.length_map] at hTl
    omega
  · obtain ⟨a, b, rfl, _⟩ := hw
    unfold wellO at *
    simp [-List.map_map, s_law_4, e1, lcD, rangeD, range1, hr, clear, h1, finL, restore, seqD, ifS, forS, testD, op2D, op1D, ixD, nameD, conD, Z.Env.at, Res.bind, Res.of, Res.s, RV.get, RV.fz, O.fz, ixR, RV.part, Z.scal, sv, RV.bool, setD, callD, consA, nilA, fzs, RV.take, setIxD, storeIx, rtD, RV.out, Z.Env.put, endD, outsL, headO, valO, Z.O.get, Z.O.put, fnD, startE, callZ, argsZ, callR, lend, unlend, arrange, passD, rtN, addD, addF, RV.sh, O.sh, vals, andD, orD, notD, ifD, newLD, newVD, shs, lstD, tupD, takes, fzL, ixN, atI, D.add, D.sub, D.mul, D.fdiv, D.mod, D.gt, D.ge, D.lt, D.le, intF, absF, lenF, mulOk_eq, divOk_eq, flatD, RV.flat, vals_flatO, fzL_mv, vals_mv, fzL_append, fzL_vals]
theorem law5 (ns : List Int) (w : O) (hw : WellOk w) (K : List Nat) (hK : K ∈ KS) (T : List (List Nat)) (hT : ∀ t ∈ T, t ∈ EV K) (hl : T.length ≤ 5) : ∃ (w' : O) (T' : List (List Nat)), WellOk w' ∧ (∀ t ∈ T', t ∈ EV K) ∧ T'.length ≤ 5 ∧ s_law_5 [some (.val (.lst (ns.map .int))), some w, some (.val (.str (txt K))), some (.lst ((EV K).map fun s => .val (.str (txt s)))), some (.lst (T.map fun s => .val (.str (txt s)))), none, none, none, none, none, none, none, none, none, none, none, none, none, none] = .nx [some (.val (.lst (ns.map .int))), some w', some (.val (.str (txt K))), some (.lst ((EV K).map fun s => .val (.str (txt s)))), some (.lst (T'.map fun s => .val (.str (txt s)))), none, none, none, none, none, none, none, none, none, none, none, none, none, none] := by
  obtain ⟨k, w1, e1, hk1, hk2, hw1⟩ := draw w hw 3 (by decide) (by decide)
  by_cases hk : 0 < k
  · have hc := comp_map (v := 16) (mt := lt_law_2) (me := le_law_3) (t := fun d => match D.ne d (.str "") with | some (.bl b) => b | _ => false) (f := fun d => d) (e0 := [some (.val (.lst (ns.map .int))), some w1, some (.val (.str (txt K))), some (.lst ((EV K).map fun s => .val (.str (txt s)))), some (.val (.lst (T.map fun s => .str (txt s)))), none, none, none, none, none, none, none, none, none, none, none, none, none, none]) rfl (ds := T.map fun s => .str (txt s)) (acc := []) fun d hd => by
      obtain ⟨t, ht, rfl⟩ := List.mem_map.mp hd
      have h1 : D.ne (.str (txt t)) (.str "") = some (.bl (!(txt t == ("" : Str)))) := by
        unfold D.ne
        rw [eqb_str (strOk_txt (ev_low K hK t (hT t ht)).2) (strOk_ofString _)]
        rfl
      exact ⟨by simp [lt_law_2, h1, seqD, ifS, forS, testD, op2D, op1D, ixD, nameD, conD, Z.Env.at, Res.bind, Res.of, Res.s, RV.get, RV.fz, O.fz, ixR, RV.part, Z.scal, sv, RV.bool, setD, callD, consA, nilA, fzs, RV.take, setIxD, storeIx, rtD, RV.out, Z.Env.put, endD, outsL, headO, valO, Z.O.get, Z.O.put, fnD, startE, callZ, argsZ, callR, lend, unlend, arrange, passD, rtN, addD, addF, RV.sh, O.sh, vals, andD, orD, notD, ifD, newLD, newVD, shs, lstD, tupD, takes, fzL, ixN, atI, D.add, D.sub, D.mul, D.fdiv, D.mod, D.gt, D.ge, D.lt, D.le, intF, absF, lenF, mulOk_eq, divOk_eq, flatD, RV.flat, vals_flatO, fzL_mv, vals_mv, fzL_append, fzL_vals], fun _ => by simp [le_law_3, seqD, ifS, forS, testD, op2D, op1D, ixD, nameD, conD, Z.Env.at, Res.bind, Res.of, Res.s, RV.get, RV.fz, O.fz, ixR, RV.part, Z.scal, sv, RV.bool, setD, callD, consA, nilA, fzs, RV.take, setIxD, storeIx, rtD, RV.out, Z.Env.put, endD, outsL, headO, valO, Z.O.get, Z.O.put, fnD, startE, callZ, argsZ, callR, lend, unlend, arrange, passD, rtN, addD, addF, RV.sh, O.sh, vals, andD, orD, notD, ifD, newLD, newVD, shs, lstD, tupD, takes, fzL, ixN, atI, D.add, D.sub, D.mul, D.fdiv, D.mod, D.gt, D.ge, D.lt, D.le, intF, absF, lenF, mulOk_eq, divOk_eq, flatD, RV.flat, vals_flatO, fzL_mv, vals_mv, fzL_append, fzL_vals]⟩
    have hf : (T.map fun s => D.str (txt s)).filter (fun d => match D.ne d (.str "") with | some (.bl b) => b | _ => false) = (T.filter fun t => match D.ne (.str (txt t)) (.str "") with | some (.bl b) => b | _ => false).map fun s => .str (txt s) := by
      exact List.filter_map
    rw [hf] at hc
    generalize hT' : (T.filter fun t => match D.ne (.str (txt t)) (.str "") with | some (.bl b) => b | _ => false) = T' at hc
    refine ⟨w1, T', hw1, fun t ht => hT t (by rw [← hT'] at ht; exact (List.mem_filter.mp ht).1), by rw [← hT']; exact Nat.le_trans (List.length_filter_le _ _) hl, ?_⟩
    rw [List.map_map] at hc
    obtain ⟨a, b, rfl, _⟩ := hw
    unfold wellO at *
    simp [-List.map_map, s_law_5, e1, hk, lcD, srcD, D.items, clear, hc, finL, restore, Function.comp_def, seqD, ifS, forS, testD, op2D, op1D, ixD, nameD, conD, Z.Env.at, Res.bind, Res.of, Res.s, RV.get, RV.fz, O.fz, ixR, RV.part, Z.scal, sv, RV.bool, setD, callD, consA, nilA, fzs, RV.take, setIxD, storeIx, rtD, RV.out, Z.Env.put, endD, outsL, headO, valO, Z.O.get, Z.O.put, fnD, startE, callZ, argsZ, callR, lend, unlend, arrange, passD, rtN, addD, addF, RV.sh, O.sh, vals, andD, orD, notD, ifD, newLD, newVD, shs, lstD, tupD, takes, fzL, ixN, atI, D.add, D.sub, D.mul, D.fdiv, D.mod, D.gt, D.ge, D.lt, D.le, intF, absF, lenF, mulOk_eq, divOk_eq, flatD, RV.flat, vals_flatO, fzL_mv, vals_mv, fzL_append, fzL_vals]
  · refine ⟨w1, T, hw1, hT, hl, ?_⟩
    obtain ⟨a, b, rfl, _⟩ := hw
    unfold wellO at *
    simp [-List.map_map, s_law_5, e1, hk, seqD, ifS, forS, testD, op2D, op1D, ixD, nameD, conD, Z.Env.at, Res.bind, Res.of, Res.s, RV.get, RV.fz, O.fz, ixR, RV.part, Z.scal, sv, RV.bool, setD, callD, consA, nilA, fzs, RV.take, setIxD, storeIx, rtD, RV.out, Z.Env.put, endD, outsL, headO, valO, Z.O.get, Z.O.put, fnD, startE, callZ, argsZ, callR, lend, unlend, arrange, passD, rtN, addD, addF, RV.sh, O.sh, vals, andD, orD, notD, ifD, newLD, newVD, shs, lstD, tupD, takes, fzL, ixN, atI, D.add, D.sub, D.mul, D.fdiv, D.mod, D.gt, D.ge, D.lt, D.le, intF, absF, lenF, mulOk_eq, divOk_eq, flatD, RV.flat, vals_flatO, fzL_mv, vals_mv, fzL_append, fzL_vals]
/-- told ones -/
theorem pres_tells {K one : List Nat} {d : D} (hK : K ∈ KS) (h1 : one ∈ EV K) (h : Pres one d) : Tells K one d := by
  obtain ⟨ls, h2, _, h3⟩ := h
  obtain ⟨h4, h5⟩ := ev_in K hK one h1
  refine ⟨ls, h3, fun c hc => h4 c ((h2 c).mp hc), ?_⟩
  rw [← h5]
  refine List.filter_congr fun c _ => ?_
  simp only [h2 c]
theorem pres_sho {K one : List Nat} {d : D} (hK : K ∈ KS) (h1 : one ∈ EV K) (h : Pres one d) : ShoD 500 1 d := by
  obtain ⟨ls, h2, hl, h3⟩ := h
  obtain ⟨_, h5⟩ := ev_low K hK one h1
  have hlow : Low ls := fun c hc => h5 c ((h2 c).mp hc)
  have hs : ∀ d ∈ (ls.map Z.sgn).map D.str, ShoD 12 0 d := fun d hd => by
    obtain ⟨z, hz, rfl⟩ := List.mem_map.mp hd
    have := low_ok hlow z hz
    obtain ⟨c, _, rfl⟩ := List.mem_map.mp hz
    exact sho_str this
  have hm : ((ls.map Z.sgn).map D.str).length = ls.length := by simp
  rcases h3 with rfl | rfl | rfl
  · refine (sho_str (strOk_txt hlow)).mono ?_ (by decide)
    have : (txt ls).length = ls.length := rfl
    omega
  · exact (sho_lst hs).mono (by omega) (by decide)
  · exact (sho_tup hs).mono (by omega) (by decide)
theorem law6 (ns : List Int) (w : O) (hw : WellOk w) (K : List Nat) (hK : K ∈ KS) (T : List (List Nat)) (hT : ∀ t ∈ T, t ∈ EV K) : ∃ (w' : O) (ps : List (List Nat × D)), WellOk w' ∧ ps.map (·.1) = T ∧ (∀ p ∈ ps, Pres p.1 p.2) ∧ s_law_6 [some (.val (.lst (ns.map .int))), some w, some (.val (.str (txt K))), some (.lst ((EV K).map fun s => .val (.str (txt s)))), some (.lst (T.map fun s => .val (.str (txt s)))), none, none, none, none, none, none, none, none, none, none, none, none, none, none] = .nx [some (.val (.lst (ns.map .int))), some w', some (.val (.str (txt K))), some (.lst ((EV K).map fun s => .val (.str (txt s)))), some (.val (.lst (T.map fun s => .str (txt s)))), some (.lst ((ps.map (·.2)).map .val)), none, none, none, none, none, none, none, none, none, none, none, none, none] := by
  obtain ⟨e2, ps, h1, h2, h3, h4⟩ := comp_each (v := 16) (me := le_law_4) (fun e => ∃ w, WellOk w ∧ e = [some (.val (.lst (ns.map .int))), some w, some (.val (.str (txt K))), some (.lst ((EV K).map fun s => .val (.str (txt s)))), some (.val (.lst (T.map fun s => .str (txt s)))), none, none, none, none, none, none, none, none, none, none, none, none, none, none]) (fun d o => ∃ t d', d = .str (txt t) ∧ o = .val d' ∧ Pres t d') (ds := T.map fun s => .str (txt s)) (acc := []) (e0 := [some (.val (.lst (ns.map .int))), some w, some (.val (.str (txt K))), some (.lst ((EV K).map fun s => .val (.str (txt s)))), some (.val (.lst (T.map fun s => .str (txt s)))), none, none, none, none, none, none, none, none, none, none, none, none, none, none]) ⟨w, hw, rfl⟩ fun d hd e ⟨w2, hw2, he⟩ => by
    subst he
    obtain ⟨t, ht, rfl⟩ := List.mem_map.mp hd
    obtain ⟨hl, hlow⟩ := ev_low K hK t (hT t ht)
    obtain ⟨w3, d', e3, hw3, hp⟩ := told w2 hw2 t (by omega) hlow
    refine ⟨rv d', [some (.val (.lst (ns.map .int))), some w3, some (.val (.str (txt K))), some (.lst ((EV K).map fun s => .val (.str (txt s)))), some (.val (.lst (T.map fun s => .str (txt s)))), none, none, none, none, none, none, none, none, none, none, none, some (.val (.str (txt t))), none, none], .val d', _, ?_, rfl, ⟨t, d', rfl, rfl, hp⟩, w3, hw3, rfl⟩
    obtain ⟨a, b, rfl, _⟩ := hw2
    unfold wellO txt at *
    simp [-List.map_map, le_law_4, e3, seqD, ifS, forS, testD, op2D, op1D, ixD, nameD, conD, Z.Env.at, Res.bind, Res.of, Res.s, RV.get, RV.fz, O.fz, ixR, RV.part, Z.scal, sv, RV.bool, setD, callD, consA, nilA, fzs, RV.take, setIxD, storeIx, rtD, RV.out, Z.Env.put, endD, outsL, headO, valO, Z.O.get, Z.O.put, fnD, startE, callZ, argsZ, callR, lend, unlend, arrange, passD, rtN, addD, addF, RV.sh, O.sh, vals, andD, orD, notD, ifD, newLD, newVD, shs, lstD, tupD, takes, fzL, ixN, atI, D.add, D.sub, D.mul, D.fdiv, D.mod, D.gt, D.ge, D.lt, D.le, intF, absF, lenF, mulOk_eq, divOk_eq, flatD, RV.flat, vals_flatO, fzL_mv, vals_mv, fzL_append, fzL_vals]
  obtain ⟨w2, hw2, rfl⟩ := h2
  obtain ⟨qs, hq, _, hqe⟩ := choose_map (l := ps) (f := fun q : List Nat × D => (D.str (txt q.1), O.val q.2)) (P := fun q => Pres q.1 q.2) fun p hp => by
    obtain ⟨t, d', h5, h6, h7⟩ := h4 p hp
    exact ⟨(t, d'), h7, by rw [← h5, ← h6]⟩
  refine ⟨w2, qs, hw2, ?_, hqe, ?_⟩
  · rw [hq, List.map_map] at h3
    have h3 : (qs.map fun q => D.str (txt q.1)) = T.map fun s => D.str (txt s) := h3
    have inj : ∀ a b : List Nat, D.str (txt a) = D.str (txt b) → a = b := fun a b h => by rw [D.str.injEq] at h; exact txt_inj.mp h
    have h3 : (qs.map (·.1)).map (fun s => D.str (txt s)) = T.map fun s => D.str (txt s) := by rw [List.map_map]; exact h3
    exact (List.map_inj_right inj).mp h3
  · rw [hq, List.map_map] at h1
    have e5 : (fun p : D × O => p.2) ∘ (fun q : List Nat × D => (D.str (txt q.1), O.val q.2)) = fun q => O.val q.2 := rfl
    have e6 : (qs.map (·.2)).map O.val = qs.map fun q => O.val q.2 := by rw [List.map_map]; rfl
    rw [e5] at h1
    rw [e6]
    simp [-List.map_map, s_law_6, lcD, srcD, D.items, clear, h1, finL, restore, seqD, ifS, forS, testD, op2D, op1D, ixD, nameD, conD, Z.Env.at, Res.bind, Res.of, Res.s, RV.get, RV.fz, O.fz, ixR, RV.part, Z.scal, sv, RV.bool, setD, callD, consA, nilA, fzs, RV.take, setIxD, storeIx, rtD, RV.out, Z.Env.put, endD, outsL, headO, valO, Z.O.get, Z.O.put, fnD, startE, callZ, argsZ, callR, lend, unlend, arrange, passD, rtN, addD, addF, RV.sh, O.sh, vals, andD, orD, notD, ifD, newLD, newVD, shs, lstD, tupD, takes, fzL, ixN, atI, D.add, D.sub, D.mul, D.fdiv, D.mod, D.gt, D.ge, D.lt, D.le, intF, absF, lenF, mulOk_eq, divOk_eq, flatD, RV.flat, vals_flatO, fzL_mv, vals_mv, fzL_append, fzL_vals]
/-- what is told can be shown -/
theorem told_sho {K : List Nat} (hK : K ∈ KS) (ps : List (List Nat × D)) (hT : ∀ t ∈ ps.map (·.1), t ∈ EV K) (h : ∀ p ∈ ps, Pres p.1 p.2) (hl : ps.length ≤ 5) : ShoD 5000 2 (.lst (ps.map (·.2))) := by
  refine (sho_lst (n := 500) (k := 1) fun d hd => ?_).mono (by rw [List.length_map]; omega) (by decide)
  obtain ⟨p, hp, rfl⟩ := List.mem_map.mp hd
  exact pres_sho hK (hT _ (List.mem_map.mpr ⟨p, hp, rfl⟩)) (h p hp)
theorem law7 (ns : List Int) (w : O) (hw : WellOk w) (K : List Nat) (hK : K ∈ KS) (T : List (List Nat)) (ds : List D) (hs : ShoD 5000 2 (.lst ds)) : ∃ (w' : O) (dk : D), WellOk w' ∧ Tells ABCD K dk ∧ s_law_7 [some (.val (.lst (ns.map .int))), some w, some (.val (.str (txt K))), some (.lst ((EV K).map fun s => .val (.str (txt s)))), some (.val (.lst (T.map fun s => .str (txt s)))), some (.lst (ds.map .val)), none, none, none, none, none, none, none, none, none, none, none, none, none] = .nx [some (.val (.lst (ns.map .int))), some w', some (.val (.str (txt K))), some (.lst ((EV K).map fun s => .val (.str (txt s)))), some (.val (.lst (T.map fun s => .str (txt s)))), some (.lst (ds.map .val)), some (.val (.str (shownD (.lst ds)))), some (.val dk), none, none, none, none, none, none, none, none, none, none, none] := by
  obtain ⟨hl, hlow⟩ : K.length ≤ 8 ∧ Low K := by
    have := ks_in K hK
    exact ⟨by omega, fun c hc => abcd_low c (this.1 c hc)⟩
  obtain ⟨w3, d', e3, hw3, ls, hp1, _, hp2⟩ := told w hw K (by omega) hlow
  obtain ⟨hr, ho⟩ := repr_sho hs (by decide) (by decide)
  refine ⟨w3, d', hw3, ⟨ls, hp2, fun c hc => (ks_in K hK).1 c ((hp1 c).mp hc), ?_⟩, ?_⟩
  · have h5 := (ks_in K hK).2.2
    have : (ABCD.filter fun c => decide (c ∈ ls)) = ABCD.filter fun c => decide (c ∈ K) := List.filter_congr fun c _ => by simp only [hp1 c]
    rw [this, h5]
  · obtain ⟨a, b, rfl, _⟩ := hw
    unfold wellO txt at *
    simp [-List.map_map, s_law_7, e3, hr, ho, parD, seqD, ifS, forS, testD, op2D, op1D, ixD, nameD, conD, Z.Env.at, Res.bind, Res.of, Res.s, RV.get, RV.fz, O.fz, ixR, RV.part, Z.scal, sv, RV.bool, setD, callD, consA, nilA, fzs, RV.take, setIxD, storeIx, rtD, RV.out, Z.Env.put, endD, outsL, headO, valO, Z.O.get, Z.O.put, fnD, startE, callZ, argsZ, callR, lend, unlend, arrange, passD, rtN, addD, addF, RV.sh, O.sh, vals, andD, orD, notD, ifD, newLD, newVD, shs, lstD, tupD, takes, fzL, ixN, atI, D.add, D.sub, D.mul, D.fdiv, D.mod, D.gt, D.ge, D.lt, D.le, intF, absF, lenF, mulOk_eq, divOk_eq, flatD, RV.flat, vals_flatO, fzL_mv, vals_mv, fzL_append, fzL_vals]
/-- those that meet all -/
theorem law8 (ns : List Int) (w : O) (K : List Nat) (hK : K ∈ KS) (T : List (List Nat)) (hT : ∀ t ∈ T, t ∈ EV K) (o5 o6 o7 : O) : s_law_8 [some (.val (.lst (ns.map .int))), some w, some (.val (.str (txt K))), some (.lst ((EV K).map fun s => .val (.str (txt s)))), some (.val (.lst (T.map fun s => .str (txt s)))), some o5, some o6, some o7, none, none, none, none, none, none, none, none, none, none, none] = .nx [some (.val (.lst (ns.map .int))), some w, some (.val (.str (txt K))), some (.val (.lst ((EV K).map fun s => .str (txt s)))), some (.val (.lst (T.map fun s => .str (txt s)))), some o5, some o6, some o7, some (.lst (((EV K).filter (M T)).map fun s => .val (.str (txt s)))), none, none, none, none, none, none, none, none, none, none] := by
  have hlow : ∀ t ∈ T, Low t := fun t ht => (ev_low K hK t (hT t ht)).2
  have hc := comp_map (v := 16) (mt := lt_law_5) (me := le_law_6) (t := fun d => match d with | .str s => M T s.cps.toList | _ => false) (f := fun d => d) (e0 := [some (.val (.lst (ns.map .int))), some w, some (.val (.str (txt K))), some (.val (.lst ((EV K).map fun s => .str (txt s)))), some (.val (.lst (T.map fun s => .str (txt s)))), some o5, some o6, some o7, none, none, none, none, none, none, none, none, none, none, none]) rfl (ds := (EV K).map fun s => .str (txt s)) (acc := []) fun d hd => by
    obtain ⟨t, ht, rfl⟩ := List.mem_map.mp hd
    have := law_meets t T hlow
    have e1 : (T.map txt).map D.str = T.map fun s => D.str (txt s) := by rw [List.map_map]; rfl
    rw [e1] at this
    have e2 : (txt t).cps.toList = t := rfl
    exact ⟨by simp [-List.map_map, lt_law_5, this, e2, seqD, ifS, forS, testD, op2D, op1D, ixD, nameD, conD, Z.Env.at, Res.bind, Res.of, Res.s, RV.get, RV.fz, O.fz, ixR, RV.part, Z.scal, sv, RV.bool, setD, callD, consA, nilA, fzs, RV.take, setIxD, storeIx, rtD, RV.out, Z.Env.put, endD, outsL, headO, valO, Z.O.get, Z.O.put, fnD, startE, callZ, argsZ, callR, lend, unlend, arrange, passD, rtN, addD, addF, RV.sh, O.sh, vals, andD, orD, notD, ifD, newLD, newVD, shs, lstD, tupD, takes, fzL, ixN, atI, D.add, D.sub, D.mul, D.fdiv, D.mod, D.gt, D.ge, D.lt, D.le, intF, absF, lenF, mulOk_eq, divOk_eq, flatD, RV.flat, vals_flatO, fzL_mv, vals_mv, fzL_append, fzL_vals], fun _ => by simp [le_law_6, seqD, ifS, forS, testD, op2D, op1D, ixD, nameD, conD, Z.Env.at, Res.bind, Res.of, Res.s, RV.get, RV.fz, O.fz, ixR, RV.part, Z.scal, sv, RV.bool, setD, callD, consA, nilA, fzs, RV.take, setIxD, storeIx, rtD, RV.out, Z.Env.put, endD, outsL, headO, valO, Z.O.get, Z.O.put, fnD, startE, callZ, argsZ, callR, lend, unlend, arrange, passD, rtN, addD, addF, RV.sh, O.sh, vals, andD, orD, notD, ifD, newLD, newVD, shs, lstD, tupD, takes, fzL, ixN, atI, D.add, D.sub, D.mul, D.fdiv, D.mod, D.gt, D.ge, D.lt, D.le, intF, absF, lenF, mulOk_eq, divOk_eq, flatD, RV.flat, vals_flatO, fzL_mv, vals_mv, fzL_append, fzL_vals]⟩
  have hf : ((EV K).map fun s => D.str (txt s)).filter (fun d => match d with | .str s => M T s.cps.toList | _ => false) = ((EV K).filter (M T)).map fun s => .str (txt s) := List.filter_map
  rw [hf, List.map_map] at hc
  simp [-List.map_map, s_law_8, lcD, srcD, D.items, clear, hc, finL, restore, Function.comp_def, seqD, ifS, forS, testD, op2D, op1D, ixD, nameD, conD, Z.Env.at, Res.bind, Res.of, Res.s, RV.get, RV.fz, O.fz, ixR, RV.part, Z.scal, sv, RV.bool, setD, callD, consA, nilA, fzs, RV.take, setIxD, storeIx, rtD, RV.out, Z.Env.put, endD, outsL, headO, valO, Z.O.get, Z.O.put, fnD, startE, callZ, argsZ, callR, lend, unlend, arrange, passD, rtN, addD, addF, RV.sh, O.sh, vals, andD, orD, notD, ifD, newLD, newVD, shs, lstD, tupD, takes, fzL, ixN, atI, D.add, D.sub, D.mul, D.fdiv, D.mod, D.gt, D.ge, D.lt, D.le, intF, absF, lenF, mulOk_eq, divOk_eq, flatD, RV.flat, vals_flatO, fzL_mv, vals_mv, fzL_append, fzL_vals]
/-- the law's own least ones -/
def leastL (T : List (List Nat)) (met : List (List Nat)) : List (List Nat) := met.filter fun one => !(met.any fun y => (!decide (y = one)) && y.all fun c => decide (c ∈ one))
theorem law9 (ns : List Int) (w : O) (K : List Nat) (T met : List (List Nat)) (hm : ∀ t ∈ met, Low t) (o5 o6 o7 : O) : s_law_9 [some (.val (.lst (ns.map .int))), some w, some (.val (.str (txt K))), some (.val (.lst ((EV K).map fun s => .str (txt s)))), some (.val (.lst (T.map fun s => .str (txt s)))), some o5, some o6, some o7, some (.lst (met.map fun s => .val (.str (txt s)))), none, none, none, none, none, none, none, none, none, none] = .nx [some (.val (.lst (ns.map .int))), some w, some (.val (.str (txt K))), some (.val (.lst ((EV K).map fun s => .str (txt s)))), some (.val (.lst (T.map fun s => .str (txt s)))), some o5, some o6, some o7, some (.val (.lst (met.map fun s => .str (txt s)))), some (.lst ((leastL T met).map fun s => .val (.str (txt s)))), none, none, none, none, none, none, none, none, none] := by
  have hc := comp_map (v := 16) (mt := lt_law_9) (me := le_law_10) (t := fun d => match d with | .str s => !(met.any fun y => (!decide (y = s.cps.toList)) && y.all fun c => decide (c ∈ s.cps.toList)) | _ => false) (f := fun d => d) (e0 := [some (.val (.lst (ns.map .int))), some w, some (.val (.str (txt K))), some (.val (.lst ((EV K).map fun s => .str (txt s)))), some (.val (.lst (T.map fun s => .str (txt s)))), some o5, some o6, some o7, some (.val (.lst (met.map fun s => .str (txt s)))), none, none, none, none, none, none, none, none, none, none]) rfl (ds := met.map fun s => .str (txt s)) (acc := []) fun d hd => by
    obtain ⟨one, ho, rfl⟩ := List.mem_map.mp hd
    have e2 : (txt one).cps.toList = one := rfl
    have hi := comp_map (v := 17) (mt := lt_law_7) (me := le_law_8) (t := fun d => match d with | .str s => (!decide (s.cps.toList = one)) && s.cps.toList.all fun c => decide (c ∈ one) | _ => false) (f := fun d => d) (e0 := [some (.val (.lst (ns.map .int))), some w, some (.val (.str (txt K))), some (.val (.lst ((EV K).map fun s => .str (txt s)))), some (.val (.lst (T.map fun s => .str (txt s)))), some o5, some o6, some o7, some (.val (.lst (met.map fun s => .str (txt s)))), none, none, none, none, none, none, none, some (.val (.str (txt one))), none, none]) rfl (ds := met.map fun s => .str (txt s)) (acc := []) fun d hd => by
      obtain ⟨y, hy, rfl⟩ := List.mem_map.mp hd
      have e3 : (txt y).cps.toList = y := rfl
      have h1 := law_in y one (hm y hy)
      have h2 : D.ne (.str (txt y)) (.str (txt one)) = some (.bl (!decide (y = one))) := by
        unfold D.ne
        rw [eqb_str (strOk_txt (hm y hy)) (strOk_txt (hm one ho))]
        have : (txt y == txt one) = decide (y = one) := by rw [Bool.eq_iff_iff, beq_iff_eq, decide_eq_true_iff]; exact txt_inj
        rw [this]; rfl
      refine ⟨?_, fun _ => by simp [le_law_8, seqD, ifS, forS, testD, op2D, op1D, ixD, nameD, conD, Z.Env.at, Res.bind, Res.of, Res.s, RV.get, RV.fz, O.fz, ixR, RV.part, Z.scal, sv, RV.bool, setD, callD, consA, nilA, fzs, RV.take, setIxD, storeIx, rtD, RV.out, Z.Env.put, endD, outsL, headO, valO, Z.O.get, Z.O.put, fnD, startE, callZ, argsZ, callR, lend, unlend, arrange, passD, rtN, addD, addF, RV.sh, O.sh, vals, andD, orD, notD, ifD, newLD, newVD, shs, lstD, tupD, takes, fzL, ixN, atI, D.add, D.sub, D.mul, D.fdiv, D.mod, D.gt, D.ge, D.lt, D.le, intF, absF, lenF, mulOk_eq, divOk_eq, flatD, RV.flat, vals_flatO, fzL_mv, vals_mv, fzL_append, fzL_vals]⟩
      by_cases e : y = one
      · subst e
        simp [lt_law_7, h2, e3, seqD, ifS, forS, testD, op2D, op1D, ixD, nameD, conD, Z.Env.at, Res.bind, Res.of, Res.s, RV.get, RV.fz, O.fz, ixR, RV.part, Z.scal, sv, RV.bool, setD, callD, consA, nilA, fzs, RV.take, setIxD, storeIx, rtD, RV.out, Z.Env.put, endD, outsL, headO, valO, Z.O.get, Z.O.put, fnD, startE, callZ, argsZ, callR, lend, unlend, arrange, passD, rtN, addD, addF, RV.sh, O.sh, vals, andD, orD, notD, ifD, newLD, newVD, shs, lstD, tupD, takes, fzL, ixN, atI, D.add, D.sub, D.mul, D.fdiv, D.mod, D.gt, D.ge, D.lt, D.le, intF, absF, lenF, mulOk_eq, divOk_eq, flatD, RV.flat, vals_flatO, fzL_mv, vals_mv, fzL_append, fzL_vals]
      · simp [-List.all_eq_true, lt_law_7, h1, h2, e3, e, seqD, ifS, forS, testD, op2D, op1D, ixD, nameD, conD, Z.Env.at, Res.bind, Res.of, Res.s, RV.get, RV.fz, O.fz, ixR, RV.part, Z.scal, sv, RV.bool, setD, callD, consA, nilA, fzs, RV.take, setIxD, storeIx, rtD, RV.out, Z.Env.put, endD, outsL, headO, valO, Z.O.get, Z.O.put, fnD, startE, callZ, argsZ, callR, lend, unlend, arrange, passD, rtN, addD, addF, RV.sh, O.sh, vals, andD, orD, notD, ifD, newLD, newVD, shs, lstD, tupD, takes, fzL, ixN, atI, D.add, D.sub, D.mul, D.fdiv, D.mod, D.gt, D.ge, D.lt, D.le, intF, absF, lenF, mulOk_eq, divOk_eq, flatD, RV.flat, vals_flatO, fzL_mv, vals_mv, fzL_append, fzL_vals]
    have hf : (met.map fun s => D.str (txt s)).filter (fun d => match d with | .str s => (!decide (s.cps.toList = one)) && s.cps.toList.all fun c => decide (c ∈ one) | _ => false) = ((met.filter fun y => (!decide (y = one)) && y.all fun c => decide (c ∈ one)).map txt).map .str := by rw [List.filter_map, List.map_map]; rfl
    rw [hf, List.nil_append] at hi
    have hq := eqb_strs_nil (ls := met.filter fun y => (!decide (y = one)) && y.all fun c => decide (c ∈ one)) fun t ht => hm t (List.mem_filter.mp ht).1
    rw [filter_nil] at hq
    refine ⟨?_, fun _ => by simp [le_law_10, seqD, ifS, forS, testD, op2D, op1D, ixD, nameD, conD, Z.Env.at, Res.bind, Res.of, Res.s, RV.get, RV.fz, O.fz, ixR, RV.part, Z.scal, sv, RV.bool, setD, callD, consA, nilA, fzs, RV.take, setIxD, storeIx, rtD, RV.out, Z.Env.put, endD, outsL, headO, valO, Z.O.get, Z.O.put, fnD, startE, callZ, argsZ, callR, lend, unlend, arrange, passD, rtN, addD, addF, RV.sh, O.sh, vals, andD, orD, notD, ifD, newLD, newVD, shs, lstD, tupD, takes, fzL, ixN, atI, D.add, D.sub, D.mul, D.fdiv, D.mod, D.gt, D.ge, D.lt, D.le, intF, absF, lenF, mulOk_eq, divOk_eq, flatD, RV.flat, vals_flatO, fzL_mv, vals_mv, fzL_append, fzL_vals]⟩
    have e4 : (fun d => O.val d) = O.val := rfl
    rw [e4] at hi
    simp [-List.map_map, -List.any_eq_true, lt_law_9, lcD, srcD, D.items, clear, hi, finL, restore, D.eq, hq, e2, seqD, ifS, forS, testD, op2D, op1D, ixD, nameD, conD, Z.Env.at, Res.bind, Res.of, Res.s, RV.get, RV.fz, O.fz, ixR, RV.part, Z.scal, sv, RV.bool, setD, callD, consA, nilA, fzs, RV.take, setIxD, storeIx, rtD, RV.out, Z.Env.put, endD, outsL, headO, valO, Z.O.get, Z.O.put, fnD, startE, callZ, argsZ, callR, lend, unlend, arrange, passD, rtN, addD, addF, RV.sh, O.sh, vals, andD, orD, notD, ifD, newLD, newVD, shs, lstD, tupD, takes, fzL, ixN, atI, D.add, D.sub, D.mul, D.fdiv, D.mod, D.gt, D.ge, D.lt, D.le, intF, absF, lenF, mulOk_eq, divOk_eq, flatD, RV.flat, vals_flatO, fzL_mv, vals_mv, fzL_append, fzL_vals]
  have hf : (met.map fun s => D.str (txt s)).filter (fun d => match d with | .str s => !(met.any fun y => (!decide (y = s.cps.toList)) && y.all fun c => decide (c ∈ s.cps.toList)) | _ => false) = (leastL T met).map fun s => .str (txt s) := List.filter_map
  rw [hf, List.map_map] at hc
  simp [-List.map_map, s_law_9, lcD, srcD, D.items, clear, hc, finL, restore, Function.comp_def, seqD, ifS, forS, testD, op2D, op1D, ixD, nameD, conD, Z.Env.at, Res.bind, Res.of, Res.s, RV.get, RV.fz, O.fz, ixR, RV.part, Z.scal, sv, RV.bool, setD, callD, consA, nilA, fzs, RV.take, setIxD, storeIx, rtD, RV.out, Z.Env.put, endD, outsL, headO, valO, Z.O.get, Z.O.put, fnD, startE, callZ, argsZ, callR, lend, unlend, arrange, passD, rtN, addD, addF, RV.sh, O.sh, vals, andD, orD, notD, ifD, newLD, newVD, shs, lstD, tupD, takes, fzL, ixN, atI, D.add, D.sub, D.mul, D.fdiv, D.mod, D.gt, D.ge, D.lt, D.le, intF, absF, lenF, mulOk_eq, divOk_eq, flatD, RV.flat, vals_flatO, fzL_mv, vals_mv, fzL_append, fzL_vals]
theorem law10 (ns : List Int) (w : O) (K : List Nat) (hk : Low K) (hn : K.length ≤ 100) (T : List (List Nat)) (o3 o5 o6 o7 o8 o9 : O) : s_law_10 [some (.val (.lst (ns.map .int))), some w, some (.val (.str (txt K))), some o3, some (.val (.lst (T.map fun s => .str (txt s)))), some o5, some o6, some o7, some o8, some o9, none, none, none, none, none, none, none, none, none] = .nx [some (.val (.lst (ns.map .int))), some w, some (.val (.str (txt K))), some o3, some (.val (.lst (T.map fun s => .str (txt s)))), some o5, some o6, some o7, some o8, some o9, some (.lst (T.map fun t => .val (.str (txt (K.filter fun c => !decide (c ∈ t)))))), none, none, none, none, none, none, none, none] := by
  have hc := comp_pairs (v := 16) (me := le_law_13) (e0 := [some (.val (.lst (ns.map .int))), some w, some (.val (.str (txt K))), some o3, some (.val (.lst (T.map fun s => .str (txt s)))), some o5, some o6, some o7, some o8, some o9, none, none, none, none, none, none, none, none, none]) rfl (ps := T.map fun t => (D.str (txt t), D.str (txt (K.filter fun c => !decide (c ∈ t))))) (acc := []) fun q hq => by
    obtain ⟨t, ht, rfl⟩ := List.mem_map.mp hq
    have hc := comp_notIn (v := 18) (w := 16) (e0 := [some (.val (.lst (ns.map .int))), some w, some (.val (.str (txt K))), some o3, some (.val (.lst (T.map fun s => .str (txt s)))), some o5, some o6, some o7, some o8, some o9, none, none, none, none, none, none, some (.val (.str (txt t))), none, none]) (ls := K) (one := t) (acc := []) rfl rfl (by decide) (by simp)
    have hit := txt_items K
    have hj := joinAF_row (ls := K.filter fun c => !decide (c ∈ t)) (Nat.le_trans (List.length_filter_le _ _) (by omega))
    have ho := sOk_txt (ls := K.filter fun c => !decide (c ∈ t)) (fun c hc => hk c (List.mem_filter.mp hc).1) (Nat.le_trans (List.length_filter_le _ _) (by omega))
    rw [show (fun c => (⟨#[c]⟩ : Str)) = Z.sgn from rfl] at hj
    unfold txt at *
    simp [-List.map_map, le_law_13, lt_law_11, le_law_12, lcD, srcD, hit, clear, hc, hj, ho, m1D, finL, restore, seqD, ifS, forS, testD, op2D, op1D, ixD, nameD, conD, Z.Env.at, Res.bind, Res.of, Res.s, RV.get, RV.fz, O.fz, ixR, RV.part, Z.scal, sv, RV.bool, setD, callD, consA, nilA, fzs, RV.take, setIxD, storeIx, rtD, RV.out, Z.Env.put, endD, outsL, headO, valO, Z.O.get, Z.O.put, fnD, startE, callZ, argsZ, callR, lend, unlend, arrange, passD, rtN, addD, addF, RV.sh, O.sh, vals, andD, orD, notD, ifD, newLD, newVD, shs, lstD, tupD, takes, fzL, ixN, atI, D.add, D.sub, D.mul, D.fdiv, D.mod, D.gt, D.ge, D.lt, D.le, intF, absF, lenF, mulOk_eq, divOk_eq, flatD, RV.flat, vals_flatO, fzL_mv, vals_mv, fzL_append, fzL_vals]
  rw [List.map_map, List.map_map] at hc
  have e1 : ((fun p : D × D => p.1) ∘ fun t : List Nat => (D.str (txt t), D.str (txt (K.filter fun c => !decide (c ∈ t))))) = fun t => D.str (txt t) := rfl
  have e2 : ((fun p : D × D => O.val p.2) ∘ fun t : List Nat => (D.str (txt t), D.str (txt (K.filter fun c => !decide (c ∈ t))))) = fun t => .val (.str (txt (K.filter fun c => !decide (c ∈ t)))) := rfl
  rw [e1, e2] at hc
  simp [-List.map_map, s_law_10, lcD, srcD, D.items, clear, hc, finL, restore, seqD, ifS, forS, testD, op2D, op1D, ixD, nameD, conD, Z.Env.at, Res.bind, Res.of, Res.s, RV.get, RV.fz, O.fz, ixR, RV.part, Z.scal, sv, RV.bool, setD, callD, consA, nilA, fzs, RV.take, setIxD, storeIx, rtD, RV.out, Z.Env.put, endD, outsL, headO, valO, Z.O.get, Z.O.put, fnD, startE, callZ, argsZ, callR, lend, unlend, arrange, passD, rtN, addD, addF, RV.sh, O.sh, vals, andD, orD, notD, ifD, newLD, newVD, shs, lstD, tupD, takes, fzL, ixN, atI, D.add, D.sub, D.mul, D.fdiv, D.mod, D.gt, D.ge, D.lt, D.le, intF, absF, lenF, mulOk_eq, divOk_eq, flatD, RV.flat, vals_flatO, fzL_mv, vals_mv, fzL_append, fzL_vals]
/-- one turn of the law's checks -/
theorem law11 (ns : List Int) (w : O) {K : List Nat} (hK : K ∈ KS) (ps : List (List Nat × D)) (hp : ∀ p ∈ ps, Tells K p.1 p.2) (hE : ∀ p ∈ ps, p.1 ∈ EV K) (hl : ps.length ≤ 5) (dk : D) (hdk : Tells ABCD K dk) (T : List (List Nat)) (hT : ps.map (·.1) = T) (o3 o4 o6 o8 : O) (least : List (List Nat)) (hle : least = leastM K T) (x : Option O)
    (o5 : O) (ho5 : o5 = .lst ((ps.map (·.2)).map .val) ∨ o5 = .val (.lst (ps.map (·.2)))) :
    lb_law_14 [some (.val (.lst (ns.map .int))), some w, some (.val (.str (txt K))), some o3, some o4, some o5, some o6, some (.val dk), some o8, some (.lst (least.map fun s => .val (.str (txt s)))), some (.lst (T.map fun t => .val (.str (txt (K.filter fun c => !decide (c ∈ t)))))), x, none, none, none, none, none, none, none] = .nx [some (.val (.lst (ns.map .int))), some w, some (.val (.str (txt K))), some o3, some o4, some (.val (.lst (ps.map (·.2)))), some o6, some (.val dk), some o8, some (.lst (least.map fun s => .val (.str (txt s)))), some (.lst (T.map fun t => .val (.str (txt (K.filter fun c => !decide (c ∈ t)))))), x, none, none, none, none, none, none, none] := by
  have hKl := (ks_in K hK).2.1
  have hst : Stands (ps.map (·.2)) o5 (.lst (ps.map (·.2))) := ⟨.inl rfl, by rcases ho5 with rfl | rfl; exact .inr ⟨rfl, rfl⟩; exact .inl rfl⟩
  have h1 := meet_good hK dk hdk ps hp hE o5 _ hst
  have h1v := meet_good hK (.str (txt K)) (tells_txt hK) ps hp hE (.val (.tup (ps.map (·.2)))) _ ⟨.inr rfl, .inl rfl⟩
  have h2 := lack_good K (fun c hc => (ks_in K hK).1 c hc) (by omega) dk hdk ps hp (by omega) (.val (.lst (ps.map (·.2)))) _ ⟨.inl rfl, .inl rfl⟩
  rw [hT, ← hle] at h1 h1v
  have e2 : (ps.map fun p => D.str (txt (K.filter fun c => !decide (c ∈ p.1)))) = T.map fun t => .str (txt (K.filter fun c => !decide (c ∈ t))) := by rw [← hT, List.map_map]; rfl
  rw [e2] at h2
  have hlow : Low K := fun c hc => abcd_low c ((ks_in K hK).1 c hc)
  have hs1 : ShoD 1000 1 (.tup (least.map fun s => .str (txt s))) := by
    have hll : least.length ≤ 16 := by
      have : (EV K).length ≤ 16 := by rcases kinds_cases hK with rfl | rfl | rfl | rfl | rfl | rfl <;> decide
      rw [hle]; exact Nat.le_trans (List.length_filter_le _ _) this
    refine (sho_tup (n := 42) (k := 0) fun d hd => ?_).mono (by rw [List.length_map]; omega) (by decide)
    obtain ⟨t, ht, rfl⟩ := List.mem_map.mp hd
    have := ev_low K hK t (by rw [hle] at ht; exact (List.mem_filter.mp ht).1)
    refine (sho_str (strOk_txt this.2)).mono ?_ (by decide)
    have e : (txt t).length = t.length := rfl
    omega
  have hTl : T.length ≤ 5 := by rw [← hT, List.length_map]; exact hl
  have hs2 : ShoD 1000 1 (.tup (T.map fun t => .str (txt (K.filter fun c => !decide (c ∈ t))))) := by
    refine (sho_tup (n := 42) (k := 0) fun d hd => ?_).mono (by rw [List.length_map]; omega) (by decide)
    obtain ⟨t, ht, rfl⟩ := List.mem_map.mp hd
    have : Low (K.filter fun c => !decide (c ∈ t)) := fun c hc => hlow c (List.mem_filter.mp hc).1
    refine (sho_str (strOk_txt this)).mono ?_ (by decide)
    have e : (txt (K.filter fun c => !decide (c ∈ t))).length = (K.filter fun c => !decide (c ∈ t)).length := rfl
    have := List.length_filter_le (fun c => !decide (c ∈ t)) K
    omega
  obtain ⟨r1, k1⟩ := repr_sho hs1 (by decide) (by decide)
  obtain ⟨r2, k2⟩ := repr_sho hs2 (by decide) (by decide)
  have n1 := ne_same k1
  have n2 := ne_same k2
  rcases ho5 with rfl | rfl <;> simp [-List.map_map, lb_law_14, h1, h1v, h2, r1, r2, k1, k2, n1, n2, tupleF, seqD, ifS, forS, testD, op2D, op1D, ixD, nameD, conD, Z.Env.at, Res.bind, Res.of, Res.s, RV.get, RV.fz, O.fz, ixR, RV.part, Z.scal, sv, RV.bool, setD, callD, consA, nilA, fzs, RV.take, setIxD, storeIx, rtD, RV.out, Z.Env.put, endD, outsL, headO, valO, Z.O.get, Z.O.put, fnD, startE, callZ, argsZ, callR, lend, unlend, arrange, passD, rtN, addD, addF, RV.sh, O.sh, vals, andD, orD, notD, ifD, newLD, newVD, shs, lstD, tupD, takes, fzL, ixN, atI, D.add, D.sub, D.mul, D.fdiv, D.mod, D.gt, D.ge, D.lt, D.le, intF, absF, lenF, mulOk_eq, divOk_eq, flatD, RV.flat, vals_flatO, fzL_mv, vals_mv, fzL_append, fzL_vals]
end K65

set_option maxRecDepth 100000
set_option maxHeartbeats 2000000
namespace K65
open PySem L2 PySem.Spec PyProof.Rows Z
theorem M_mono {T : List (List Nat)} {a b : List Nat} (h : ∀ c ∈ a, c ∈ b) (ha : M T a = true) : M T b = true := by
  unfold M at *
  rw [List.all_eq_true] at *
  intro t ht
  have := ha t ht
  rw [List.any_eq_true] at *
  obtain ⟨c, h1, h2⟩ := this
  exact ⟨c, h1, decide_eq_true (h c (of_decide_eq_true h2))⟩
theorem least_eq {K : List Nat} (hK : K ∈ KS) (T : List (List Nat)) : leastL T ((EV K).filter (M T)) = leastM K T := by
  unfold leastL leastM
  rw [List.filter_filter]
  refine List.filter_congr fun one h1 => ?_
  rw [Bool.and_comm]
  congr 2
  rw [Bool.eq_iff_iff, List.any_eq_true, List.any_eq_true]
  constructor
  · rintro ⟨y, hy, h⟩
    rw [List.mem_filter] at hy
    rw [Bool.and_eq_true, List.all_eq_true] at h
    have hne : y ≠ one := by simpa using h.1
    have hs := ev_step K hK one h1 y hy.1 (fun c hc => of_decide_eq_true (h.2 c hc)) hne
    rw [List.any_eq_true] at hs
    obtain ⟨z, hz, h3⟩ := hs
    rw [List.all_eq_true] at h3
    exact ⟨z, hz, M_mono (fun c hc => of_decide_eq_true (h3 c hc)) hy.2⟩
  · rintro ⟨y, hy, h⟩
    obtain ⟨h2, h3, h4⟩ := ev_less K hK one h1 y hy
    refine ⟨y, List.mem_filter.mpr ⟨h2, h⟩, ?_⟩
    rw [Bool.and_eq_true, List.all_eq_true]
    exact ⟨by simpa using h3, fun c hc => decide_eq_true (h4 c hc)⟩
theorem law_true : ∀ ns : List Int, ns.length ≤ 63 → ∃ outs, F_law [.val (.lst (ns.map .int))] = .ok (.val (.bl true)) outs := by
  intro ns _
  obtain ⟨w1, hw1, e1⟩ := law1 ns
  obtain ⟨w2, K, hw2, hK, e2⟩ := law2 ns w1 hw1
  have e3 := law3 ns w2 K hK
  obtain ⟨w4, T4, hw4, hT4, hl4, e4⟩ := law4 ns w2 hw2 K hK
  obtain ⟨w5, T, hw5, hT, hl5, e5⟩ := law5 ns w4 hw4 K hK T4 hT4 hl4
  obtain ⟨w6, ps, hw6, hps, hpr, e6⟩ := law6 ns w5 hw5 K hK T hT
  have hE : ∀ p ∈ ps, p.1 ∈ EV K := fun p hp => hT _ (hps ▸ List.mem_map.mpr ⟨p, hp, rfl⟩)
  have hl : ps.length ≤ 5 := by rw [← hps, List.length_map] at hl5; exact hl5
  have htl : ∀ p ∈ ps, Tells K p.1 p.2 := fun p hp => pres_tells hK (hE p hp) (hpr p hp)
  have hsho := told_sho hK ps (fun t ht => hT t (hps ▸ ht)) hpr hl
  obtain ⟨w7, dk, hw7, hdk, e7⟩ := law7 ns w6 hw6 K hK T (ps.map (·.2)) hsho
  have e8 := law8 ns w7 K hK T hT (.lst ((ps.map (·.2)).map .val)) (.val (.str (shownD (.lst (ps.map (·.2)))))) (.val dk)
  have hmet : ∀ t ∈ (EV K).filter (M T), Low t := fun t ht => (ev_low K hK t (List.mem_filter.mp ht).1).2
  have e9 := law9 ns w7 K T ((EV K).filter (M T)) hmet (.lst ((ps.map (·.2)).map .val)) (.val (.str (shownD (.lst (ps.map (·.2)))))) (.val dk)
  rw [least_eq hK T] at e9
  have hKi := ks_in K hK
  have e10 := law10 ns w7 K (fun c hc => abcd_low c (hKi.1 c hc)) (by omega) T (.val (.lst ((EV K).map fun s => .str (txt s)))) (.lst ((ps.map (·.2)).map .val)) (.val (.str (shownD (.lst (ps.map (·.2)))))) (.val dk) (.val (.lst (((EV K).filter (M T)).map fun s => .str (txt s)))) (.lst ((leastM K T).map fun s => .val (.str (txt s))))
  have e11 : s_law_11 [some (.val (.lst (ns.map .int))), some w7, some (.val (.str (txt K))), some (.val (.lst ((EV K).map fun s => .str (txt s)))), some (.val (.lst (T.map fun s => .str (txt s)))), some (.lst ((ps.map (·.2)).map .val)), some (.val (.str (shownD (.lst (ps.map (·.2)))))), some (.val dk), some (.val (.lst (((EV K).filter (M T)).map fun s => .str (txt s)))), some (.lst ((leastM K T).map fun s => .val (.str (txt s)))), some (.lst (T.map fun t => .val (.str (txt (K.filter fun c => !decide (c ∈ t)))))), none, none, none, none, none, none, none, none] = .nx [some (.val (.lst (ns.map .int))), some w7, some (.val (.str (txt K))), some (.val (.lst ((EV K).map fun s => .str (txt s)))), some (.val (.lst (T.map fun s => .str (txt s)))), some (.val (.lst (ps.map (·.2)))), some (.val (.str (shownD (.lst (ps.map (·.2)))))), some (.val dk), some (.val (.lst (((EV K).filter (M T)).map fun s => .str (txt s)))), some (.lst ((leastM K T).map fun s => .val (.str (txt s)))), some (.lst (T.map fun t => .val (.str (txt (K.filter fun c => !decide (c ∈ t)))))), some (.val (.int 1)), none, none, none, none, none, none, none] := by
    have t := fun x o5 ho5 => law11 ns w7 hK ps htl hE hl dk hdk T hps (.val (.lst ((EV K).map fun s => .str (txt s)))) (.val (.lst (T.map fun s => .str (txt s)))) (.val (.str (shownD (.lst (ps.map (·.2)))))) (.val (.lst (((EV K).filter (M T)).map fun s => .str (txt s)))) (leastM K T) rfl x o5 ho5
    have hr : rangeL 0 2 = [.int 0, .int 1] := rfl
    have hok : rangeOk 0 2 = true := by decide
    have l : loopD (Tgt.nm 11).st lb_law_14 [.int 0, .int 1] [some (.val (.lst (ns.map .int))), some w7, some (.val (.str (txt K))), some (.val (.lst ((EV K).map fun s => .str (txt s)))), some (.val (.lst (T.map fun s => .str (txt s)))), some (.lst ((ps.map (·.2)).map .val)), some (.val (.str (shownD (.lst (ps.map (·.2)))))), some (.val dk), some (.val (.lst (((EV K).filter (M T)).map fun s => .str (txt s)))), some (.lst ((leastM K T).map fun s => .val (.str (txt s)))), some (.lst (T.map fun t => .val (.str (txt (K.filter fun c => !decide (c ∈ t)))))), none, none, none, none, none, none, none, none] = _ := (loop_nx (v := 11) (t _ _ (.inl rfl))).trans ((loop_nx (v := 11) (t _ _ (.inr rfl))).trans loop_nil)
    simp [-List.map_map, s_law_11, rangeD, range1, hok, hr, l, seqD, ifS, forS, testD, op2D, op1D, ixD, nameD, conD, Z.Env.at, Res.bind, Res.of, Res.s, RV.get, RV.fz, O.fz, ixR, RV.part, Z.scal, sv, RV.bool, setD, callD, consA, nilA, fzs, RV.take, setIxD, storeIx, rtD, RV.out, Z.Env.put, endD, outsL, headO, valO, Z.O.get, Z.O.put, fnD, startE, callZ, argsZ, callR, lend, unlend, arrange, passD, rtN, addD, addF, RV.sh, O.sh, vals, andD, orD, notD, ifD, newLD, newVD, shs, lstD, tupD, takes, fzL, ixN, atI, D.add, D.sub, D.mul, D.fdiv, D.mod, D.gt, D.ge, D.lt, D.le, intF, absF, lenF, mulOk_eq, divOk_eq, flatD, RV.flat, vals_flatO, fzL_mv, vals_mv, fzL_append, fzL_vals]
  obtain ⟨hr, ho⟩ := repr_sho hsho (by decide) (by decide)
  have hn := ne_same ho
  have e12 : s_law_12 [some (.val (.lst (ns.map .int))), some w7, some (.val (.str (txt K))), some (.val (.lst ((EV K).map fun s => .str (txt s)))), some (.val (.lst (T.map fun s => .str (txt s)))), some (.val (.lst (ps.map (·.2)))), some (.val (.str (shownD (.lst (ps.map (·.2)))))), some (.val dk), some (.val (.lst (((EV K).filter (M T)).map fun s => .str (txt s)))), some (.lst ((leastM K T).map fun s => .val (.str (txt s)))), some (.lst (T.map fun t => .val (.str (txt (K.filter fun c => !decide (c ∈ t)))))), some (.val (.int 1)), none, none, none, none, none, none, none] = .nx [some (.val (.lst (ns.map .int))), some w7, some (.val (.str (txt K))), some (.val (.lst ((EV K).map fun s => .str (txt s)))), some (.val (.lst (T.map fun s => .str (txt s)))), some (.val (.lst (ps.map (·.2)))), some (.val (.str (shownD (.lst (ps.map (·.2)))))), some (.val dk), some (.val (.lst (((EV K).filter (M T)).map fun s => .str (txt s)))), some (.lst ((leastM K T).map fun s => .val (.str (txt s)))), some (.lst (T.map fun t => .val (.str (txt (K.filter fun c => !decide (c ∈ t)))))), some (.val (.int 1)), none, none, none, none, none, none, none] := by
    simp [-List.map_map, s_law_12, hr, ho, hn, seqD, ifS, forS, testD, op2D, op1D, ixD, nameD, conD, Z.Env.at, Res.bind, Res.of, Res.s, RV.get, RV.fz, O.fz, ixR, RV.part, Z.scal, sv, RV.bool, setD, callD, consA, nilA, fzs, RV.take, setIxD, storeIx, rtD, RV.out, Z.Env.put, endD, outsL, headO, valO, Z.O.get, Z.O.put, fnD, startE, callZ, argsZ, callR, lend, unlend, arrange, passD, rtN, addD, addF, RV.sh, O.sh, vals, andD, orD, notD, ifD, newLD, newVD, shs, lstD, tupD, takes, fzL, ixN, atI, D.add, D.sub, D.mul, D.fdiv, D.mod, D.gt, D.ge, D.lt, D.le, intF, absF, lenF, mulOk_eq, divOk_eq, flatD, RV.flat, vals_flatO, fzL_mv, vals_mv, fzL_append, fzL_vals]
  obtain ⟨w13, row, lots, wrong, eb, hw13, hb, hsw⟩ := law_bad hK w7 hw7 ps htl (by omega)
  have e13 : s_law_13 [some (.val (.lst (ns.map .int))), some w7, some (.val (.str (txt K))), some (.val (.lst ((EV K).map fun s => .str (txt s)))), some (.val (.lst (T.map fun s => .str (txt s)))), some (.val (.lst (ps.map (·.2)))), some (.val (.str (shownD (.lst (ps.map (·.2)))))), some (.val dk), some (.val (.lst (((EV K).filter (M T)).map fun s => .str (txt s)))), some (.lst ((leastM K T).map fun s => .val (.str (txt s)))), some (.lst (T.map fun t => .val (.str (txt (K.filter fun c => !decide (c ∈ t)))))), some (.val (.int 1)), none, none, none, none, none, none, none] = .nx [some (.val (.lst (ns.map .int))), some w13, some (.val (.str (txt K))), some (.val (.lst ((EV K).map fun s => .str (txt s)))), some (.val (.lst (T.map fun s => .str (txt s)))), some (.val (.lst (ps.map (·.2)))), some (.val (.str (shownD (.lst (ps.map (·.2)))))), some (.val dk), some (.val (.lst (((EV K).filter (M T)).map fun s => .str (txt s)))), some (.lst ((leastM K T).map fun s => .val (.str (txt s)))), some (.lst (T.map fun t => .val (.str (txt (K.filter fun c => !decide (c ∈ t)))))), some (.val (.int 1)), some (.val row), some (.val lots), some (.val wrong), none, none, none, none] := by
    clear e1 e2 e3 e4 e5 e6 e7 e8 e9 e10 e11 e12
    obtain ⟨a, b, rfl, _⟩ := hw7
    unfold wellO at *
    simp [-List.map_map, s_law_13, eb, setTD, Tgt.st, Tgt.sts, seqD, ifS, forS, testD, op2D, op1D, ixD, nameD, conD, Z.Env.at, Res.bind, Res.of, Res.s, RV.get, RV.fz, O.fz, ixR, RV.part, Z.scal, sv, RV.bool, setD, callD, consA, nilA, fzs, RV.take, setIxD, storeIx, rtD, RV.out, Z.Env.put, endD, outsL, headO, valO, Z.O.get, Z.O.put, fnD, startE, callZ, argsZ, callR, lend, unlend, arrange, passD, rtN, addD, addF, RV.sh, O.sh, vals, andD, orD, notD, ifD, newLD, newVD, shs, lstD, tupD, takes, fzL, ixN, atI, D.add, D.sub, D.mul, D.fdiv, D.mod, D.gt, D.ge, D.lt, D.le, intF, absF, lenF, mulOk_eq, divOk_eq, flatD, RV.flat, vals_flatO, fzL_mv, vals_mv, fzL_append, fzL_vals]
  have hsd : ShoD 1000 3 (.tup [.str "none", wrong, .bl false]) := (sho_tup (n := 100) (k := 2) fun d hd => by
    simp only [List.mem_cons, List.not_mem_nil, or_false] at hd
    rcases hd with rfl | rfl | rfl
    · exact (sho_str (strOk_ofString _)).mono (by decide +kernel) (by decide)
    · exact hsw
    · exact (sho_bl _).mono (by decide) (by decide)).mono (by simp) (by decide)
  obtain ⟨hr2, ho2⟩ := repr_sho hsd (by decide) (by decide)
  have hq2 := eq_same ho2
  have a1 := answer_meet hb
  have a2 := answer_lack hb
  refine ⟨[.val (.lst (ns.map .int))], ?_⟩
  rw [eq_law]
  unfold fnD m_law
  have st : startE 19 [.val (.lst (ns.map .int))] = [some (.val (.lst (ns.map .int))), none, none, none, none, none, none, none, none, none, none, none, none, none, none, none, none, none, none] := rfl
  rw [st, seq_nx e1, seq_nx e2, seq_nx e3, seq_nx e4, seq_nx e5, seq_nx e6, seq_nx e7, seq_nx e8, seq_nx e9, seq_nx e10, seq_nx e11, seq_nx e12, seq_nx e13]
  clear e1 e2 e3 e4 e5 e6 e7 e8 e9 e10 e11 e12 e13
  simp [-List.map_map, s_law_14, s_law_15, a1, a2, hr2, ho2, hq2, andV, seqD, ifS, forS, testD, op2D, op1D, ixD, nameD, conD, Z.Env.at, Res.bind, Res.of, Res.s, RV.get, RV.fz, O.fz, ixR, RV.part, Z.scal, sv, RV.bool, setD, callD, consA, nilA, fzs, RV.take, setIxD, storeIx, rtD, RV.out, Z.Env.put, endD, outsL, headO, valO, Z.O.get, Z.O.put, fnD, startE, callZ, argsZ, callR, lend, unlend, arrange, passD, rtN, addD, addF, RV.sh, O.sh, vals, andD, orD, notD, ifD, newLD, newVD, shs, lstD, tupD, takes, fzL, ixN, atI, D.add, D.sub, D.mul, D.fdiv, D.mod, D.gt, D.ge, D.lt, D.le, intF, absF, lenF, mulOk_eq, divOk_eq, flatD, RV.flat, vals_flatO, fzL_mv, vals_mv, fzL_append, fzL_vals]
end K65

set_option maxRecDepth 100000
set_option maxHeartbeats 0
namespace K65
open PySem L2 PySem.Spec PyProof.Rows Z
/-! ### the head -/
abbrev Rw : PySem.W.OpenLaw := PySem.Challenge.rw_rueless_k65_least_sets_that_meet
def clsN : Nat → Str := fun n => (["RuelessError", "NoLetter"] : List Str).getD n ""
def fnA : Nat → Str × Option Str := fun n => ([("is_text", none), ("is_sequence", none), ("is_letter_of", none), ("kinds_of", none), ("kind_sets", none), ("lesser_sets", none), ("sets_of", none), ("complement_sets", none), ("meeting_sets", none), ("_law_well", none), ("_law_draw", none), ("_law_one", none), ("_law_sets", none), ("_law_in", none), ("_law_told", none), ("_law_meets", none), ("_law_answer", none), ("_law_bad", none), ("law", none)] : List (Str × Option Str)).getD n ("", none)
def cf (K : PySem.W.Frag) : Cf := ⟨K, fun n => He.ga K (clsN n), fun n => He.fAd K (fnA n)⟩
def dd__law_well : He.DefD := ⟨("_law_well", none), "_law_well", "_law_well", defArgs st__law_well, defBody st__law_well, defScope st__law_well, [], []⟩
def dd__law_draw : He.DefD := ⟨("_law_draw", none), "_law_draw", "_law_draw", defArgs st__law_draw, defBody st__law_draw, defScope st__law_draw, [], []⟩
def dd__law_one : He.DefD := ⟨("_law_one", none), "_law_one", "_law_one", defArgs st__law_one, defBody st__law_one, defScope st__law_one, [], []⟩
def dd__law_sets : He.DefD := ⟨("_law_sets", none), "_law_sets", "_law_sets", defArgs st__law_sets, defBody st__law_sets, defScope st__law_sets, [], []⟩
def dd__law_bad : He.DefD := ⟨("_law_bad", none), "_law_bad", "_law_bad", defArgs st__law_bad, defBody st__law_bad, defScope st__law_bad, [], []⟩
def dd__law_told : He.DefD := ⟨("_law_told", none), "_law_told", "_law_told", defArgs st__law_told, defBody st__law_told, defScope st__law_told, [], []⟩
def dd__law_meets : He.DefD := ⟨("_law_meets", none), "_law_meets", "_law_meets", defArgs st__law_meets, defBody st__law_meets, defScope st__law_meets, [], []⟩
def dd_is_text : He.DefD := ⟨("is_text", none), "is_text", "is_text", defArgs st_is_text, defBody st_is_text, defScope st_is_text, [], []⟩
def dd_is_sequence : He.DefD := ⟨("is_sequence", none), "is_sequence", "is_sequence", defArgs st_is_sequence, defBody st_is_sequence, defScope st_is_sequence, [], []⟩
def dd_is_letter_of : He.DefD := ⟨("is_letter_of", none), "is_letter_of", "is_letter_of", defArgs st_is_letter_of, defBody st_is_letter_of, defScope st_is_letter_of, [], []⟩
def dd_kinds_of : He.DefD := ⟨("kinds_of", none), "kinds_of", "kinds_of", defArgs st_kinds_of, defBody st_kinds_of, defScope st_kinds_of, [], []⟩
def dd_sets_of : He.DefD := ⟨("sets_of", none), "sets_of", "sets_of", defArgs st_sets_of, defBody st_sets_of, defScope st_sets_of, [], []⟩
def dd_kind_sets : He.DefD := ⟨("kind_sets", none), "kind_sets", "kind_sets", defArgs st_kind_sets, defBody st_kind_sets, defScope st_kind_sets, [], []⟩
def dd_lesser_sets : He.DefD := ⟨("lesser_sets", none), "lesser_sets", "lesser_sets", defArgs st_lesser_sets, defBody st_lesser_sets, defScope st_lesser_sets, [], []⟩
def dd_meeting_sets : He.DefD := ⟨("meeting_sets", none), "meeting_sets", "meeting_sets", defArgs st_meeting_sets, defBody st_meeting_sets, defScope st_meeting_sets, [], []⟩
def dd_complement_sets : He.DefD := ⟨("complement_sets", none), "complement_sets", "complement_sets", defArgs st_complement_sets, defBody st_complement_sets, defScope st_complement_sets, [], []⟩
def dd__law_answer : He.DefD := ⟨("_law_answer", none), "_law_answer", "_law_answer", defArgs st__law_answer, defBody st__law_answer, defScope st__law_answer, [], []⟩
def dd__law_in : He.DefD := ⟨("_law_in", none), "_law_in", "_law_in", defArgs st__law_in, defBody st__law_in, defScope st__law_in, [], []⟩
def dd_law : He.DefD := ⟨("law", none), "law", "law", defArgs st_law, defBody st_law, defScope st_law, [], []⟩
def dx_NoLetter : ExD := ⟨"NoLetter", pw.main.file, "letter", "NoLetter.__init__", defArgs sx_NoLetter, defBody sx_NoLetter, defScope sx_NoLetter, bmK, "LookupError.__new__", "KeyError", "KeyError.__init__"⟩
def fnl : List He.DefD := [dd__law_well, dd__law_draw, dd__law_one, dd__law_sets, dd__law_bad, dd__law_told, dd__law_meets, dd_is_text, dd_is_sequence, dd_is_letter_of, dd_kinds_of, dd_sets_of, dd_kind_sets, dd_lesser_sets, dd_meeting_sets, dd_complement_sets, dd__law_answer, dd__law_in, dd_law]
def fal : List He.Fa := [.glo "_law_answer", .glo "_law_bad", .glo "_law_draw", .glo "_law_in", .glo "_law_meets", .glo "_law_one", .glo "_law_sets", .glo "_law_told", .glo "_law_well", .glo "complement_sets", .glo "is_letter_of", .glo "is_sequence", .glo "is_text", .glo "kind_sets", .glo "kinds_of", .glo "lesser_sets", .glo "meeting_sets", .glo "sets_of", .glo "NoLetter", .glo "RuelessError", .str "KINDS" "abcd", .free "abs", .free "all", .free "any", .free "int", .free "isinstance", .free "len", .free "list", .free "range", .free "repr", .free "sorted", .free "str", .free "super", .free "tuple", .glo "law"]
def xsl : List ExD := [dx_NoLetter]
def exl (K : PySem.W.Frag) : Bool := tabB (cf K) tyl && (exlB (cf K) Tb.exc && (exmB (cf K) [(1, true)] 1 && (xflB (cf K) [1] "letter")))
abbrev hkl : PySem.W.Hook := hookZ 5 fal fnl xsl exl
def obl (s : PySem.W.SharedT) : AlZ := obsZG 5 fal fnl xsl exl (HandSHeadRun.getT s)
theorem obl_eq (s : PySem.W.SharedT) : obl s = hkl.obs s.abs := obsZG_eq (HandSHeadRun.getT_eq s)
abbrev lsl : List Str := ["KINDS", "RuelessError", "NoLetter", "is_text", "is_sequence", "is_letter_of", "kinds_of", "kind_sets", "lesser_sets", "sets_of", "complement_sets", "meeting_sets", "_law_well", "_law_draw", "_law_one", "_law_sets", "_law_in", "_law_told", "_law_meets", "_law_answer", "_law_bad"]
theorem run (w : World) : HandSHeadRun.RunEq Rw.row (PySem.W.view Rw.row.prog [25]) hkl obl 3000 lsl w := by
  intro os
  kernel_rfl
section
variable {K : PySem.W.Frag} {h : Heap} {mg : Str → Option Value}
theorem facts (X : K.In h) (G : h.Ns mainGlobals mg) (c : SaysZ fal fnl xsl exl K) : Wd pw (cf K) mg := by
  have e0 := c.all.2.2.2
  obtain ⟨e_tab, e0⟩ := He.ba e0
  obtain ⟨e_exc, e0⟩ := He.ba e0
  obtain ⟨e_ct__law_answer_0, e0⟩ := He.ba e0
  have e_xf_letter := e0
  exact {
    d__law_well := c.def_ 0 (d := dd__law_well) rfl
    d__law_draw := c.def_ 1 (d := dd__law_draw) rfl
    d__law_one := c.def_ 2 (d := dd__law_one) rfl
    d__law_sets := c.def_ 3 (d := dd__law_sets) rfl
    d__law_bad := c.def_ 4 (d := dd__law_bad) rfl
    d__law_told := c.def_ 5 (d := dd__law_told) rfl
    d__law_meets := c.def_ 6 (d := dd__law_meets) rfl
    d_is_text := c.def_ 7 (d := dd_is_text) rfl
    d_is_sequence := c.def_ 8 (d := dd_is_sequence) rfl
    d_is_letter_of := c.def_ 9 (d := dd_is_letter_of) rfl
    d_kinds_of := c.def_ 10 (d := dd_kinds_of) rfl
    d_sets_of := c.def_ 11 (d := dd_sets_of) rfl
    d_kind_sets := c.def_ 12 (d := dd_kind_sets) rfl
    d_lesser_sets := c.def_ 13 (d := dd_lesser_sets) rfl
    d_meeting_sets := c.def_ 14 (d := dd_meeting_sets) rfl
    d_complement_sets := c.def_ 15 (d := dd_complement_sets) rfl
    d__law_answer := c.def_ 16 (d := dd__law_answer) rfl
    d__law_in := c.def_ 17 (d := dd__law_in) rfl
    d_law := c.def_ 18 (d := dd_law) rfl
    g__law_answer := He.glo_ok X G (c.fact 0 (f := .glo "_law_answer") rfl)
    g__law_bad := He.glo_ok X G (c.fact 1 (f := .glo "_law_bad") rfl)
    g__law_draw := He.glo_ok X G (c.fact 2 (f := .glo "_law_draw") rfl)
    g__law_in := He.glo_ok X G (c.fact 3 (f := .glo "_law_in") rfl)
    g__law_meets := He.glo_ok X G (c.fact 4 (f := .glo "_law_meets") rfl)
    g__law_one := He.glo_ok X G (c.fact 5 (f := .glo "_law_one") rfl)
    g__law_sets := He.glo_ok X G (c.fact 6 (f := .glo "_law_sets") rfl)
    g__law_told := He.glo_ok X G (c.fact 7 (f := .glo "_law_told") rfl)
    g__law_well := He.glo_ok X G (c.fact 8 (f := .glo "_law_well") rfl)
    g_complement_sets := He.glo_ok X G (c.fact 9 (f := .glo "complement_sets") rfl)
    g_is_letter_of := He.glo_ok X G (c.fact 10 (f := .glo "is_letter_of") rfl)
    g_is_sequence := He.glo_ok X G (c.fact 11 (f := .glo "is_sequence") rfl)
    g_is_text := He.glo_ok X G (c.fact 12 (f := .glo "is_text") rfl)
    g_kind_sets := He.glo_ok X G (c.fact 13 (f := .glo "kind_sets") rfl)
    g_kinds_of := He.glo_ok X G (c.fact 14 (f := .glo "kinds_of") rfl)
    g_lesser_sets := He.glo_ok X G (c.fact 15 (f := .glo "lesser_sets") rfl)
    g_meeting_sets := He.glo_ok X G (c.fact 16 (f := .glo "meeting_sets") rfl)
    g_sets_of := He.glo_ok X G (c.fact 17 (f := .glo "sets_of") rfl)
    g_NoLetter := He.glo_ok X G (c.fact 18 (f := .glo "NoLetter") rfl)
    g_RuelessError := He.glo_ok X G (c.fact 19 (f := .glo "RuelessError") rfl)
    g_KINDS := He.str_ok X G (c.fact 20 (f := .str "KINDS" "abcd") rfl)
    n_abs := He.free_ok X G (c.fact 21 (f := .free "abs") rfl)
    n_all := He.free_ok X G (c.fact 22 (f := .free "all") rfl)
    n_any := He.free_ok X G (c.fact 23 (f := .free "any") rfl)
    n_int := He.free_ok X G (c.fact 24 (f := .free "int") rfl)
    n_isinstance := He.free_ok X G (c.fact 25 (f := .free "isinstance") rfl)
    n_len := He.free_ok X G (c.fact 26 (f := .free "len") rfl)
    n_list := He.free_ok X G (c.fact 27 (f := .free "list") rfl)
    n_range := He.free_ok X G (c.fact 28 (f := .free "range") rfl)
    n_repr := He.free_ok X G (c.fact 29 (f := .free "repr") rfl)
    n_sorted := He.free_ok X G (c.fact 30 (f := .free "sorted") rfl)
    n_str := He.free_ok X G (c.fact 31 (f := .free "str") rfl)
    n_super := He.free_ok X G (c.fact 32 (f := .free "super") rfl)
    n_tuple := He.free_ok X G (c.fact 33 (f := .free "tuple") rfl)
    tab := ⟨tabB_ok e_tab, fun k hk => (by cases hk), exlB_ok e_exc⟩
    x_NoLetter := let z := c.exc 0 (d := dx_NoLetter) rfl
      ExD.ext (d := dx_NoLetter) (par := "letter") z.1 z.2 rfl rfl ⟨rfl, rfl, rfl, by decide +kernel, rfl, rfl, rfl, rfl, by decide +kernel, by decide +kernel⟩ rfl (by intros; rfl)
    top := by kernel_rfl
    ct__law_answer_0 := exmB_ok e_ct__law_answer_0
    xf_letter := xflB_ok e_xf_letter }
end
def LawTrue : Prop := ∀ ns : List Int, ns.length ≤ 63 → ∃ outs, F_law [.val (.lst (ns.map .int))] = .ok (.val (.bl true)) outs
theorem whole (plain : LawTrue) : Rw.Holds := by
  w_on; o_law
  refine HandSHeadRun.head_any (r := Rw.row) (q := PySem.W.view Rw.row.prog [25]) (H := hkl) (ob := obl) (M := 3000) (loose := lsl) (d := HandSHeadRun.topDef Rw.row.prog 25) (kwd := []) obl_eq
    (by kernel_rfl) (fun s => by kernel_rfl) run (by kernel_rfl) (by kernel_rfl) (by kernel_rfl) (by rfl) (by first | assumption | decide +kernel) (by decide +kernel) ⟨rfl, rfl, rfl, rfl, rfl, by decide +kernel⟩ ?hw ?hc
  case hw => w_witness2
  case hc =>
    refine walk_ofZ (l := Rw) (n := 63) (k := 7) (x := "script") rfl (by rw [sizeLine_eq]; decide) (by kernel_rfl) ⟨rfl, by decide, by decide⟩ ?F (fun _ _ _ _ _ ⟨_, _, _, _, _, _, _, _, _, _, _, _, z⟩ => z)
    intro w mg fa h Y G hmg0
    obtain ⟨K, KX, c⟩ := Y
    have hmg : mg ("law" : Str) = some (.ref fa) := by
      have e : (HandSHeadRun.topDef Rw.row.prog 25).name = ("law" : Str) := by kernel_rfl
      rw [← e]
      exact hmg0
    have W := facts KX G c
    have e := hmg.symm.trans (He.glo_ok KX G (c.fact 34 (f := .glo "law") rfl))
    cases e
    obtain ⟨fd, F⟩ := W.d_law
    have b := FunD.bindsA (ps := ["script"]) F fun _ _ _ _ _ _ us hl => match us, hl with | [_], _ => rfl
    exact ⟨cf K, fd, F_law, KX, fun s v => b s [v] rfl, plain, fun base _ _ => ok_law W F⟩
end K65

theorem PySem.Challenge.cw_rueless_k65_least_sets_that_meet_holds : PySem.Challenge.rw_rueless_k65_least_sets_that_meet.Holds := by
  exact K65.whole K65.law_true
