import PyProof.Rows.All
import Wide.All
import OpenK.AllK
import Wide.FinOn
import HandS.ForMost
import HandS.ForExc
import HandS.TryMany
import HandS.TryElse
import HandS.ExcInit
import HandS.ExcField
import HandS.Wide
import HandS.EndBits
import HandS.More
import HandS.Conv
import HandS.TupAny
import HandS.TupSets
import HandS.IsInst
import HandS.SortInts
import HandS.Zip
import HandS.Defaults
import PySem.Challenge.RW_reusewise_k70_boxes_made
set_option Elab.async false
set_option linter.all false
set_option maxRecDepth 100000
/-! Ev0: the data of the little machine that the defs are shown to follow. -/
namespace EV
open PySem

/-- a value: tuples are trees, lists, dicts, instances stand in the memory -/
inductive Val where
  | non
  | bl (b : Bool)
  | int (i : Int)
  | str (s : Str)
  | tup (xs : List Val)
  | frl (xs : List Val)
  | ref (n : Nat)
  | exn (c : Nat) (xs : List Val)
  deriving Inhabited

mutual
def Val.same : Val → Val → Bool
  | .non, .non => true
  | .bl a, .bl b => a == b
  | .int a, .int b => a == b
  | .str a, .str b => decide (a = b)
  | .tup a, .tup b => Val.sames a b
  | .frl a, .frl b => Val.sames a b
  | .ref a, .ref b => a == b
  | .exn c a, .exn d b => c == d && Val.sames a b
  | _, _ => false
def Val.sames : List Val → List Val → Bool
  | [], [] => true
  | a :: r, b :: t => Val.same a b && Val.sames r t
  | _, _ => false
end
mutual
theorem Val.same_refl : ∀ a : Val, Val.same a a = true
  | .non => rfl
  | .bl a => by simp [Val.same]
  | .int a => by simp [Val.same]
  | .str a => by simp [Val.same]
  | .tup a => by simpa [Val.same] using Val.sames_refl a
  | .frl a => by simpa [Val.same] using Val.sames_refl a
  | .ref a => by simp [Val.same]
  | .exn c a => by simpa [Val.same] using Val.sames_refl a
theorem Val.sames_refl : ∀ a : List Val, Val.sames a a = true
  | [] => rfl
  | a :: r => by simp [Val.sames, Val.same_refl a, Val.sames_refl r]
end
mutual
theorem Val.same_eq : ∀ a b : Val, Val.same a b = true → a = b
  | .non, b, h => by cases b <;> first | rfl | simp [Val.same] at h
  | .bl a, b, h => by cases b <;> simp_all [Val.same]
  | .int a, b, h => by cases b <;> simp_all [Val.same]
  | .str a, b, h => by cases b <;> simp_all [Val.same]
  | .tup a, b, h => by
    cases b with
    | tup c => simp only [Val.same] at h; rw [Val.sames_eq a c h]
    | _ => simp [Val.same] at h
  | .frl a, b, h => by
    cases b with
    | frl c => simp only [Val.same] at h; rw [Val.sames_eq a c h]
    | _ => simp [Val.same] at h
  | .ref a, b, h => by cases b <;> simp_all [Val.same]
  | .exn c a, b, h => by
    cases b with
    | exn d e => simp only [Val.same, Bool.and_eq_true, beq_iff_eq] at h; rw [Val.sames_eq a e h.2, h.1]
    | _ => simp [Val.same] at h
theorem Val.sames_eq : ∀ a b : List Val, Val.sames a b = true → a = b
  | [], b, h => by cases b <;> simp_all [Val.sames]
  | a :: r, b, h => by
    cases b with
    | nil => simp [Val.sames] at h
    | cons c t =>
      simp only [Val.sames, Bool.and_eq_true] at h
      rw [Val.same_eq a c h.1, Val.sames_eq r t h.2]
end
instance : DecidableEq Val := fun a b => if h : Val.same a b = true then .isTrue (Val.same_eq a b h) else .isFalse fun e => h (by rw [e]; exact Val.same_refl b)

abbrev Key := Sum Int Str
inductive Ob where
  | lst (xs : List Val)
  | dct (kvs : List (Key × Val))
  | dtt (kvs : List (List Key × Val))
  | ins (c : Nat) (fs : List (Nat × Val))
  deriving DecidableEq, Inhabited
abbrev Mem := List Ob
abbrev Sg := List (Option Val)

/-! ### results -/
inductive Res (α : Type) where
  | ok (a : α) (h : Mem)
  | ex (c : Nat) (xs : List Val) (h : Mem)
abbrev M (α : Type) := Mem → Option (Res α)
inductive Out where
  | nx (σ : Sg) (h : Mem)
  | rt (v : Val) (h : Mem)
  | ex (c : Nat) (xs : List Val) (σ : Sg) (h : Mem)
abbrev SM := Sg → Mem → Option Out
abbrev EM := Sg → M Val
def mRet {α : Type} (a : α) : M α := fun h => some (.ok a h)
def mBad {α : Type} : M α := fun _ => none
def mBind {α β : Type} (m : M α) (k : α → M β) : M β := fun h =>
  match m h with
  | none => none
  | some (.ok a h') => k a h'
  | some (.ex c xs h') => some (.ex c xs h')
def mOpt {α : Type} : Option α → M α
  | none => mBad
  | some a => mRet a

end EV

/-! Ev1: how the little machine's memory lies in the abstract heap. -/
namespace EV
open PySem PySem.Spec PyProof.Rows L2

/-- the names behind the numbers: classes, fields, an exception's fields in their order -/
structure Tabs where
  cls : Nat → Addr
  xcl : Nat → Addr
  fnm : Nat → Str
  nf : Nat
  exf : Nat → List Str

/-- a list that never changes -/
def SqZ (K : PySem.W.Frag) (H : Hp) (a : Addr) (xs : List V) : Prop :=
  (∃ o, H a = some (.frz o (.lst xs))) ∨
    ∃ (o : Obj) (its : Array Value) (n : Nat), K.lookup a = some o ∧ o.cls = .type "list" ∧ o.dict = none ∧ o.data = .seq its n ∧ its.size ≤ sizeLine ∧ Vals xs its.toList
theorem SqZ.sq {K : PySem.W.Frag} {H : Hp} {a : Addr} {xs : List V} (h : SqZ K H a xs) : SqL K H a xs := by
  rcases h with ⟨o, h⟩ | h
  · exact .inl (.inr ⟨o, h⟩)
  · exact .inr h

section
variable (K : PySem.W.Frag) (T : Tabs)
mutual
def VR (ρ : List Addr) (H : Hp) : Val → V → Prop
  | .non, x => x = .non
  | .bl b, x => x = .bl b
  | .int i, x => x = .int i
  | .str s, x => x = .str s
  | .tup xs, x => ∃ a vs, x = .ref a ∧ SqT K H a vs ∧ VRs ρ H xs vs
  | .frl xs, x => ∃ a vs, x = .ref a ∧ SqZ K H a vs ∧ VRs ρ H xs vs
  | .ref n, x => ∃ a, ρ[n]? = some a ∧ x = .ref a
  | .exn _ _, _ => False
def VRs (ρ : List Addr) (H : Hp) : List Val → List V → Prop
  | [], vs => vs = []
  | v :: xs, vs => ∃ x r, vs = x :: r ∧ VR ρ H v x ∧ VRs ρ H xs r
end

inductive FR (ρ : List Addr) (H : Hp) : List (Nat × Val) → List (Str × V) → Prop
  | nil : FR ρ H [] []
  | cons {k : Nat} {v : Val} {x : V} {r : List (Nat × Val)} {t : List (Str × V)} : k < T.nf → VR K ρ H v x → FR ρ H r t → FR ρ H ((k, v) :: r) ((T.fnm k, x) :: t)
inductive DR {κ : Type} (ρ : List Addr) (H : Hp) : List (κ × Val) → List (κ × V) → Prop
  | nil : DR ρ H [] []
  | cons {k : κ} {v : Val} {x : V} {r : List (κ × Val)} {t : List (κ × V)} : VR K ρ H v x → DR ρ H r t → DR ρ H ((k, v) :: r) ((k, x) :: t)

def OR (ρ : List Addr) (H : Hp) (a : Addr) : Ob → Prop
  | .lst xs => ∃ vs, H a = some (.lst vs) ∧ VRs K ρ H xs vs
  | .dct kvs => ∃ kvs', H a = some (.dK kvs') ∧ DR K ρ H kvs kvs'
  | .dtt kvs => ∃ kvs', H a = some (.dT kvs') ∧ DR K ρ H kvs kvs'
  | .ins c fs => ∃ dx fs', H a = some (.ins (T.cls c) dx fs') ∧ FR K T ρ H fs fs'

structure R (ρ : List Addr) (h : Mem) (H : Hp) : Prop where
  len : ρ.length = h.length
  nd : ρ.Nodup
  ob : ∀ (i : Nat) (o : Ob), h[i]? = some o → ∃ a, ρ[i]? = some a ∧ OR K T ρ H a o

structure Ext0 (ρ : List Addr) (H : Hp) (ρ' : List Addr) (H' : Hp) : Prop where
  pre : ∀ (i : Nat) (a : Addr), ρ[i]? = some a → ρ'[i]? = some a
  tup : ∀ a xs, SqT K H a xs → SqT K H' a xs
  frz : ∀ a xs, SqZ K H a xs → SqZ K H' a xs
structure Ext (ρ : List Addr) (H : Hp) (ρ' : List Addr) (H' : Hp) : Prop where
  pre : ∀ (i : Nat) (a : Addr), ρ[i]? = some a → ρ'[i]? = some a
  tup : ∀ a xs, SqT K H a xs → SqT K H' a xs
  frz : ∀ a xs, SqZ K H a xs → SqZ K H' a xs
  xd : ∀ a fs, H a = some (.xd fs) → H' a = some (.xd fs)
  nw : ∀ a, a ∈ ρ' → a ∈ ρ ∨ H a = none
  fr : ∀ a o, H a = some o → a ∉ ρ → H' a = some o
end

section
variable {K : PySem.W.Frag} {T : Tabs} {ρ ρ' ρ'' : List Addr} {H H' H'' : Hp} {h h' : Mem}
theorem Ext.refl : Ext K ρ H ρ H := ⟨fun _ _ e => e, fun _ _ e => e, fun _ _ e => e, fun _ _ e => e, fun _ h => .inl h, fun _ _ e _ => e⟩
theorem Ext.trans (a : Ext K ρ H ρ' H') (b : Ext K ρ' H' ρ'' H'') : Ext K ρ H ρ'' H'' where
  pre := fun i x e => b.pre i x (a.pre i x e)
  tup := fun p xs e => b.tup p xs (a.tup p xs e)
  frz := fun p xs e => b.frz p xs (a.frz p xs e)
  xd := fun p fs e => b.xd p fs (a.xd p fs e)
  nw := fun p hp => by
    rcases b.nw p hp with h | h
    · exact a.nw p h
    · by_cases hm : p ∈ ρ
      · exact .inl hm
      · right
        cases e : H p with
        | none => rfl
        | some o => rw [a.fr p o e hm] at h; cases h
  fr := fun p o e n => b.fr p o (a.fr p o e n) fun hp => (a.nw p hp).elim n fun z => by rw [e] at z; cases z

mutual
theorem VR.ext0 (x : Ext0 K ρ H ρ' H') : ∀ {v : Val} {u : V}, VR K ρ H v u → VR K ρ' H' v u
  | .non, _, e => e
  | .bl _, _, e => e
  | .int _, _, e => e
  | .str _, _, e => e
  | .tup _, _, ⟨a, vs, e, s, r⟩ => ⟨a, vs, e, x.tup _ _ s, VRs.ext0 x r⟩
  | .frl _, _, ⟨a, vs, e, s, r⟩ => ⟨a, vs, e, x.frz _ _ s, VRs.ext0 x r⟩
  | .ref _, _, ⟨a, e, r⟩ => ⟨a, x.pre _ _ e, r⟩
  | .exn _ _, _, e => e.elim
theorem VRs.ext0 (x : Ext0 K ρ H ρ' H') : ∀ {v : List Val} {u : List V}, VRs K ρ H v u → VRs K ρ' H' v u
  | [], _, e => e
  | _ :: _, _, ⟨y, r, e, s, t⟩ => ⟨y, r, e, VR.ext0 x s, VRs.ext0 x t⟩
end
theorem FR.ext0 (x : Ext0 K ρ H ρ' H') {fs : List (Nat × Val)} {gs : List (Str × V)} (f : FR K T ρ H fs gs) : FR K T ρ' H' fs gs := by
  induction f with
  | nil => exact .nil
  | cons hk v _ ih => exact .cons hk (v.ext0 x) ih
theorem DR.ext0 {κ : Type} (x : Ext0 K ρ H ρ' H') {fs : List (κ × Val)} {gs : List (κ × V)} (f : DR K ρ H fs gs) : DR K ρ' H' fs gs := by
  induction f with
  | nil => exact .nil
  | cons v _ ih => exact .cons (v.ext0 x) ih
theorem Ext.to0 (x : Ext K ρ H ρ' H') : Ext0 K ρ H ρ' H' := ⟨x.pre, x.tup, x.frz⟩
theorem VR.ext {v : Val} {u : V} (q : VR K ρ H v u) (x : Ext K ρ H ρ' H') : VR K ρ' H' v u := VR.ext0 x.to0 q
theorem VRs.ext {v : List Val} {u : List V} (q : VRs K ρ H v u) (x : Ext K ρ H ρ' H') : VRs K ρ' H' v u := VRs.ext0 x.to0 q
theorem FR.ext {fs : List (Nat × Val)} {gs : List (Str × V)} (f : FR K T ρ H fs gs) (x : Ext K ρ H ρ' H') : FR K T ρ' H' fs gs := FR.ext0 x.to0 f
theorem DR.ext {κ : Type} {fs : List (κ × Val)} {gs : List (κ × V)} (f : DR K ρ H fs gs) (x : Ext K ρ H ρ' H') : DR K ρ' H' fs gs := DR.ext0 x.to0 f
theorem VRs.length : ∀ {xs : List Val} {vs : List V}, VRs K ρ H xs vs → xs.length = vs.length
  | [], _, e => by cases e; rfl
  | _ :: _, _, ⟨_, _, e, _, t⟩ => by subst e; simp [VRs.length t]
theorem VRs.get : ∀ {xs : List Val} {vs : List V} {i : Nat} {v : Val}, VRs K ρ H xs vs → xs[i]? = some v → ∃ x, vs[i]? = some x ∧ VR K ρ H v x
  | [], _, _, _, _, e => by simp at e
  | _ :: _, _, 0, _, ⟨x, r, e, s, t⟩, q => by subst e; simp at q; subst q; exact ⟨x, by simp, s⟩
  | _ :: _, _, i + 1, _, ⟨x, r, e, s, t⟩, q => by
    subst e
    obtain ⟨y, e1, e2⟩ := VRs.get (i := i) t (by simpa using q)
    exact ⟨y, by simpa using e1, e2⟩
theorem VRs.append : ∀ {xs ys : List Val} {vs ws : List V}, VRs K ρ H xs vs → VRs K ρ H ys ws → VRs K ρ H (xs ++ ys) (vs ++ ws)
  | [], _, _, _, e, b => by cases e; exact b
  | _ :: _, _, _, _, ⟨x, r, e, s, t⟩, b => by subst e; exact ⟨x, r ++ _, rfl, s, VRs.append t b⟩
theorem VRs.one {v : Val} {x : V} (r : VR K ρ H v x) : VRs K ρ H [v] [x] := ⟨x, [], rfl, r, rfl⟩
theorem VRs.set {v : Val} {x : V} (r : VR K ρ H v x) : ∀ {xs : List Val} {vs : List V} (i : Nat), VRs K ρ H xs vs → VRs K ρ H (xs.set i v) (vs.set i x)
  | [], _, _, e => by cases e; exact rfl
  | _ :: _, _, 0, ⟨y, t, e, s, q⟩ => by subst e; exact ⟨x, t, rfl, r, q⟩
  | _ :: _, _, i + 1, ⟨y, t, e, s, q⟩ => by subst e; exact ⟨y, _, rfl, s, VRs.set r i q⟩
theorem VRs.drop : ∀ {xs : List Val} {vs : List V} (n : Nat), VRs K ρ H xs vs → VRs K ρ H (xs.drop n) (vs.drop n)
  | _, _, 0, e => e
  | [], _, _ + 1, e => by cases e; exact rfl
  | _ :: _, _, n + 1, ⟨y, t, e, s, q⟩ => by subst e; exact VRs.drop n q
theorem VRs.take : ∀ {xs : List Val} {vs : List V} (n : Nat), VRs K ρ H xs vs → VRs K ρ H (xs.take n) (vs.take n)
  | _, _, 0, e => rfl
  | [], _, _ + 1, e => by cases e; exact rfl
  | _ :: _, _, n + 1, ⟨y, t, e, s, q⟩ => by subst e; exact ⟨y, t.take n, rfl, s, VRs.take n q⟩
theorem VRs.dropLast {xs : List Val} {vs : List V} (r : VRs K ρ H xs vs) : VRs K ρ H xs.dropLast vs.dropLast := by
  rw [List.dropLast_eq_take, List.dropLast_eq_take, r.length]; exact r.take _
theorem VRs.reverse : ∀ {xs : List Val} {vs : List V}, VRs K ρ H xs vs → VRs K ρ H xs.reverse vs.reverse
  | [], _, e => by cases e; exact rfl
  | _ :: _, _, ⟨y, t, e, s, q⟩ => by subst e; simp only [List.reverse_cons]; exact (VRs.reverse q).append (.one s)
theorem VRs.eraseIdx : ∀ {xs : List Val} {vs : List V} (i : Nat), VRs K ρ H xs vs → VRs K ρ H (xs.eraseIdx i) (vs.eraseIdx i)
  | [], _, _, e => by cases e; exact rfl
  | _ :: _, _, 0, ⟨y, t, e, s, q⟩ => by subst e; exact q
  | _ :: _, _, i + 1, ⟨y, t, e, s, q⟩ => by subst e; exact ⟨y, _, rfl, s, VRs.eraseIdx i q⟩
theorem DR.length {κ : Type} {fs : List (κ × Val)} {gs : List (κ × V)} (f : DR K ρ H fs gs) : fs.length = gs.length := by
  induction f with
  | nil => rfl
  | cons _ _ ih => simp [ih]
theorem FR.length {fs : List (Nat × Val)} {gs : List (Str × V)} (f : FR K T ρ H fs gs) : fs.length = gs.length := by
  induction f with
  | nil => rfl
  | cons _ _ _ ih => simp [ih]
/-- ints, strs stand for themselves -/
theorem VRs.ints : ∀ {ns : List Int} {vs : List V}, VRs K ρ H (ns.map .int) vs → vs = ns.map V.int
  | [], _, e => e
  | _ :: _, _, ⟨y, t, e, s, q⟩ => by subst e; cases s; rw [VRs.ints q]; rfl
theorem VRs.of_ints : ∀ {ns : List Int}, VRs K ρ H (ns.map .int) (ns.map V.int)
  | [] => rfl
  | _ :: _ => ⟨_, _, rfl, rfl, VRs.of_ints⟩

/-! ### the abstract heap changes -/
theorem SqT_side {a p : Addr} {xs : List V} {o : HO} (n : H p = none) (e : SqT K H a xs) : SqT K (upd H p o) a xs := by
  rcases e with (e | ⟨ob, e⟩) | e
  · exact .inl (.inl (by rw [upd_ne (ne_of_none e n)]; exact e))
  · exact .inl (.inr ⟨ob, by rw [upd_ne (ne_of_none e n)]; exact e⟩)
  · exact .inr e
theorem SqZ.side {a p : Addr} {xs : List V} {o : HO} (n : H p = none) (e : SqZ K H a xs) : SqZ K (upd H p o) a xs := by
  rcases e with ⟨ob, e⟩ | e
  · exact .inl ⟨ob, by rw [upd_ne (ne_of_none e n)]; exact e⟩
  · exact .inr e
/-- something new at p -/
theorem Ext.side {p : Addr} {o : HO} (n : H p = none) : Ext K ρ H ρ (upd H p o) :=
  ⟨fun _ _ e => e, fun _ _ e => SqT_side n e, fun _ _ e => SqZ.side n e, fun a fs e => by rw [upd_ne (ne_of_none e n)]; exact e, fun _ h => .inl h, fun a o e _ => by rw [upd_ne (ne_of_none e n)]; exact e⟩
theorem Ext.grow {p : Addr} (n : H p = none) (x : Ext K ρ H ρ H') : Ext K ρ H (ρ ++ [p]) H' :=
  ⟨fun i a e => by rw [List.getElem?_append_left (List.getElem?_eq_some_iff.mp e).1]; exact x.pre i a e, x.tup, x.frz, x.xd, fun a h => by
    rcases List.mem_append.mp h with h | h
    · exact .inl h
    · right; simp at h; subst h; exact n, x.fr⟩
/-- what may be written over -/
def Chg : HO → Prop
  | .lst _ => True
  | .dK _ => True
  | .dT _ => True
  | .ins _ _ _ => True
  | _ => False
theorem Ext.write {a : Addr} {o u : HO} (hm : a ∈ ρ) (e : H a = some u) (c : Chg u) : Ext K ρ H ρ (upd H a o) := by
  have k : ∀ b x, H b = some x → ¬ Chg x → b ≠ a := fun b x q nc z => by subst z; rw [e] at q; cases q; exact nc c
  refine ⟨fun _ _ e => e, fun b xs q => ?_, fun b xs q => ?_, fun b fs q => ?_, fun _ h => .inl h, fun b o' q n => by rw [upd_ne fun z => n (by rw [z]; exact hm)]; exact q⟩
  · rcases q with (q | ⟨ob, q⟩) | q
    · exact .inl (.inl (by rw [upd_ne (k _ _ q fun z => z)]; exact q))
    · exact .inl (.inr ⟨ob, by rw [upd_ne (k _ _ q fun z => z)]; exact q⟩)
    · exact .inr q
  · rcases q with ⟨ob, q⟩ | q
    · exact .inl ⟨ob, by rw [upd_ne (k _ _ q fun z => z)]; exact q⟩
    · exact .inr q
  · rw [upd_ne (k _ _ q fun z => z)]; exact q
theorem OR.at {a : Addr} {o : Ob} (r : OR K T ρ H a o) : ∃ u, H a = some u ∧ Chg u := by
  cases o with
  | lst xs => obtain ⟨vs, e, _⟩ := r; exact ⟨_, e, trivial⟩
  | dct xs => obtain ⟨vs, e, _⟩ := r; exact ⟨_, e, trivial⟩
  | dtt xs => obtain ⟨vs, e, _⟩ := r; exact ⟨_, e, trivial⟩
  | ins c fs => obtain ⟨dx, gs, e, _⟩ := r; exact ⟨_, e, trivial⟩
theorem OR.ext0 {a : Addr} {o : Ob} (r : OR K T ρ H a o) (x : Ext0 K ρ H ρ' H') (e : H' a = H a) : OR K T ρ' H' a o := by
  cases o with
  | lst xs => obtain ⟨vs, q, s⟩ := r; exact ⟨vs, e.trans q, VRs.ext0 x s⟩
  | dct xs => obtain ⟨vs, q, s⟩ := r; exact ⟨vs, e.trans q, DR.ext0 x s⟩
  | dtt xs => obtain ⟨vs, q, s⟩ := r; exact ⟨vs, e.trans q, DR.ext0 x s⟩
  | ins c fs => obtain ⟨dx, gs, q, s⟩ := r; exact ⟨dx, gs, e.trans q, FR.ext0 x s⟩
theorem OR.ext {a : Addr} {o : Ob} (r : OR K T ρ H a o) (x : Ext K ρ H ρ' H') (e : H' a = H a) : OR K T ρ' H' a o := r.ext0 x.to0 e
theorem R.at (r : R K T ρ h H) {i : Nat} {a : Addr} (e : ρ[i]? = some a) : ∃ o, h[i]? = some o ∧ OR K T ρ H a o := by
  have hi : i < h.length := by rw [← r.len]; exact (List.getElem?_eq_some_iff.mp e).1
  obtain ⟨a', e', q⟩ := r.ob i h[i] (List.getElem?_eq_some_iff.mpr ⟨hi, rfl⟩)
  rw [e] at e'; cases e'
  exact ⟨_, List.getElem?_eq_some_iff.mpr ⟨hi, rfl⟩, q⟩
theorem R.notmem (r : R K T ρ h H) {p : Addr} (n : H p = none) : p ∉ ρ := fun hm => by
  obtain ⟨i, e⟩ := List.getElem?_of_mem hm
  obtain ⟨o, _, q⟩ := r.at e
  obtain ⟨u, e', _⟩ := q.at
  rw [n] at e'; cases e'
theorem R.side (r : R K T ρ h H) {p : Addr} {o : HO} (n : H p = none) : R K T ρ h (upd H p o) :=
  ⟨r.len, r.nd, fun i ob e => by
    obtain ⟨a, e1, q⟩ := r.ob i ob e
    obtain ⟨u, e2, _⟩ := q.at
    exact ⟨a, e1, q.ext (.side n) (upd_ne (ne_of_none e2 n))⟩⟩
theorem R.new (r : R K T ρ h H) {p : Addr} {o : HO} {ob : Ob} (n : H p = none) (q : OR K T (ρ ++ [p]) (upd H p o) p ob) : R K T (ρ ++ [p]) (h ++ [ob]) (upd H p o) := by
  refine ⟨by simp [r.len], List.nodup_append.mpr ⟨r.nd, by simp, fun a ha b hb => ?_⟩, fun i ox e => ?_⟩
  · simp at hb; subst hb; rintro rfl; exact r.notmem n ha
  · by_cases hi : i < h.length
    · rw [List.getElem?_append_left hi] at e
      obtain ⟨a, e1, q1⟩ := r.ob i ox e
      obtain ⟨u, e2, _⟩ := q1.at
      exact ⟨a, by rw [List.getElem?_append_left (by rw [r.len]; exact hi)]; exact e1, q1.ext (Ext.grow n (.side n)) (upd_ne (ne_of_none e2 n))⟩
    · have hl : i = h.length := by
        have := (List.getElem?_eq_some_iff.mp e).1
        simp at this; omega
      subst hl
      simp at e; subst e
      exact ⟨p, by rw [← r.len]; simp, q⟩
theorem R.write (r : R K T ρ h H) {i : Nat} {a : Addr} {o : HO} {ob : Ob} (e : ρ[i]? = some a) (q : OR K T ρ (upd H a o) a ob) : R K T ρ (h.set i ob) (upd H a o) := by
  obtain ⟨o0, e0, q0⟩ := r.at e
  obtain ⟨u, e2, c⟩ := q0.at
  refine ⟨by simp [r.len], r.nd, fun j ox ej => ?_⟩
  by_cases hj : j = i
  · subst hj
    rw [List.getElem?_set_self (List.getElem?_eq_some_iff.mp e0).1] at ej
    cases ej
    exact ⟨a, e, q⟩
  · rw [List.getElem?_set_ne (Ne.symm hj)] at ej
    obtain ⟨b, e1, q1⟩ := r.ob j ox ej
    refine ⟨b, e1, q1.ext (.write (List.mem_of_getElem? e) e2 c) (upd_ne fun z => hj ?_)⟩
    subst z
    obtain ⟨h1, g1⟩ := List.getElem?_eq_some_iff.mp e1
    obtain ⟨h2, g2⟩ := List.getElem?_eq_some_iff.mp e
    exact (List.getElem_inj r.nd).mp (g1.trans g2.symm)
/-- an object that the machine has not is changed -/
theorem Ext0.off {a : Addr} {o u : HO} (e : H a = some u) (c : Chg u) : Ext0 K ρ H ρ (upd H a o) := by
  have k : ∀ b x, H b = some x → ¬ Chg x → b ≠ a := fun b x q nc z => by subst z; rw [e] at q; cases q; exact nc c
  refine ⟨fun _ _ e => e, fun b xs q => ?_, fun b xs q => ?_⟩
  · rcases q with (q | ⟨ob, q⟩) | q
    · exact .inl (.inl (by rw [upd_ne (k _ _ q fun z => z)]; exact q))
    · exact .inl (.inr ⟨ob, by rw [upd_ne (k _ _ q fun z => z)]; exact q⟩)
    · exact .inr q
  · rcases q with ⟨ob, q⟩ | q
    · exact .inl ⟨ob, by rw [upd_ne (k _ _ q fun z => z)]; exact q⟩
    · exact .inr q
theorem R.off (r : R K T ρ h H) {a : Addr} {o u : HO} (n : a ∉ ρ) (e : H a = some u) (c : Chg u) : R K T ρ h (upd H a o) :=
  ⟨r.len, r.nd, fun i ob e1 => by
    obtain ⟨b, e2, q⟩ := r.ob i ob e1
    exact ⟨b, e2, q.ext0 (.off e c) (upd_ne fun z => n (by rw [← z]; exact List.mem_of_getElem? e2))⟩⟩
theorem Ext.over (x : Ext K ρ H ρ' H') {a : Addr} {o u : HO} (n : H a = none) (e : H' a = some u) (c : Chg u) : Ext K ρ H ρ' (upd H' a o) where
  pre := x.pre
  tup := fun b xs q => (Ext0.off (ρ := ρ') e c).tup _ _ (x.tup b xs q)
  frz := fun b xs q => (Ext0.off (ρ := ρ') e c).frz _ _ (x.frz b xs q)
  xd := fun b fs q => by rw [upd_ne (ne_of_none q n)]; exact x.xd b fs q
  nw := x.nw
  fr := fun b ob q nb => by rw [upd_ne (ne_of_none q n)]; exact x.fr b ob q nb
/-- an object that stands already comes to the machine -/
theorem R.take (r : R K T ρ h H) {a : Addr} {ob : Ob} (n : a ∉ ρ) (q : OR K T (ρ ++ [a]) H a ob) : R K T (ρ ++ [a]) (h ++ [ob]) H := by
  have x : Ext0 K ρ H (ρ ++ [a]) H := ⟨fun i b e => by rw [List.getElem?_append_left (List.getElem?_eq_some_iff.mp e).1]; exact e, fun _ _ e => e, fun _ _ e => e⟩
  refine ⟨by simp [r.len], List.nodup_append.mpr ⟨r.nd, by simp, fun b hb c hc => ?_⟩, fun i ox e => ?_⟩
  · simp at hc; subst hc; rintro rfl; exact n hb
  · by_cases hi : i < h.length
    · rw [List.getElem?_append_left hi] at e
      obtain ⟨b, e1, q1⟩ := r.ob i ox e
      exact ⟨b, by rw [List.getElem?_append_left (by rw [r.len]; exact hi)]; exact e1, q1.ext0 x rfl⟩
    · have hl : i = h.length := by
        have := (List.getElem?_eq_some_iff.mp e).1
        simp at this; omega
      subst hl
      simp at e; subst e
      exact ⟨a, by rw [← r.len]; simp, q⟩
theorem Ext.take (x : Ext K ρ H ρ' H') {a : Addr} (n : H a = none) : Ext K ρ H (ρ' ++ [a]) H' where
  pre := fun i b e => by
    have := x.pre i b e
    rw [List.getElem?_append_left (List.getElem?_eq_some_iff.mp this).1]; exact this
  tup := x.tup
  frz := x.frz
  xd := x.xd
  nw := fun b hb => by
    rcases List.mem_append.mp hb with hb | hb
    · exact x.nw b hb
    · simp at hb; subst hb; exact .inr n
  fr := x.fr
theorem Ext.writeAt (r : R K T ρ h H) {i : Nat} {a : Addr} {o : HO} (e : ρ[i]? = some a) : Ext K ρ H ρ (upd H a o) := by
  obtain ⟨o0, e0, q0⟩ := r.at e
  obtain ⟨u, e2, c⟩ := q0.at
  exact .write (List.mem_of_getElem? e) e2 c
end
end EV

/-! Ev2: readings by the little machine; the rules for expressions. -/
namespace EV
open PySem PySem.Spec L2

/-! ### the machine's operations -/
/-- a Bool out of a value -/
def asB : Val → Option Bool
  | .bl b => some b
  | _ => none
def eVar (i : Nat) : EM := fun σ => mOpt ((σ[i]?).join)
def eC (v : Val) : EM := fun _ => mRet v
def eOp2 (op : Val → Val → M Val) (a b : EM) : EM := fun σ => mBind (a σ) fun v => mBind (b σ) fun u => op v u
def eOp1 (op : Val → M Val) (a : EM) : EM := fun σ => mBind (a σ) op
abbrev BM := Sg → M Bool
/-- a value that is a truth, as a test -/
def bV (a : EM) : BM := fun σ => mBind (a σ) fun v => mOpt (asB v)
def bNot (a : BM) : BM := fun σ => mBind (a σ) fun b => mRet (!b)
def bAnd (a b : BM) : BM := fun σ => mBind (a σ) fun c => if c = true then b σ else mRet false
def bOr (a b : BM) : BM := fun σ => mBind (a σ) fun c => if c = true then mRet true else b σ
def eAnd (a b : EM) : EM := fun σ => mBind (a σ) fun v => mBind (mOpt (asB v)) fun c => if c = true then b σ else mRet (.bl false)
def eOr (a b : EM) : EM := fun σ => mBind (a σ) fun v => mBind (mOpt (asB v)) fun c => if c = true then mRet (.bl true) else b σ
def eNot (a : EM) : EM := fun σ => mBind (a σ) fun v => mBind (mOpt (asB v)) fun c => mRet (.bl (!c))
def eIf (c : BM) (a b : EM) : EM := fun σ => mBind (c σ) fun k => if k = true then a σ else b σ
abbrev AM := Sg → M (List Val)
def aNil : AM := fun _ => mRet []
def aCons (a : EM) (r : AM) : AM := fun σ => mBind (a σ) fun v => mBind (r σ) fun vs => mRet (v :: vs)
/-- a new object -/
def mNew (o : Ob) : M Val := fun h => some (.ok (.ref h.length) (h ++ [o]))
def mGet (n : Nat) : M Ob := fun h => match h[n]? with | some o => some (.ok o h) | none => none
def mPut (n : Nat) (o : Ob) : M Unit := fun h => some (.ok () (h.set n o))
def eTup (as : AM) : EM := fun σ => mBind (as σ) fun vs => if vs.length ≤ 1000000 then mRet (.tup vs) else mBad
def eLst (as : AM) : EM := fun σ => mBind (as σ) fun vs => if vs.length ≤ 1000000 then mNew (.lst vs) else mBad
def eFun (f : List Val → M Val) (as : AM) : EM := fun σ => mBind (as σ) f

/-! ### readings -/
section
variable (K : PySem.W.Frag) (T : Tabs)
def XR (ρ : List Addr) (H : Hp) (c : Nat) (xs : List Val) (cv : Value) (d : Option Addr) : Prop :=
  cv = Value.ref (T.xcl c) ∧ (xs = [] ∨ ∃ dd fs, d = some dd ∧ H dd = some (.xd fs) ∧ ∀ (i : Nat) n v, (T.exf c)[i]? = some n → xs[i]? = some v → ∃ x, List.lookup n fs = some x ∧ VR K ρ H v x)
def RS (ρ : List Addr) (H : Hp) (σ : St) (sv : Sg) : Prop := σ.length = sv.length ∧ ∀ (i : Nat) v, sv[i]? = some (some v) → ∃ x, σ[i]? = some (some x) ∧ VR K ρ H v x
def PR {α : Type} (ρ : List Addr) (H : Hp) (E : XK) (Q : α → List Addr → Mem → Hp → Prop) : Option (Res α) → Prop
  | none => False
  | some (.ok a h') => ∀ ρ' H', Ext K ρ H ρ' H' → R K T ρ' h' H' → Q a ρ' h' H'
  | some (.ex c xs h') => ∀ ρ' H' cv d, Ext K ρ H ρ' H' → R K T ρ' h' H' → XR K T ρ' H' c xs cv d → E cv d H'
/-- what is wanted of a value -/
def QV (Q : VK) : Val → List Addr → Mem → Hp → Prop := fun v ρ' _ H' => ∀ x, VR K ρ' H' v x → Q x H'
def QVs (Q : List V → Hp → Prop) : List Val → List Addr → Mem → Hp → Prop := fun v ρ' _ H' => ∀ x, VRs K ρ' H' v x → Q x H'
def QB (Q : Bool → Hp → Prop) : Bool → List Addr → Mem → Hp → Prop := fun b _ _ H' => Q b H'
def tE (W : WX) (m : EM) : TE := fun σ H Q => ∃ sv ρ h, RS K ρ H σ sv ∧ R K T ρ h H ∧ PR K T ρ H (fun c d H' => W c d σ H') (QV K Q) (m sv h)
def tB (W : WX) (m : BM) : TT := fun σ H Q => ∃ sv ρ h, RS K ρ H σ sv ∧ R K T ρ h H ∧ PR K T ρ H (fun c d H' => W c d σ H') (QB Q) (m sv h)
def tA (W : WX) (m : AM) : TA := fun σ H Q => ∃ sv ρ h, RS K ρ H σ sv ∧ R K T ρ h H ∧ PR K T ρ H (fun c d H' => W c d σ H') (QVs K Q) (m sv h)
end

section
variable {K : PySem.W.Frag} {T : Tabs} {ρ ρ' : List Addr} {H H' : Hp} {h : Mem} {E : XK} {W : WX}
theorem RS.ext {σ : St} {sv : Sg} (r : RS K ρ H σ sv) (x : Ext K ρ H ρ' H') : RS K ρ' H' σ sv := ⟨r.1, fun i v e => let ⟨y, e1, e2⟩ := r.2 i v e; ⟨y, e1, e2.ext x⟩⟩
theorem RS.set {σ : St} {sv : Sg} (r : RS K ρ H σ sv) (i : Nat) {v : Val} {x : V} (q : VR K ρ H v x) : RS K ρ H (σ.set i (some x)) (sv.set i (some v)) := by
  refine ⟨by simp [r.1], fun j u e => ?_⟩
  by_cases hj : j = i
  · subst hj
    have hl : j < sv.length := by
      have := (List.getElem?_eq_some_iff.mp e).1
      simpa using this
    rw [List.getElem?_set_self hl] at e
    cases e
    exact ⟨x, by rw [List.getElem?_set_self (by rw [r.1]; exact hl)], q⟩
  · rw [List.getElem?_set_ne (Ne.symm hj)] at e
    rw [List.getElem?_set_ne (Ne.symm hj)]
    exact r.2 j u e
theorem PR.mono {α : Type} {Q Q' : α → List Addr → Mem → Hp → Prop} {r : Option (Res α)} (p : PR K T ρ H E Q r) (q : ∀ a ρ' h' H', Ext K ρ H ρ' H' → R K T ρ' h' H' → Q a ρ' h' H' → Q' a ρ' h' H') : PR K T ρ H E Q' r := by
  match r, p with
  | some (.ok a h'), p => exact fun ρ' H' x r => q a ρ' h' H' x r (p ρ' H' x r)
  | some (.ex c xs h'), p => exact p
theorem PR.ok {α : Type} {Q : α → List Addr → Mem → Hp → Prop} {a : α} (p : PR K T ρ H E Q (some (.ok a h))) (r : R K T ρ h H) : Q a ρ h H := p ρ H .refl r
theorem PR.ext {α : Type} {Q : α → List Addr → Mem → Hp → Prop} {r : Option (Res α)} (p : PR K T ρ H E Q r) (x : Ext K ρ H ρ' H') : PR K T ρ' H' E Q r := by
  match r, p with
  | some (.ok a h'), p => exact fun ρ' H' y r => p ρ' H' (x.trans y) r
  | some (.ex c xs h'), p => exact fun ρ' H' cv d y r => p ρ' H' cv d (x.trans y) r
theorem PR.bind {α β : Type} {m : M α} {k : α → M β} {Q : β → List Addr → Mem → Hp → Prop} (p : PR K T ρ H E Q (mBind m k h)) : PR K T ρ H E (fun a ρ' h' H' => PR K T ρ' H' E Q (k a h')) (m h) := by
  unfold mBind at p
  match e : m h, p with
  | some (.ok a h'), p =>
    have p' : PR K T ρ H E Q (k a h') := p
    exact fun ρ' H' x r => p'.ext x
  | some (.ex c xs h'), p => exact p
theorem PR.bind0 {α β : Type} {m : M α} {k : α → M β} {Q : β → List Addr → Mem → Hp → Prop} (p : PR K T ρ H E Q (mBind m k h)) : PR K T ρ H E (fun a _ h' _ => PR K T ρ H E Q (k a h')) (m h) := by
  unfold mBind at p
  match e : m h, p with
  | some (.ok a h'), p => exact fun ρ' H' x r => p
  | some (.ex c xs h'), p => exact p
theorem PR.bindOpt {α β : Type} {o : Option α} {k : α → M β} {Q : β → List Addr → Mem → Hp → Prop} (p : PR K T ρ H E Q (mBind (mOpt o) k h)) : ∃ a, o = some a ∧ PR K T ρ H E Q (k a h) := by
  cases o with
  | none => exact p.elim
  | some a => exact ⟨a, rfl, p⟩
theorem PR.opt {α : Type} {o : Option α} {Q : α → List Addr → Mem → Hp → Prop} (r : R K T ρ h H) (p : PR K T ρ H E Q (mOpt o h)) : ∃ a, o = some a ∧ Q a ρ h H := by
  cases o with
  | none => exact p.elim
  | some a => exact ⟨a, rfl, p ρ H .refl r⟩
end

section
variable {X : Cx} {T : Tabs} {W : WX} {e a b : Expr} {es : List Expr} {pos : Pos} {m ma mb : EM}
theorem PE.imp {t t' : TE} (p : PE X e t) (h : ∀ σ H Q, t' σ H Q → t σ H Q) : PE X e t' := ⟨fun pins s σ H Q I q => p.run pins s σ H Q I (h _ _ _ q)⟩
theorem PT.imp {t t' : TT} (p : PT X e t) (h : ∀ σ H Q, t' σ H Q → t σ H Q) : PT X e t' := ⟨fun pins s σ H Q I q => p.run pins s σ H Q I (h _ _ _ q)⟩
theorem PW.imp {t t' : TT} (p : PW X e t) (h : ∀ σ H Q, t' σ H Q → t σ H Q) : PW X e t' := ⟨fun wh pins s σ H Q I q => p.run wh pins s σ H Q I (h _ _ _ q)⟩
theorem PA.imp {t t' : TA} (p : PA X es t) (h : ∀ σ H Q, t' σ H Q → t σ H Q) : PA X es t' := ⟨fun ps pins s σ H Q I q => p.run ps pins s σ H Q I (h _ _ _ q)⟩
abbrev SE (X : Cx) (T : Tabs) (W : WX) (e : Expr) (m : EM) : Prop := PE X e (tE X.K T W m)
abbrev ST (X : Cx) (T : Tabs) (W : WX) (e : Expr) (m : BM) : Prop := PT X e (tB X.K T W m)
abbrev SA (X : Cx) (T : Tabs) (W : WX) (es : List Expr) (m : AM) : Prop := PA X es (tA X.K T W m)

/-- behind the first of several: what is left to run, with the first one's value -/
theorem tE.bind {K : PySem.W.Frag} {σ : St} {H : Hp} {Q : VK} {k : Sg → Val → M Val} (p : tE K T W (fun sv => mBind (ma sv) (k sv)) σ H Q) :
    tE K T W ma σ H (fun x H1 => ∃ sv ρ h v, RS K ρ H1 σ sv ∧ R K T ρ h H1 ∧ VR K ρ H1 v x ∧ PR K T ρ H1 (fun c d H' => W c d σ H') (QV K Q) (k sv v h)) := by
  obtain ⟨sv, ρ, h, rs, r, p⟩ := p
  exact ⟨sv, ρ, h, rs, r, p.bind.mono fun v ρ' h' H' x r' p' y q => ⟨sv, ρ', h', v, rs.ext x, r', q, p'⟩⟩
/-- two values, then what is made of them -/
theorem tE.op2 {K : PySem.W.Frag} {σ : St} {H : Hp} {Q : VK} {op : Val → Val → M Val} (p : tE K T W (eOp2 op ma mb) σ H Q) :
    tE K T W ma σ H (fun x H1 => tE K T W mb σ H1 fun y H2 => ∃ ρ h v u, R K T ρ h H2 ∧ VR K ρ H2 v x ∧ VR K ρ H2 u y ∧ PR K T ρ H2 (fun c d H' => W c d σ H') (QV K Q) (op v u h)) := by
  obtain ⟨sv, ρ, h, rs, r, p⟩ := p
  refine ⟨sv, ρ, h, rs, r, p.bind.mono fun v ρ' h' H' x r' p' y q => ?_⟩
  exact ⟨sv, ρ', h', rs.ext x, r', p'.bind.mono fun u ρ2 h2 H2 x2 r2 p2 z q2 => ⟨ρ2, h2, v, u, r2, q.ext x2, q2, p2⟩⟩
theorem tE.op1 {K : PySem.W.Frag} {σ : St} {H : Hp} {Q : VK} {op : Val → M Val} (p : tE K T W (eOp1 op ma) σ H Q) :
    tE K T W ma σ H (fun x H1 => ∃ ρ h v, R K T ρ h H1 ∧ VR K ρ H1 v x ∧ PR K T ρ H1 (fun c d H' => W c d σ H') (QV K Q) (op v h)) := by
  obtain ⟨sv, ρ, h, rs, r, p⟩ := p
  exact ⟨sv, ρ, h, rs, r, p.bind.mono fun v ρ' h' H' x r' p' y q => ⟨ρ', h', v, r', q, p'⟩⟩

/-! ### names, constants -/
theorem se_var (i : Nat) {x : Str} (hN : X.N[i]? = some x := by rfl) (hv : Vis X.env.scope x := by first | exact Or.inl rfl | exact Or.inr (Or.inl rfl) | exact Or.inr (Or.inr rfl)) (hd : (x == ("__debug__" : Str)) = false := by decide)
    (hcd : (x == ("__classdict__" : Str)) = false := by decide) : SE X T W (.Name x pos) (eVar i) := by
  refine PE.imp (pe_var (i := i) hN hv hd hcd) fun σ H Q ⟨sv, ρ, h, rs, r, p⟩ => ?_
  obtain ⟨v, e, q⟩ := PR.opt r p
  cases e1 : sv[i]? with
  | none => rw [e1] at e; cases e
  | some o =>
    rw [e1] at e
    cases o with
    | none => cases e
    | some v' =>
      cases e
      obtain ⟨y, e2, e3⟩ := rs.2 i _ e1
      exact ⟨y, e2, q y e3⟩
theorem se_c {v : Val} {x : V} (p : PE X e (tC x)) (q : ∀ ρ H, VR X.K ρ H v x) : SE X T W e (eC v) :=
  PE.imp p fun σ H Q ⟨sv, ρ, h, rs, r, p⟩ => PR.ok (Q := QV X.K Q) p r x (q ρ H)
theorem se_int {i : Int} {j : Nat} : SE X T W (.Constant (.int i) j pos) (eC (.int i)) := se_c pe_int fun _ _ => rfl
theorem se_bl {i : Bool} {j : Nat} : SE X T W (.Constant (.bool i) j pos) (eC (.bl i)) := se_c pe_bl fun _ _ => rfl
theorem se_non {j : Nat} : SE X T W (.Constant .none j pos) (eC .non) := se_c pe_non fun _ _ => rfl
theorem se_str {i : Str} {j : Nat} : SE X T W (.Constant (.str i) j pos) (eC (.str i)) := se_c pe_str fun _ _ => rfl

/-! ### operators -/
/-- a reading by values is what the machine's operation asks -/
def Op2 (K : PySem.W.Frag) (T : Tabs) (r : R2) (op : Val → Val → M Val) : Prop :=
  ∀ (ρ : List Addr) (h : Mem) (H : Hp) (v u : Val) (x y : V) (E : XK) (Q : VK), R K T ρ h H → VR K ρ H v x → VR K ρ H u y → PR K T ρ H E (QV K Q) (op v u h) → r x y H Q
theorem se_bin {op : Operator} {r : R2} {f : Val → Val → M Val} (ho : OpR X (binaryOp op) r) (k : Op2 X.K T r f) (ha : SE X T W a ma) (hb : SE X T W b mb) : SE X T W (.BinOp a op b pos) (eOp2 f ma mb) := by
  refine PE.imp (pe_op ho ha hb) fun σ H Q p => ?_
  obtain ⟨sv, ρ, h, rs, r1, p1⟩ := tE.op2 p
  refine ⟨sv, ρ, h, rs, r1, p1.mono fun v ρ' h' H' x r' p' y q => ?_⟩
  obtain ⟨sv', ρ2, h2, rs2, r2, p2⟩ := p' y q
  exact ⟨sv', ρ2, h2, rs2, r2, p2.mono fun v2 ρ3 h3 H3 x3 r3 p3 z q3 => let ⟨ρ4, h4, v4, u4, r4, e1, e2, e3⟩ := p3 z q3; k ρ4 h4 H3 v4 u4 y z _ Q r4 e1 e2 e3⟩
theorem se_cmp {op : CmpOp} {r : R2} {f : Val → Val → M Val} (ho : OpR X (compareOp op) r) (k : Op2 X.K T r f) (ha : SE X T W a ma) (hb : SE X T W b mb)
    (hm : behindInMarks op b = false := by first | exact nomark _ | rfl) : SE X T W (.Compare a [op] [b] pos) (eOp2 f ma mb) := by
  refine PE.imp (pe_cmpR ho ha hb hm) fun σ H Q p => ?_
  obtain ⟨sv, ρ, h, rs, r1, p1⟩ := tE.op2 p
  refine ⟨sv, ρ, h, rs, r1, p1.mono fun v ρ' h' H' x r' p' y q => ?_⟩
  obtain ⟨sv', ρ2, h2, rs2, r2, p2⟩ := p' y q
  exact ⟨sv', ρ2, h2, rs2, r2, p2.mono fun v2 ρ3 h3 H3 x3 r3 p3 z q3 => let ⟨ρ4, h4, v4, u4, r4, e1, e2, e3⟩ := p3 z q3; k ρ4 h4 H3 v4 u4 y z _ Q r4 e1 e2 e3⟩
theorem st_cmp {op : CmpOp} {r : R2} {f : Val → Val → M Val} (ho : OpR X (compareOp op) r) (k : Op2 X.K T r f) (ha : SE X T W a ma) (hb : SE X T W b mb)
    (hm : behindInMarks op b = false := by first | exact nomark _ | rfl) : ST X T W (.Compare a [op] [b] pos) (bV (eOp2 f ma mb)) := by
  refine PT.imp (pt_cmpR ho ha hb hm) fun σ H Q p => ?_
  have p' : tE X.K T W (eOp2 f ma mb) σ H (fun x H' => ∃ k, x = V.bl k ∧ Q k H') := by
    obtain ⟨sv, ρ, h, rs, r, p⟩ := p
    refine ⟨sv, ρ, h, rs, r, p.bind.mono fun v ρ' h' H' x r' p' y q => ?_⟩
    obtain ⟨c, e, q2⟩ := PR.opt r' p'
    cases v <;> simp [asB] at e
    subst e
    cases q
    exact ⟨_, rfl, q2⟩
  obtain ⟨sv, ρ, h, rs, r1, p1⟩ := tE.op2 p'
  refine ⟨sv, ρ, h, rs, r1, p1.mono fun v ρ' h' H' x r' p' y q => ?_⟩
  obtain ⟨sv', ρ2, h2, rs2, r2, p2⟩ := p' y q
  exact ⟨sv', ρ2, h2, rs2, r2, p2.mono fun v2 ρ3 h3 H3 x3 r3 p3 z q3 => let ⟨ρ4, h4, v4, u4, r4, e1, e2, e3⟩ := p3 z q3; k ρ4 h4 H3 v4 u4 y z _ _ r4 e1 e2 e3⟩

/-- two ints, under a condition -/
def oII (c : Int → Int → Bool) (f : Int → Int → Int) : Val → Val → M Val
  | .int i, .int j => if c i j = true then mRet (.int (f i j)) else mBad
  | _, _ => mBad
def oIB (f : Int → Int → Bool) : Val → Val → M Val
  | .int i, .int j => mRet (.bl (f i j))
  | _, _ => mBad
theorem op2_II {K : PySem.W.Frag} {T : Tabs} {c : Int → Int → Bool} {C : Int → Int → Prop} {f : Int → Int → Int} (k : ∀ i j, c i j = true → C i j) : Op2 K T (rI C fun i j => .int (f i j)) (oII c f) := by
  intro ρ h H v u x y E Q r0 e1 e2 p
  cases v with
  | int i =>
    cases u with
    | int j =>
      cases e1
      cases e2
      by_cases hc : c i j = true
      · simp only [oII, hc, if_true] at p
        exact ⟨i, j, rfl, rfl, k i j hc, PR.ok (Q := QV K Q) p r0 _ rfl⟩
      · simp only [oII, hc, if_false] at p
        exact p.elim
    | _ => exact p.elim
  | _ => exact p.elim
theorem op2_II0 {K : PySem.W.Frag} {T : Tabs} {f : Int → Int → Int} : Op2 K T (rI0 fun i j => .int (f i j)) (oII (fun _ _ => true) f) := by
  intro ρ h H v u x y E Q r0 e1 e2 p
  cases v with
  | int i =>
    cases u with
    | int j =>
      cases e1
      cases e2
      exact ⟨i, j, rfl, rfl, PR.ok (Q := QV K Q) p r0 _ rfl⟩
    | _ => exact p.elim
  | _ => exact p.elim
theorem op2_IB {K : PySem.W.Frag} {T : Tabs} {f : Int → Int → Bool} : Op2 K T (rI0 fun i j => .bl (f i j)) (oIB f) := by
  intro ρ h H v u x y E Q r0 e1 e2 p
  cases v with
  | int i =>
    cases u with
    | int j =>
      cases e1
      cases e2
      exact ⟨i, j, rfl, rfl, PR.ok (Q := QV K Q) p r0 _ rfl⟩
    | _ => exact p.elim
  | _ => exact p.elim
end
end EV

/-! Ev3: operators and comparisons. -/
namespace EV
open PySem PySem.Spec L2

/-! ### ints, texts -/
def cT (_ _ : Int) : Bool := true
def cDiv (_ j : Int) : Bool := decide (0 < j ∧ j < 18446744073709551616)
def cMod (_ j : Int) : Bool := decide (0 < j)
def cMul (i j : Int) : Bool := decide ((-(2 ^ 64) < i ∧ i < 2 ^ 64) ∨ (-(2 ^ 64) < j ∧ j < 2 ^ 64) ∨ (i.natAbs < 2 ^ 400 ∧ j.natAbs < 2 ^ 400))
def cPow (i j : Int) : Bool := decide (0 ≤ j ∧ j ≤ 1000000 ∧ i.natAbs < 2 ^ 64)
def oAdd : Val → Val → M Val
  | .int i, .int j => mRet (.int (i + j))
  | .str i, .str j => if i.length + j.length ≤ 1000000 then mRet (.str (i ++ j)) else mBad
  | _, _ => mBad
def oSub : Val → Val → M Val := oII cT fun i j => i - j
def oMul : Val → Val → M Val := oII cMul fun i j => i * j
def oDiv : Val → Val → M Val := oII cDiv fun i j => i / j
def oMod : Val → Val → M Val := oII cMod fun i j => i % j
def oPow : Val → Val → M Val := oII cPow fun i j => i ^ j.toNat
def oLt : Val → Val → M Val := oIB fun i j => decide (i < j)
def oLe : Val → Val → M Val := oIB fun i j => decide (i ≤ j)
def oGt : Val → Val → M Val := oIB fun i j => decide (j < i)
def oGe : Val → Val → M Val := oIB fun i j => decide (j ≤ i)
def oNeg : Val → M Val
  | .int i => mRet (.int (-i))
  | _ => mBad
def oIsN : Val → M Val := fun v => mRet (.bl (decide (v = .non)))
def oNotN : Val → M Val := fun v => mRet (.bl (!decide (v = .non)))

/-! ### data at any depth, for == -/
mutual
def dat (h : Mem) : Nat → Val → Option PyData
  | 0, _ => none
  | _ + 1, .non => some .none
  | _ + 1, .bl b => some (.bool b)
  | _ + 1, .int i => some (.int i)
  | _ + 1, .str s => some (.str s)
  | n + 1, .tup xs => (dats h n xs).map .tuple
  | n + 1, .frl xs => (dats h n xs).map .list
  | n + 1, .ref k => match h[k]? with
    | some (.lst xs) => (dats h n xs).map .list
    | _ => none
  | _ + 1, .exn _ _ => none
def dats (h : Mem) : Nat → List Val → Option (List PyData)
  | 0, _ => none
  | _ + 1, [] => some []
  | n + 1, v :: xs => match dat h n v with
    | none => none
    | some d => (dats h n xs).map (d :: ·)
end
/-- the scalars that == tells apart plainly -/
def sEq : Val → Val → Option Bool
  | .non, .non => some true
  | .non, .int _ => some false
  | .int _, .non => some false
  | .non, .bl _ => some false
  | .bl _, .non => some false
  | .non, .str _ => some false
  | .str _, .non => some false
  | .int a, .int b => some (decide (a = b))
  | .bl a, .bl b => some (decide (a = b))
  | .str a, .str b => some (decide (a = b))
  | .int _, .str _ => some false
  | .str _, .int _ => some false
  | .bl _, .str _ => some false
  | .str _, .bl _ => some false
  | _, _ => none
def dEq (h : Mem) (v u : Val) : Option Bool := match dat h 1000 v, dat h 1000 u with
  | some d, some e => if (SeqAt.shaped d && SeqAt.shaped e) = true then some (PyData.eqv d e) else none
  | _, _ => none
def vEq (h : Mem) (v u : Val) : Option Bool := match sEq v u with
  | some b => some b
  | none => dEq h v u
def oEq (v u : Val) : M Val := fun h => mOpt ((vEq h v u).map .bl) h
def oNe (v u : Val) : M Val := fun h => mOpt ((vEq h v u).map fun b => .bl (!b)) h

section
variable {K : PySem.W.Frag} {T : Tabs} {ρ : List Addr} {h : Mem} {H : Hp}
mutual
theorem dat_ok (r : R K T ρ h H) : ∀ (n : Nat) (v : Val) (x : V) (d : PyData), VR K ρ H v x → dat h n v = some d → Dp K H x d
  | 0, _, _, _, _, e => by simp [dat] at e
  | n + 1, .non, x, d, q, e => by cases q; simp [dat] at e; subst e; exact .non
  | n + 1, .bl b, x, d, q, e => by cases q; simp [dat] at e; subst e; exact .bl b
  | n + 1, .int i, x, d, q, e => by cases q; simp [dat] at e; subst e; exact .int i
  | n + 1, .str s, x, d, q, e => by cases q; simp [dat] at e; subst e; exact .str s
  | n + 1, .tup xs, x, d, ⟨a, vs, e1, s, rs⟩, e => by
    subst e1
    simp only [dat, Option.map_eq_some_iff] at e
    obtain ⟨ds, e2, e3⟩ := e
    subst e3
    exact .tup s (dats_ok r n xs vs ds rs e2)
  | n + 1, .frl xs, x, d, ⟨a, vs, e1, s, rs⟩, e => by
    subst e1
    simp only [dat, Option.map_eq_some_iff] at e
    obtain ⟨ds, e2, e3⟩ := e
    subst e3
    exact .lst s.sq (dats_ok r n xs vs ds rs e2)
  | n + 1, .ref k, x, d, ⟨a, e1, e2⟩, e => by
    subst e2
    obtain ⟨o, eo, q⟩ := r.at e1
    simp only [dat, eo] at e
    cases o with
    | lst xs =>
      simp only [Option.map_eq_some_iff] at e
      obtain ⟨ds, e2, e3⟩ := e
      subst e3
      obtain ⟨vs, ea, rs⟩ := q
      exact .lst (.of ea) (dats_ok r n xs vs ds rs e2)
    | _ => cases e
  | n + 1, .exn _ _, _, _, q, _ => q.elim
theorem dats_ok (r : R K T ρ h H) : ∀ (n : Nat) (xs : List Val) (vs : List V) (ds : List PyData), VRs K ρ H xs vs → dats h n xs = some ds → DpAll K H vs ds
  | 0, _, _, _, _, e => by simp [dats] at e
  | n + 1, [], vs, ds, q, e => by cases q; simp [dats] at e; subst e; exact .nil
  | n + 1, v :: xs, vs, ds, ⟨x, t, e1, s, rs⟩, e => by
    subst e1
    simp only [dats] at e
    cases e2 : dat h n v with
    | none => rw [e2] at e; cases e
    | some d =>
      rw [e2] at e
      simp only [Option.map_eq_some_iff] at e
      obtain ⟨es, e3, e4⟩ := e
      subst e4
      exact .cons (dat_ok r n v x d s e2) (dats_ok r n xs t es rs e3)
end
theorem sEq_ok {v u : Val} {x y : V} {b : Bool} (q1 : VR K ρ H v x) (q2 : VR K ρ H u y) (e : sEq v u = some b) : scal x y = true ∧ decide (x = y) = b := by
  cases v <;> cases u <;> simp [sEq] at e <;> cases q1 <;> cases q2 <;> subst e <;> simp [scal]
theorem vEq_ok (r : R K T ρ h H) {v u : Val} {x y : V} {b : Bool} (q1 : VR K ρ H v x) (q2 : VR K ρ H u y) (e : vEq h v u = some b) :
    (scal x y = true ∧ decide (x = y) = b) ∨ ∃ d e, Dp K H x d ∧ Dp K H y e ∧ SeqAt.shaped d = true ∧ SeqAt.shaped e = true ∧ PyData.eqv d e = b := by
  unfold vEq at e
  cases e1 : sEq v u with
  | some c =>
    rw [e1] at e
    cases e
    exact .inl (sEq_ok q1 q2 e1)
  | none =>
    rw [e1] at e
    right
    simp only [dEq] at e
    cases e2 : dat h 1000 v with
    | none => rw [e2] at e; cases e
    | some d =>
      rw [e2] at e
      cases e3 : dat h 1000 u with
      | none => rw [e3] at e; cases e
      | some f =>
        rw [e3] at e
        dsimp only at e
        by_cases hs : (SeqAt.shaped d && SeqAt.shaped f) = true
        · rw [if_pos hs] at e
          cases e
          obtain ⟨h1, h2⟩ := Bool.and_eq_true_iff.mp hs
          exact ⟨d, f, dat_ok r _ _ _ _ q1 e2, dat_ok r _ _ _ _ q2 e3, h1, h2, rfl⟩
        · rw [if_neg hs] at e; cases e
theorem op2_eq : Op2 K T (fun x y H Q => rEq x y H Q ∨ rEqD K x y H Q) oEq := by
  intro ρ h H v u x y E Q r0 e1 e2 p
  obtain ⟨w, e, q⟩ := PR.opt r0 p
  simp only [Option.map_eq_some_iff] at e
  obtain ⟨b, e, rfl⟩ := e
  rcases vEq_ok r0 e1 e2 e with ⟨h1, h2⟩ | ⟨d, f, h1, h2, h3, h4, h5⟩
  · exact .inl ⟨h1, by rw [h2]; exact q _ rfl⟩
  · exact .inr ⟨d, f, h1, h2, h3, h4, by rw [h5]; exact q _ rfl⟩
theorem op2_ne : Op2 K T (fun x y H Q => rNe x y H Q ∨ rNeD K x y H Q) oNe := by
  intro ρ h H v u x y E Q r0 e1 e2 p
  obtain ⟨w, e, q⟩ := PR.opt r0 p
  simp only [Option.map_eq_some_iff] at e
  obtain ⟨b, e, rfl⟩ := e
  rcases vEq_ok r0 e1 e2 e with ⟨h1, h2⟩ | ⟨d, f, h1, h2, h3, h4, h5⟩
  · exact .inl ⟨h1, by rw [h2]; exact q _ rfl⟩
  · exact .inr ⟨d, f, h1, h2, h3, h4, by rw [h5]; exact q _ rfl⟩
theorem op2_add : Op2 K T (fun x y H Q => (rI0 fun i j => .int (i + j)) x y H Q ∨ (∃ i j, x = .str i ∧ y = .str j ∧ i.length + j.length ≤ sizeLine ∧ Q (.str (i ++ j)) H)) oAdd := by
  intro ρ h H v u x y E Q r0 e1 e2 p
  cases v with
  | int i =>
    cases u with
    | int j => cases e1; cases e2; exact .inl ⟨i, j, rfl, rfl, PR.ok (Q := QV K Q) p r0 _ rfl⟩
    | _ => exact p.elim
  | str i =>
    cases u with
    | str j =>
      cases e1; cases e2
      simp only [oAdd] at p
      split at p
      · rename_i hl
        exact .inr ⟨i, j, rfl, rfl, by rw [sizeLine_eq]; omega, PR.ok (Q := QV K Q) p r0 _ rfl⟩
      · exact p.elim
    | _ => exact p.elim
  | _ => exact p.elim
end

section
variable {X : Cx} {T : Tabs} {W : WX} {a b : Expr} {pos : Pos} {ma mb : EM}
theorem cdivW (i j : Int) (h : cDiv i j = true) : CDivW i j := by
  have h := of_decide_eq_true h
  exact wide_div (b := 64) h.1 (by have := h.1; have := h.2; omega) (by decide) (by decide)
theorem cmodP (i j : Int) (h : cMod i j = true) : 0 < j := of_decide_eq_true h
theorem cmulW (i j : Int) (h : cMul i j = true) : CMul i j ∨ CMulW i j := by
  rcases of_decide_eq_true h with h | h | h
  · exact .inl (.inl h)
  · exact .inl (.inr h)
  · exact .inr (wide_mul h.1 h.2 (by decide) (by decide) (by decide))
theorem op_mulX : OpR X (binaryOp .Mult) (rI (fun i j => CMul i j ∨ CMulW i j) fun i j => .int (i * j)) := by
  have k : OpR X (binaryOp .Mult) (fun x y H Q => (rI CMul fun i j => .int (i * j)) x y H Q ∨ (rI CMulW fun i j => .int (i * j)) x y H Q) := op_mul.or op_mulW
  intro pins s σ H x y v u Q I rx ry q
  refine k pins s σ H x y v u Q I rx ry ?_
  obtain ⟨i, j, e1, e2, c, q⟩ := q
  rcases c with c | c
  · exact .inl ⟨i, j, e1, e2, c, q⟩
  · exact .inr ⟨i, j, e1, e2, c, q⟩
theorem se_add (ha : SE X T W a ma) (hb : SE X T W b mb) : SE X T W (.BinOp a .Add b pos) (eOp2 oAdd ma mb) := se_bin (op_add.or op_add_str) op2_add ha hb
theorem se_sub (ha : SE X T W a ma) (hb : SE X T W b mb) : SE X T W (.BinOp a .Sub b pos) (eOp2 oSub ma mb) := se_bin op_sub op2_II0 ha hb
theorem se_mul (ha : SE X T W a ma) (hb : SE X T W b mb) : SE X T W (.BinOp a .Mult b pos) (eOp2 oMul ma mb) := se_bin op_mulX (op2_II cmulW) ha hb
theorem se_div (ha : SE X T W a ma) (hb : SE X T W b mb) : SE X T W (.BinOp a .FloorDiv b pos) (eOp2 oDiv ma mb) := se_bin op_fdivW (op2_II cdivW) ha hb
theorem se_mod (ha : SE X T W a ma) (hb : SE X T W b mb) : SE X T W (.BinOp a .Mod b pos) (eOp2 oMod ma mb) := se_bin op_mod (op2_II cmodP) ha hb
theorem se_pow (ha : SE X T W a ma) (hb : SE X T W b mb) : SE X T W (.BinOp a .Pow b pos) (eOp2 oPow ma mb) := se_bin op_pow (op2_II fun _ _ h => (of_decide_eq_true h : _ ∧ _ ∧ _)) ha hb
theorem se_neg (ha : SE X T W a ma) : SE X T W (.UnaryOp .USub a pos) (eOp1 oNeg ma) := by
  refine PE.imp (pe_un un_neg ha) fun σ H Q p => ?_
  obtain ⟨sv, ρ, h, rs, r, p⟩ := tE.op1 p
  refine ⟨sv, ρ, h, rs, r, p.mono fun v ρ' h' H' x r' p' y q => ?_⟩
  obtain ⟨ρ2, h2, v2, r2, q2, p2⟩ := p' y q
  cases v2 with
  | int i => cases q2; exact ⟨i, rfl, PR.ok (Q := QV X.K Q) p2 r2 _ rfl⟩
  | _ => exact p2.elim
theorem se_lt (ha : SE X T W a ma) (hb : SE X T W b mb) : SE X T W (.Compare a [.Lt] [b] pos) (eOp2 oLt ma mb) := se_cmp op_lt op2_IB ha hb
theorem se_le (ha : SE X T W a ma) (hb : SE X T W b mb) : SE X T W (.Compare a [.LtE] [b] pos) (eOp2 oLe ma mb) := se_cmp op_le op2_IB ha hb
theorem se_gt (ha : SE X T W a ma) (hb : SE X T W b mb) : SE X T W (.Compare a [.Gt] [b] pos) (eOp2 oGt ma mb) := se_cmp op_gt op2_IB ha hb
theorem se_ge (ha : SE X T W a ma) (hb : SE X T W b mb) : SE X T W (.Compare a [.GtE] [b] pos) (eOp2 oGe ma mb) := se_cmp op_ge op2_IB ha hb
theorem st_lt (ha : SE X T W a ma) (hb : SE X T W b mb) : ST X T W (.Compare a [.Lt] [b] pos) (bV (eOp2 oLt ma mb)) := st_cmp op_lt op2_IB ha hb
theorem st_le (ha : SE X T W a ma) (hb : SE X T W b mb) : ST X T W (.Compare a [.LtE] [b] pos) (bV (eOp2 oLe ma mb)) := st_cmp op_le op2_IB ha hb
theorem st_gt (ha : SE X T W a ma) (hb : SE X T W b mb) : ST X T W (.Compare a [.Gt] [b] pos) (bV (eOp2 oGt ma mb)) := st_cmp op_gt op2_IB ha hb
theorem st_ge (ha : SE X T W a ma) (hb : SE X T W b mb) : ST X T W (.Compare a [.GtE] [b] pos) (bV (eOp2 oGe ma mb)) := st_cmp op_ge op2_IB ha hb
theorem se_eq {n : Nat} (hr : Room n X.A) (ha : SE X T W a ma) (hb : SE X T W b mb) : SE X T W (.Compare a [.Eq] [b] pos) (eOp2 oEq ma mb) := se_cmp (op_eq.or (op_eqD hr.units)) op2_eq ha hb
theorem se_ne {n : Nat} (hr : Room n X.A) (ha : SE X T W a ma) (hb : SE X T W b mb) : SE X T W (.Compare a [.NotEq] [b] pos) (eOp2 oNe ma mb) := se_cmp (op_ne.or (op_neD hr.units)) op2_ne ha hb
theorem st_eq {n : Nat} (hr : Room n X.A) (ha : SE X T W a ma) (hb : SE X T W b mb) : ST X T W (.Compare a [.Eq] [b] pos) (bV (eOp2 oEq ma mb)) := st_cmp (op_eq.or (op_eqD hr.units)) op2_eq ha hb
theorem st_ne {n : Nat} (hr : Room n X.A) (ha : SE X T W a ma) (hb : SE X T W b mb) : ST X T W (.Compare a [.NotEq] [b] pos) (bV (eOp2 oNe ma mb)) := st_cmp (op_ne.or (op_neD hr.units)) op2_ne ha hb

/-! ### is None -/
theorem VR.non_iff {K : PySem.W.Frag} {ρ : List Addr} {H : Hp} {v : Val} {x : V} (q : VR K ρ H v x) : decide (x = .non) = decide (v = .non) := by
  cases v with
  | non => cases q; rfl
  | bl _ => cases q; simp
  | int _ => cases q; simp
  | str _ => cases q; simp
  | tup _ => obtain ⟨a, vs, rfl, _⟩ := q; simp
  | frl _ => obtain ⟨a, vs, rfl, _⟩ := q; simp
  | ref _ => obtain ⟨a, _, rfl⟩ := q; simp
  | exn _ _ => exact q.elim
theorem tE.test {σ : L2.St} {H : Hp} {Q : Bool → Hp → Prop} {K : PySem.W.Frag} (p : tB K T W (bV ma) σ H Q) : tE K T W ma σ H (fun x H' => ∃ k, x = V.bl k ∧ Q k H') := by
  obtain ⟨sv, ρ, h, rs, r, p⟩ := p
  refine ⟨sv, ρ, h, rs, r, p.bind.mono fun v ρ' h' H' x r' p' y q => ?_⟩
  obtain ⟨c, e, q2⟩ := PR.opt r' p'
  cases v <;> simp [asB] at e
  subst e
  cases q
  exact ⟨_, rfl, q2⟩
theorem se_isN {j : Nat} {p2 : Pos} (ha : SE X T W a ma) : SE X T W (.Compare a [.Is] [.Constant .none j p2] pos) (eOp1 oIsN ma) := by
  refine PE.imp (pe_cmp (pc_isN ha) rfl) fun σ H Q p => ?_
  obtain ⟨sv, ρ, h, rs, r, p⟩ := tE.op1 p
  refine ⟨sv, ρ, h, rs, r, p.mono fun v ρ' h' H' x r' p' y q => ?_⟩
  obtain ⟨ρ2, h2, v2, r2, q2, p2⟩ := p' y q
  rw [q2.non_iff]
  exact PR.ok (Q := QV X.K Q) p2 r2 _ rfl
theorem se_notN {j : Nat} {p2 : Pos} (ha : SE X T W a ma) : SE X T W (.Compare a [.IsNot] [.Constant .none j p2] pos) (eOp1 oNotN ma) := by
  refine PE.imp (pe_cmp (pc_notN ha) rfl) fun σ H Q p => ?_
  obtain ⟨sv, ρ, h, rs, r, p⟩ := tE.op1 p
  refine ⟨sv, ρ, h, rs, r, p.mono fun v ρ' h' H' x r' p' y q => ?_⟩
  obtain ⟨ρ2, h2, v2, r2, q2, p2⟩ := p' y q
  rw [q2.non_iff]
  exact PR.ok (Q := QV X.K Q) p2 r2 _ rfl

/-! ### tests -/
/-- a comparison's, a name's, a call's, a field's value as a test -/
theorem st_val (ha : SE X T W a ma) (he : ∀ whole, isTrue a X.env whole = (do let v ← whole; standAt a.pos; holding [v] (truthy v)) := by intro _; rfl) : ST X T W a (bV ma) :=
  PT.imp (pt_val ha he) fun σ H Q p => tE.test p
theorem st_isN {j : Nat} {p2 : Pos} (ha : SE X T W a ma) : ST X T W (.Compare a [.Is] [.Constant .none j p2] pos) (bV (eOp1 oIsN ma)) := by
  refine PT.imp (pt_cmp (pc_isN ha) rfl) fun σ H Q p => ?_
  obtain ⟨sv, ρ, h, rs, r, p⟩ := tE.op1 (tE.test p)
  refine ⟨sv, ρ, h, rs, r, p.mono fun v ρ' h' H' x r' p' y q => ?_⟩
  obtain ⟨ρ2, h2, v2, r2, q2, p2⟩ := p' y q
  rw [q2.non_iff]
  exact PR.ok (Q := QV X.K _) p2 r2 _ rfl
theorem st_notN {j : Nat} {p2 : Pos} (ha : SE X T W a ma) : ST X T W (.Compare a [.IsNot] [.Constant .none j p2] pos) (bV (eOp1 oNotN ma)) := by
  refine PT.imp (pt_cmp (pc_notN ha) rfl) fun σ H Q p => ?_
  obtain ⟨sv, ρ, h, rs, r, p⟩ := tE.op1 (tE.test p)
  refine ⟨sv, ρ, h, rs, r, p.mono fun v ρ' h' H' x r' p' y q => ?_⟩
  obtain ⟨ρ2, h2, v2, r2, q2, p2⟩ := p' y q
  rw [q2.non_iff]
  exact PR.ok (Q := QV X.K _) p2 r2 _ rfl
variable {ba bb : BM} {rest : List Expr}
theorem st_not (ha : ST X T W a ba) : ST X T W (.UnaryOp .Not a pos) (bNot ba) := by
  refine PT.imp (pt_not ha) fun σ H Q ⟨sv, ρ, h, rs, r, p⟩ => ⟨sv, ρ, h, rs, r, p.bind.mono fun v ρ' h' H' x r' p' => PR.ok (Q := QB Q) p' r'⟩
abbrev SW (X : Cx) (T : Tabs) (W : WX) (e : Expr) (m : BM) : Prop := PW X e (tB X.K T W m)
theorem sw_and1 (ha : ST X T W a ba) : SW X T W (.BoolOp .And [a] pos) ba := pw_and1 ha
theorem sw_or1 (ha : ST X T W a ba) : SW X T W (.BoolOp .Or [a] pos) ba := pw_or1 ha
theorem sw_and (ha : ST X T W a ba) (hb : SW X T W (.BoolOp .And (b :: rest) pos) bb) : SW X T W (.BoolOp .And (a :: b :: rest) pos) (bAnd ba bb) := by
  refine PW.imp (pw_and ha hb) fun σ H Q ⟨sv, ρ, h, rs, r, p⟩ => ⟨sv, ρ, h, rs, r, p.bind.mono fun c ρ' h' H' x r' p' => ?_⟩
  cases c with
  | true => exact ⟨sv, ρ', h', rs.ext x, r', p'⟩
  | false => exact PR.ok (Q := QB Q) p' r'
theorem sw_or (ha : ST X T W a ba) (hb : SW X T W (.BoolOp .Or (b :: rest) pos) bb) : SW X T W (.BoolOp .Or (a :: b :: rest) pos) (bOr ba bb) := by
  refine PW.imp (pw_or ha hb) fun σ H Q ⟨sv, ρ, h, rs, r, p⟩ => ⟨sv, ρ, h, rs, r, p.bind.mono fun c ρ' h' H' x r' p' => ?_⟩
  cases c with
  | false => exact ⟨sv, ρ', h', rs.ext x, r', p'⟩
  | true => exact PR.ok (Q := QB Q) p' r'
theorem st_of {e : Expr} (h : SW X T W e ba) : ST X T W e ba := h.pt
/-! .. as values -/
theorem se_one {op} (ha : SE X T W a ma) : SE X T W (.BoolOp op [a] pos) ma := pe_one ha
theorem se_and (ha : SE X T W a ma) (hb : SE X T W (.BoolOp .And (b :: rest) pos) mb) : SE X T W (.BoolOp .And (a :: b :: rest) pos) (eAnd ma mb) := by
  refine PE.imp (pe_and ha hb) fun σ H Q ⟨sv, ρ, h, rs, r, p⟩ => ⟨sv, ρ, h, rs, r, p.bind.mono fun v ρ' h' H' x r' p' y q => ?_⟩
  obtain ⟨c, e, p2⟩ := p'.bindOpt
  cases v <;> simp [asB] at e
  subst e
  cases q
  rename_i c
  refine ⟨c, rfl, ?_⟩
  cases c with
  | true => exact ⟨sv, ρ', h', rs.ext x, r', p2⟩
  | false => exact PR.ok (Q := QV X.K Q) p2 r' _ rfl
theorem se_or (ha : SE X T W a ma) (hb : SE X T W (.BoolOp .Or (b :: rest) pos) mb) : SE X T W (.BoolOp .Or (a :: b :: rest) pos) (eOr ma mb) := by
  refine PE.imp (pe_or ha hb) fun σ H Q ⟨sv, ρ, h, rs, r, p⟩ => ⟨sv, ρ, h, rs, r, p.bind.mono fun v ρ' h' H' x r' p' y q => ?_⟩
  obtain ⟨c, e, p2⟩ := p'.bindOpt
  cases v <;> simp [asB] at e
  subst e
  cases q
  rename_i c
  refine ⟨c, rfl, ?_⟩
  cases c with
  | false => exact ⟨sv, ρ', h', rs.ext x, r', p2⟩
  | true => exact PR.ok (Q := QV X.K Q) p2 r' _ rfl
theorem se_not (ha : SE X T W a ma) : SE X T W (.UnaryOp .Not a pos) (eNot ma) := by
  refine PE.imp (pe_not ha) fun σ H Q ⟨sv, ρ, h, rs, r, p⟩ => ⟨sv, ρ, h, rs, r, p.bind.mono fun v ρ' h' H' x r' p' y q => ?_⟩
  obtain ⟨c, e, p2⟩ := p'.bindOpt
  cases v <;> simp [asB] at e
  subst e
  cases q
  exact ⟨_, rfl, PR.ok (Q := QV X.K Q) p2 r' _ rfl⟩
theorem se_if {c : Expr} {bc : BM} (hc : ST X T W c bc) (ha : SE X T W a ma) (hb : SE X T W b mb) : SE X T W (.IfExp c a b pos) (eIf bc ma mb) := by
  refine PE.imp (pe_ifExp hc ha hb) fun σ H Q ⟨sv, ρ, h, rs, r, p⟩ => ⟨sv, ρ, h, rs, r, p.bind.mono fun c ρ' h' H' x r' p' => ?_⟩
  cases c with
  | true => exact ⟨sv, ρ', h', rs.ext x, r', p'⟩
  | false => exact ⟨sv, ρ', h', rs.ext x, r', p'⟩
end
end EV

/-! Ev4: displays, built-in calls, subscripts, slices, built-in methods, dicts. -/
namespace EV
open PySem PySem.Spec L2

/-! ### the machine's operations -/
section
variable {κ : Type} [DecidableEq κ]
def dGet (kvs : List (κ × Val)) (k : κ) : Option Val := (kvs.find? fun kv => decide (kv.1 = k)).map (·.2)
def dPut (kvs : List (κ × Val)) (k : κ) (v : Val) : List (κ × Val) :=
  if (kvs.any fun kv => decide (kv.1 = k)) = true then kvs.map (fun kv => if kv.1 = k then (kv.1, v) else kv) else kvs ++ [(k, v)]
def dDrop (kvs : List (κ × Val)) (k : κ) : List (κ × Val) := kvs.filter fun kv => decide (kv.1 ≠ k)
end
def keyOf : Val → Option Key
  | .int i => some (.inl i)
  | .str s => some (.inr s)
  | _ => none
def ofKey : Key → Val
  | .inl i => .int i
  | .inr s => .str s
/-- a list's or tuple's items -/
def seqOf (h : Mem) : Val → Option (List Val)
  | .tup xs => some xs
  | .frl xs => some xs
  | .ref n => match h[n]? with
    | some (.lst xs) => some xs
    | _ => none
  | _ => none
def vIx (h : Mem) (v u : Val) : Option Val :=
  match v with
  | .str s => match u with
    | .int i => if s.length ≤ 1000000 then (atI s.cps.toList i).map fun c => .str ⟨#[c]⟩ else none
    | _ => none
  | .ref n => match h[n]? with
    | some (.lst xs) => match u with
      | .int i => atI xs i
      | _ => none
    | some (.dct kvs) => (keyOf u).bind (dGet kvs)
    | _ => none
  | v => match seqOf h v with
    | some xs => match u with
      | .int i => atI xs i
      | _ => none
    | none => none
def oIx (v u : Val) : M Val := fun h => mOpt (vIx h v u) h
def vLen (h : Mem) : Val → Option Nat
  | .str s => if s.length ≤ 1000000 then some s.length else none
  | .ref n => match h[n]? with
    | some (.lst xs) => some xs.length
    | some (.dct kvs) => some kvs.length
    | _ => none
  | v => (seqOf h v).map List.length
def oLen : List Val → M Val
  | [v] => fun h => mOpt ((vLen h v).map fun (n : Nat) => Val.int (n : Int)) h
  | _ => mBad
def oList : List Val → M Val
  | [v] => fun h => match seqOf h v with
    | some xs => mNew (.lst xs) h
    | none => match v with
      | .ref n => match h[n]? with
        | some (.dct kvs) => mNew (.lst (kvs.map fun kv => ofKey kv.1)) h
        | _ => none
      | _ => none
  | _ => mBad
def oTuple : List Val → M Val
  | [v] => fun h => mOpt ((seqOf h v).map .tup) h
  | _ => mBad
def intsOf : List Val → Option (List Int)
  | [] => some []
  | .int i :: r => (intsOf r).map (i :: ·)
  | _ => none
def strsOf : List Val → Option (List Str)
  | [] => some []
  | .str i :: r => (strsOf r).map (i :: ·)
  | _ => none
def blsOf : List Val → Option (List Bool)
  | [] => some []
  | .bl i :: r => (blsOf r).map (i :: ·)
  | _ => none
def onR (g : Nat → M Val) : List Val → M Val
  | [.ref n] => g n
  | _ => mBad
def onII (g : Int → Int → M Val) : List Val → M Val
  | [.int i, .int j] => g i j
  | _ => mBad
def oSum : List Val → M Val := onR fun n h => mOpt (((seqOf h (.ref n)).bind intsOf).map fun ns => .int ns.sum) h
def oAll : List Val → M Val := onR fun n h => mOpt (((seqOf h (.ref n)).bind blsOf).map fun bs => .bl (bs.all id)) h
def oAny : List Val → M Val := onR fun n h => mOpt (((seqOf h (.ref n)).bind blsOf).map fun bs => .bl (bs.any id)) h
/-- the ints of a dict's keys -/
def keyInts (kvs : List (Key × Val)) : Option (List Int) := intsOf (kvs.map fun kv => ofKey kv.1)
def insI (i : Int) : List Int → List Int
  | [] => [i]
  | j :: r => if i ≤ j then i :: j :: r else j :: insI i r
def sortI (ns : List Int) : List Int := ns.foldr insI []
def minI : List Int → Option Int
  | [] => none
  | i :: r => match minI r with
    | none => some i
    | some j => some (if i ≤ j then i else j)
/-- sorted(d) of a dict of ints, sorted(xs) of a list of ints -/
def oSorted : List Val → M Val := onR fun n h => match h[n]? with
    | some (.dct kvs) => match keyInts kvs with
      | some ns => if ns.length < 64 then mNew (.lst ((sortI ns).map .int)) h else none
      | none => none
    | some (.lst xs) => match intsOf xs with
      | some ns => mNew (.lst ((sortI ns).map .int)) h
      | none => none
    | _ => none
def oMinR (n : Nat) : M Val := fun h => match h[n]? with
    | some (.dct kvs) => match keyInts kvs with
      | some ns => mOpt ((minI ns).map .int) h
      | none => none
    | some (.lst xs) => match intsOf xs with
      | some ns => mOpt ((minI ns).map .int) h
      | none => none
    | _ => none
def oMin (vs : List Val) : M Val := if vs.length = 1 then onR oMinR vs else onII (fun i j => mRet (.int (if j < i then j else i))) vs
def oMax : List Val → M Val := onII fun i j => mRet (.int (if j > i then j else i))
def oInt : List Val → M Val
  | [.int i] => mRet (.int i)
  | [.bl k] => mRet (.int (if k then 1 else 0))
  | _ => mBad
def oStr : List Val → M Val
  | [.int i] => if i.natAbs < 2 ^ 1900 then mRet (.str (toString i : String)) else mBad
  | _ => mBad
/-- a value's type, by its name -/
def tyOf (h : Mem) : Val → Option String
  | .non => some "NoneType"
  | .bl _ => some "bool"
  | .int _ => some "int"
  | .str _ => some "str"
  | .tup _ => some "tuple"
  | .frl _ => some "list"
  | .ref n => match h[n]? with
    | some (.lst _) => some "list"
    | some (.dct _) => some "dict"
    | some (.dtt _) => some "dict"
    | _ => none
  | .exn _ _ => none
def isiB (t : String) : List String → Option Bool
  | [] => some false
  | c :: r => match kitB t c with
    | none => none
    | some true => some true
    | some false => isiB t r
def eIsi (m : EM) (cs : List String) : EM := fun σ => mBind (m σ) fun v h => mOpt (((tyOf h v).bind fun t => isiB t cs).map .bl) h

/-! ### facts about them -/
section
variable {K : PySem.W.Frag} {T : Tabs} {ρ : List Addr} {h : Mem} {H : Hp}
theorem DR.get {κ : Type} [DecidableEq κ] {kvs : List (κ × Val)} {gs : List (κ × V)} (r : DR K ρ H kvs gs) (k : κ) : (∀ v, dGet kvs k = some v → ∃ x, valV gs k = some x ∧ VR K ρ H v x) ∧ (dGet kvs k = none → valV gs k = none) := by
  induction r with
  | nil => exact ⟨fun v e => by simp [dGet] at e, fun _ => rfl⟩
  | @cons k' v x t u q _ ih =>
    by_cases e : k' = k
    · have e1 : dGet ((k', v) :: t) k = some v := by simp [dGet, List.find?_cons, e]
      rw [e1, valV_pos e]
      exact ⟨fun w ew => by cases ew; exact ⟨_, rfl, q⟩, fun z => by cases z⟩
    · have e1 : dGet ((k', v) :: t) k = dGet t k := by simp [dGet, List.find?_cons, e]
      rw [e1, valV_neg e]
      exact ih
theorem DR.any {κ : Type} [DecidableEq κ] {kvs : List (κ × Val)} {gs : List (κ × V)} (r : DR K ρ H kvs gs) (k : κ) : (kvs.any fun kv => decide (kv.1 = k)) = gs.any fun kv => decide (kv.1 = k) := by
  induction r with
  | nil => rfl
  | cons q _ ih => simp only [List.any_cons, ih]
theorem DR.snoc {κ : Type} {kvs : List (κ × Val)} {gs : List (κ × V)} (r : DR K ρ H kvs gs) {k : κ} {v : Val} {x : V} (q : VR K ρ H v x) : DR K ρ H (kvs ++ [(k, v)]) (gs ++ [(k, x)]) := by
  induction r with
  | nil => exact .cons q .nil
  | cons q' _ ih => exact .cons q' ih
theorem DR.put {κ : Type} [DecidableEq κ] {kvs : List (κ × Val)} {gs : List (κ × V)} (r : DR K ρ H kvs gs) {k : κ} {v : Val} {x : V} (q : VR K ρ H v x) : DR K ρ H (dPut kvs k v) (putK gs k x) := by
  unfold dPut putK
  rw [r.any k]
  split
  · rename_i hh
    clear hh
    induction r with
    | nil => exact .nil
    | @cons k' v' x' t u q' _ ih =>
      simp only [List.map_cons]
      by_cases e : k' = k
      · simp only [e, if_true]; exact .cons q ih
      · simp only [e, if_false]; exact .cons q' ih
  · exact r.snoc q
theorem DR.drop {κ : Type} [DecidableEq κ] {kvs : List (κ × Val)} {gs : List (κ × V)} (r : DR K ρ H kvs gs) (k : κ) : DR K ρ H (dDrop kvs k) (dropK gs k) := by
  induction r with
  | nil => exact .nil
  | @cons k' v x t u q _ ih =>
    unfold dDrop dropK at *
    by_cases e : k' = k
    · simp only [List.filter_cons, e, ne_eq, not_true, decide_false, if_false]; exact ih
    · simp only [List.filter_cons, e, ne_eq, not_false_eq_true, decide_true, if_true]; exact .cons q ih
theorem DR.keys {kvs : List (Key × Val)} {gs : List (Key × V)} (r : DR K ρ H kvs gs) : kvs.map (·.1) = gs.map (·.1) := by
  induction r with
  | nil => rfl
  | cons _ _ ih => simp [ih]
theorem VR.ofKey (k : Key) : VR K ρ H (ofKey k) (kV k) := by cases k <;> exact rfl
theorem DR.keyVals {kvs : List (Key × Val)} {gs : List (Key × V)} (r : DR K ρ H kvs gs) : VRs K ρ H (kvs.map fun kv => EV.ofKey kv.1) (gs.map fun kv => kV kv.1) := by
  induction r with
  | nil => exact rfl
  | @cons k _ _ _ _ _ _ ih => exact ⟨_, _, rfl, VR.ofKey k, ih⟩
theorem key_ok {v : Val} {x : V} {k : Key} (q : VR K ρ H v x) (e : keyOf v = some k) : x = kV k := by
  cases v <;> simp [keyOf] at e <;> subst e <;> cases q <;> rfl
theorem seq_ok (r : R K T ρ h H) {v : Val} {x : V} {xs : List Val} (q : VR K ρ H v x) (e : seqOf h v = some xs) : ∃ a vs, x = .ref a ∧ (SqL K H a vs ∨ SqT K H a vs) ∧ VRs K ρ H xs vs := by
  cases v with
  | tup ys => simp [seqOf] at e; subst e; obtain ⟨a, vs, rfl, s, rs⟩ := q; exact ⟨a, vs, rfl, .inr s, rs⟩
  | frl ys => simp [seqOf] at e; subst e; obtain ⟨a, vs, rfl, s, rs⟩ := q; exact ⟨a, vs, rfl, .inl s.sq, rs⟩
  | ref n =>
    obtain ⟨a, e1, rfl⟩ := q
    obtain ⟨o, e2, q⟩ := r.at e1
    simp only [seqOf, e2] at e
    cases o with
    | lst ys => cases e; obtain ⟨vs, e3, rs⟩ := q; exact ⟨a, vs, rfl, .inl (.of e3), rs⟩
    | _ => cases e
  | _ => simp [seqOf] at e
theorem atI_ok {xs : List Val} {vs : List V} {i : Int} {v : Val} (rs : VRs K ρ H xs vs) (e : atI xs i = some v) : ∃ x, atI vs i = some x ∧ VR K ρ H v x := by
  unfold atI at e ⊢
  rw [← rs.length]
  cases e1 : ixN xs.length i with
  | none => rw [e1] at e; cases e
  | some j => rw [e1] at e; exact rs.get (i := j) e
theorem ints_ok {xs : List Val} {vs : List V} : ∀ {ns : List Int}, VRs K ρ H xs vs → intsOf xs = some ns → vs = ns.map V.int ∧ xs = ns.map .int := by
  induction xs generalizing vs with
  | nil => intro ns q e; simp [intsOf] at e; subst e; exact ⟨q, rfl⟩
  | cons v xs ih =>
    intro ns q e
    obtain ⟨x, t, rfl, s, rs⟩ := q
    cases v with
    | int i =>
      simp only [intsOf, Option.map_eq_some_iff] at e
      obtain ⟨ms, e1, rfl⟩ := e
      obtain ⟨e2, e3⟩ := ih rs e1
      cases s
      exact ⟨by rw [e2]; rfl, by rw [e3]; rfl⟩
    | _ => simp [intsOf] at e
theorem strs_ok {xs : List Val} {vs : List V} : ∀ {ns : List Str}, VRs K ρ H xs vs → strsOf xs = some ns → vs = ns.map V.str := by
  induction xs generalizing vs with
  | nil => intro ns q e; simp [strsOf] at e; subst e; exact q
  | cons v xs ih =>
    intro ns q e
    obtain ⟨x, t, rfl, s, rs⟩ := q
    cases v with
    | str i =>
      simp only [strsOf, Option.map_eq_some_iff] at e
      obtain ⟨ms, e1, rfl⟩ := e
      cases s
      rw [ih rs e1]; rfl
    | _ => simp [strsOf] at e
theorem bls_ok {xs : List Val} {vs : List V} : ∀ {ns : List Bool}, VRs K ρ H xs vs → blsOf xs = some ns → vs = ns.map V.bl := by
  induction xs generalizing vs with
  | nil => intro ns q e; simp [blsOf] at e; subst e; exact q
  | cons v xs ih =>
    intro ns q e
    obtain ⟨x, t, rfl, s, rs⟩ := q
    cases v with
    | bl i =>
      simp only [blsOf, Option.map_eq_some_iff] at e
      obtain ⟨ms, e1, rfl⟩ := e
      cases s
      rw [ih rs e1]; rfl
    | _ => simp [blsOf] at e
theorem keyInts_ok {kvs : List (Key × Val)} {gs : List (Key × V)} {ns : List Int} (r : DR K ρ H kvs gs) (e : keyInts kvs = some ns) : gs.map (·.1) = ns.map Sum.inl := by
  obtain ⟨e1, _⟩ := ints_ok r.keyVals e
  have : ∀ (gs : List (Key × V)) (ns : List Int), gs.map (fun kv => kV kv.1) = ns.map V.int → gs.map (·.1) = ns.map Sum.inl := by
    intro gs
    induction gs with
    | nil => intro ns e; cases ns with | nil => rfl | cons _ _ => simp at e
    | cons g gs ih =>
      intro ns e
      cases ns with
      | nil => simp at e
      | cons n ns =>
        simp only [List.map_cons, List.cons.injEq] at e
        obtain ⟨k, x⟩ := g
        have e1 := e.1
        cases k with
        | inl i => simp only [kV] at e1; cases e1; simp only [List.map_cons, List.cons.injEq, true_and]; exact ih ns e.2
        | inr i => simp only [kV] at e1; cases e1
  exact this gs ns e1
end
end EV

/-! Ev5: the rules of Ev4's operations. -/
namespace EV
open PySem PySem.Spec L2

/-! ### new objects -/
section
variable {K : PySem.W.Frag} {T : Tabs} {ρ : List Addr} {h : Mem} {H : Hp} {E : XK} {Q : VK}
theorem PR.new {o : Ob} {ho : HO} {p : Addr} (r : R K T ρ h H) (q : PR K T ρ H E (QV K Q) (mNew o h)) (n : H p = none) (k : OR K T (ρ ++ [p]) (upd H p ho) p o) : Q (.ref p) (upd H p ho) :=
  q (ρ ++ [p]) (upd H p ho) (Ext.grow n (.side n)) (r.new n k) (.ref p) ⟨p, by rw [← r.len]; simp, rfl⟩
theorem PR.newLst {xs : List Val} {vs : List V} {p : Addr} (r : R K T ρ h H) (q : PR K T ρ H E (QV K Q) (mNew (.lst xs) h)) (rs : VRs K ρ H xs vs) (n : H p = none) : Q (.ref p) (upd H p (.lst vs)) :=
  q.new r n ⟨vs, upd_same, rs.ext (Ext.grow n (.side n))⟩
/-- a tuple laid at p stands for a tree -/
theorem PR.tup {xs : List Val} {vs : List V} {p : Addr} (r : R K T ρ h H) (q : PR K T ρ H E (QV K Q) (mRet (Val.tup xs) h)) (rs : VRs K ρ H xs vs) (n : H p = none) : Q (.ref p) (upd H p (.tup vs)) :=
  q ρ (upd H p (.tup vs)) (.side n) (r.side n) (.ref p) ⟨p, vs, rfl, .of upd_same, rs.ext (.side n)⟩
end

section
variable {X : Cx} {T : Tabs} {W : WX} {e a b : Expr} {es : List Expr} {pos : Pos} {m ma mb : EM} {ms : AM}
/-! ### argument lists, displays -/
theorem sa_nil : SA X T W [] aNil := PA.imp pa_nil fun σ H Q ⟨sv, ρ, h, rs, r, p⟩ => PR.ok (Q := QVs X.K Q) p r [] rfl
theorem sa_cons (ha : SE X T W e m) (hr : SA X T W es ms) (hs : starEach (e :: es) X.env = (false, eval e X.env) :: starEach es X.env := by rfl) : SA X T W (e :: es) (aCons m ms) := by
  refine PA.imp (pa_cons ha hr hs) fun σ H Q ⟨sv, ρ, h, rs, r, p⟩ => ⟨sv, ρ, h, rs, r, p.bind.mono fun v ρ' h' H' x r' p' y q => ?_⟩
  refine ⟨sv, ρ', h', rs.ext x, r', p'.bind.mono fun vs ρ2 h2 H2 x2 r2 p2 ys q2 => ?_⟩
  exact PR.ok (Q := QVs X.K Q) p2 r2 (y :: ys) ⟨y, ys, rfl, q.ext x2, q2⟩
theorem le_line {n : Nat} (h : n ≤ 1000000) : n ≤ sizeLine := by rw [sizeLine_eq]; omega
theorem se_tup {x1} (ha : SA X T W es ms) : SE X T W (.Tuple es x1 pos) (eTup ms) := by
  refine PE.imp (pe_tup ha) fun σ H Q ⟨sv, ρ, h, rs, r, p⟩ => ⟨sv, ρ, h, rs, r, p.bind.mono fun vs ρ' h' H' x r' p' ys q => ?_⟩
  split at p'
  · rename_i hl
    exact ⟨by rw [← q.length]; exact le_line hl, fun a n => PR.tup r' p' q n⟩
  · exact p'.elim
theorem se_lst (ha : SA X T W es ms) : SE X T W (.List es pos) (eLst ms) := by
  refine PE.imp (pe_lst ha) fun σ H Q ⟨sv, ρ, h, rs, r, p⟩ => ⟨sv, ρ, h, rs, r, p.bind.mono fun vs ρ' h' H' x r' p' ys q => ?_⟩
  split at p'
  · rename_i hl
    exact ⟨by rw [← q.length]; exact le_line hl, fun a n => PR.newLst r' p' q n⟩
  · exact p'.elim
def eDct : EM := fun _ => mNew (.dct [])
theorem se_dct : SE X T W (.Dict [] [] pos) eDct :=
  PE.imp pe_dnewK fun σ H Q ⟨sv, ρ, h, rs, r, p⟩ => fun a n => PR.new r p n ⟨[], upd_same, .nil⟩

/-! ### built-in calls -/
def CallOk (K : PySem.W.Frag) (T : Tabs) (r : List V → Hp → VK → Prop) (f : List Val → M Val) : Prop :=
  ∀ (ρ : List Addr) (h : Mem) (H : Hp) (vs : List Val) (xs : List V) (E : XK) (Q : VK), R K T ρ h H → VRs K ρ H vs xs → PR K T ρ H E (QV K Q) (f vs h) → r xs H Q
theorem se_callB {x : Str} {p : Pos} {id : String} {r : List V → Hp → VK → Prop} {f : List Val → M Val} (hc : CallR X (.builtin id) r) (k : CallOk X.K T r f) (hg : Gl X x) (hm : X.mg x = none) (hv : bootBuiltins x = some (.builtin id)) (ha : SA X T W (e :: es) ms)
    (hn : x ≠ "__name__" := by decide) (hdb : (x == ("__debug__" : Str)) = false := by decide) (he : starEach (e :: es) X.env = (false, eval e X.env) :: starEach es X.env := by rfl) (hpl : (backTo pos (starEach es X.env)).any (·.1) = false := by rfl) :
    SE X T W (.Call (.Name x p) (e :: es) [] pos) (eFun f ms) :=
  PE.imp (pe_callB hc hg hm hv ha hn hdb he hpl) fun σ H Q ⟨sv, ρ, h, rs, r0, p⟩ => ⟨sv, ρ, h, rs, r0, p.bind.mono fun vs ρ' h' H' x r' p' ys q => k ρ' h' H' vs ys _ Q r' q p'⟩
theorem se_callTy {x : Str} {p : Pos} {id : String} {r : List V → Hp → VK → Prop} {f : List Val → M Val} (hc : CallR X (.type id) r) (k : CallOk X.K T r f) (hg : Gl X x) (hm : X.mg x = none) (hv : bootBuiltins x = some (.type id)) (ha : SA X T W (e :: es) ms)
    (hn : x ≠ "__name__" := by decide) (hdb : (x == ("__debug__" : Str)) = false := by decide) (he : starEach (e :: es) X.env = (false, eval e X.env) :: starEach es X.env := by rfl) (hpl : (backTo pos (starEach es X.env)).any (·.1) = false := by rfl) :
    SE X T W (.Call (.Name x p) (e :: es) [] pos) (eFun f ms) :=
  PE.imp (pe_callTy hc hg hm hv ha hn hdb he hpl) fun σ H Q ⟨sv, ρ, h, rs, r0, p⟩ => ⟨sv, ρ, h, rs, r0, p.bind.mono fun vs ρ' h' H' x r' p' ys q => k ρ' h' H' vs ys _ Q r' q p'⟩
end

/-! sorting -/
theorem insI_perm (i : Int) : ∀ ns : List Int, (insI i ns).Perm (i :: ns)
  | [] => .refl _
  | j :: r => by
    unfold insI
    split
    · exact .refl _
    · exact ((insI_perm i r).cons j).trans (.swap i j r)
theorem sortI_perm : ∀ ns : List Int, (sortI ns).Perm ns
  | [] => .refl _
  | i :: r => (insI_perm i (sortI r)).trans ((sortI_perm r).cons i)
theorem insI_sorted (i : Int) : ∀ ns : List Int, ns.Pairwise (· ≤ ·) → (insI i ns).Pairwise (· ≤ ·)
  | [], _ => by simp [insI]
  | j :: r, h => by
    have h' := List.pairwise_cons.mp h
    unfold insI
    split
    · rename_i hl
      refine List.pairwise_cons.mpr ⟨fun x hx => ?_, h⟩
      rcases List.mem_cons.mp hx with rfl | hx
      · exact hl
      · exact Int.le_trans hl (h'.1 x hx)
    · rename_i hl
      refine List.pairwise_cons.mpr ⟨fun x hx => ?_, insI_sorted i r h'.2⟩
      rcases List.mem_cons.mp ((insI_perm i r).mem_iff.mp hx) with rfl | hx
      · omega
      · exact h'.1 x hx
theorem sortI_sorted : ∀ ns : List Int, (sortI ns).Pairwise (· ≤ ·)
  | [] => .nil
  | i :: r => insI_sorted i _ (sortI_sorted r)
theorem sortI_uniq {ys ns : List Int} (p : ys.Perm ns) (s : ys.Pairwise (· ≤ ·)) : ys = sortI ns := PySem.W.ksm_same (p.trans (sortI_perm ns).symm) s (sortI_sorted ns)
theorem minI_some : ∀ {ns : List Int} {m : Int}, minI ns = some m → m ∈ ns ∧ ∀ j ∈ ns, m ≤ j
  | [], m, e => by simp [minI] at e
  | i :: r, m, e => by
    unfold minI at e
    cases e1 : minI r with
    | none =>
      rw [e1] at e
      cases e
      have : r = [] := by
        cases r with
        | nil => rfl
        | cons a t => unfold minI at e1; split at e1 <;> cases e1
      subst this
      simp
    | some j =>
      rw [e1] at e
      obtain ⟨h1, h2⟩ := minI_some e1
      simp only at e
      split at e
      · cases e
        rename_i hl
        exact ⟨by simp, fun k hk => by rcases List.mem_cons.mp hk with rfl | hk; exact Int.le_refl _; exact Int.le_trans hl (h2 k hk)⟩
      · cases e
        rename_i hl
        exact ⟨by simp [h1], fun k hk => by rcases List.mem_cons.mp hk with rfl | hk; omega; exact h2 k hk⟩

section
variable {K : PySem.W.Frag} {T : Tabs} {ρ : List Addr} {h : Mem} {H : Hp}
theorem VRs.unone {v : Val} {vs : List V} (q : VRs K ρ H [v] vs) : ∃ x, vs = [x] ∧ VR K ρ H v x := by
  obtain ⟨x, r, rfl, q, e⟩ := q
  cases e
  exact ⟨x, rfl, q⟩
theorem VRs.untwo {v u : Val} {vs : List V} (q : VRs K ρ H [v, u] vs) : ∃ x y, vs = [x, y] ∧ VR K ρ H v x ∧ VR K ρ H u y := by
  obtain ⟨x, r, rfl, q, q2⟩ := q
  obtain ⟨y, rfl, q3⟩ := q2.unone
  exact ⟨x, y, rfl, q, q3⟩
theorem R.atRef (r : R K T ρ h H) {n : Nat} {x : V} {o : Ob} (q : VR K ρ H (.ref n) x) (e : h[n]? = some o) : ∃ a, ρ[n]? = some a ∧ x = .ref a ∧ OR K T ρ H a o := by
  obtain ⟨a, e1, rfl⟩ := q
  obtain ⟨o', e2, q⟩ := r.at e1
  rw [e] at e2; cases e2
  exact ⟨a, e1, rfl, q⟩
def rLenA (K : PySem.W.Frag) : List V → Hp → VK → Prop := fun xs H Q => (∃ x n, xs = [x] ∧ LenV K x H n ∧ Q (.int n) H) ∨ ∃ a kvs, xs = [V.ref a] ∧ H a = some (.dK kvs) ∧ Q (.int kvs.length) H
theorem ok_len : CallOk K T (rLenA K) oLen := by
  intro ρ h H vs xs E Q r q p
  match vs, q, p with
  | [v], q, p =>
    obtain ⟨x, rfl, qv⟩ := q.unone
    obtain ⟨w, e, k⟩ := PR.opt r p
    simp only [Option.map_eq_some_iff] at e
    obtain ⟨n, e, rfl⟩ := e
    have hq : Q (.int n) H := k _ rfl
    have seq : ∀ {v : Val} {xs : List Val}, VR K ρ H v x → seqOf h v = some xs → n = xs.length → rLenA K [x] H Q := by
      intro v xs q e e2
      obtain ⟨a, ws, rfl, s, rs⟩ := seq_ok r q e
      refine .inl ⟨_, n, rfl, ?_, hq⟩
      rw [e2, rs.length]
      rcases s with s | s
      · exact .inl ⟨ws, s, rfl⟩
      · exact .inr ⟨ws, s, rfl⟩
    cases v with
    | str s =>
      simp only [vLen] at e
      split at e
      · rename_i hl
        cases e
        cases qv
        exact .inl ⟨_, _, rfl, ⟨le_line hl, rfl⟩, hq⟩
      · cases e
    | ref k =>
      simp only [vLen] at e
      cases e1 : h[k]? with
      | none => rw [e1] at e; cases e
      | some o =>
        rw [e1] at e
        cases o with
        | lst ys => cases e; exact seq qv (by simp [seqOf, e1]) rfl
        | dct kvs =>
          cases e
          obtain ⟨a, e2, rfl, gs, e3, rs⟩ := r.atRef qv e1
          exact .inr ⟨a, gs, rfl, e3, by rw [← rs.length]; exact hq⟩
        | _ => cases e
    | tup ys => cases e; exact seq qv rfl rfl
    | frl ys => cases e; exact seq qv rfl rfl
    | _ => simp [vLen, seqOf] at e
  | [], _, p => exact p.elim
  | _ :: _ :: _, _, p => exact p.elim
def rListA (K : PySem.W.Frag) : List V → Hp → VK → Prop := fun xs H Q => (∃ p ys, xs = [.ref p] ∧ (SqL K H p ys ∨ SqT K H p ys) ∧ ∀ l, H l = none → Q (.ref l) (upd H l (.lst ys))) ∨
  (∃ (a : Addr) (kvs : List (Key × V)), xs = [.ref a] ∧ Rd H a (.dK kvs) ∧ ∀ p, H p = none → Q (.ref p) (upd H p (.lst (kvs.map fun kv => kV kv.1))))
theorem ok_list : CallOk K T (rListA K) oList := by
  intro ρ h H vs xs E Q r q p
  match vs, q, p with
  | [v], q, p =>
    obtain ⟨x, rfl, qv⟩ := q.unone
    simp only [oList] at p
    cases e : seqOf h v with
    | some ys =>
      rw [e] at p
      obtain ⟨a, ws, rfl, s, rs⟩ := seq_ok r qv e
      exact .inl ⟨a, ws, rfl, s, fun l n => PR.newLst r p rs n⟩
    | none =>
      rw [e] at p
      cases v with
      | ref k =>
        simp only at p
        cases e1 : h[k]? with
        | none => rw [e1] at p; exact p.elim
        | some o =>
          rw [e1] at p
          cases o with
          | dct kvs =>
            obtain ⟨a, e2, rfl, gs, e3, rs⟩ := r.atRef qv e1
            exact .inr ⟨a, gs, rfl, .inl e3, fun l n => PR.newLst r p rs.keyVals n⟩
          | _ => exact p.elim
      | _ => exact p.elim
  | [], _, p => exact p.elim
  | _ :: _ :: _, _, p => exact p.elim
def rTupleA (K : PySem.W.Frag) : List V → Hp → VK → Prop := fun xs H Q => ∃ p ys, xs = [.ref p] ∧ ((SqL K H p ys ∧ ∀ l, H l = none → Q (.ref l) (upd H l (.tup ys))) ∨ (SqT K H p ys ∧ Q (.ref p) H))
theorem ok_tuple : CallOk K T (rTupleA K) oTuple := by
  intro ρ h H vs xs E Q r q p
  match vs, q, p with
  | [v], q, p =>
    obtain ⟨x, rfl, qv⟩ := q.unone
    simp only [oTuple] at p
    cases e : seqOf h v with
    | some ys =>
      rw [e] at p
      cases v with
      | tup zs =>
        simp [seqOf] at e; subst e
        obtain ⟨a, ws, rfl, s, rs⟩ := id qv
        exact ⟨a, ws, rfl, .inr ⟨s, PR.ok (Q := QV K Q) p r _ qv⟩⟩
      | frl zs =>
        obtain ⟨a, ws, rfl, s, rs⟩ := id qv
        simp [seqOf] at e; subst e
        exact ⟨a, ws, rfl, .inl ⟨s.sq, fun l n => PR.tup r p rs n⟩⟩
      | ref k =>
        simp only [seqOf] at e
        cases e1 : h[k]? with
        | none => rw [e1] at e; cases e
        | some o =>
          rw [e1] at e
          cases o with
          | lst zs =>
            cases e
            obtain ⟨a, e2, rfl, ws, e3, rs⟩ := r.atRef qv e1
            exact ⟨a, ws, rfl, .inl ⟨.of e3, fun l n => PR.tup r p rs n⟩⟩
          | _ => cases e
      | _ => simp [seqOf] at e
    | none => rw [e] at p; exact p.elim
  | [], _, p => exact p.elim
  | _ :: _ :: _, _, p => exact p.elim
/-- from a list of the machine's: its address -/
theorem lst_at (r : R K T ρ h H) {n : Nat} {x : V} {ys : List Val} (qv : VR K ρ H (.ref n) x) (e : seqOf h (.ref n) = some ys) : ∃ a ws, x = .ref a ∧ H a = some (.lst ws) ∧ VRs K ρ H ys ws := by
  simp only [seqOf] at e
  cases e1 : h[n]? with
  | none => rw [e1] at e; cases e
  | some o =>
    rw [e1] at e
    cases o with
    | lst zs =>
      cases e
      obtain ⟨a, e2, rfl, ws, e3, rs⟩ := r.atRef qv e1
      exact ⟨a, ws, rfl, e3, rs⟩
    | _ => cases e
theorem PR.onR {g : Nat → M Val} {vs : List Val} {E : XK} {Q : Val → List Addr → Mem → Hp → Prop} (p : PR K T ρ H E Q (onR g vs h)) : ∃ n, vs = [.ref n] ∧ PR K T ρ H E Q (g n h) := by
  match vs with
  | [] => exact p.elim
  | v :: u :: r => cases v <;> exact p.elim
  | [v] => cases v <;> first | exact ⟨_, rfl, p⟩ | exact p.elim
theorem PR.onII {g : Int → Int → M Val} {vs : List Val} {E : XK} {Q : Val → List Addr → Mem → Hp → Prop} (p : PR K T ρ H E Q (onII g vs h)) : ∃ i j, vs = [.int i, .int j] ∧ PR K T ρ H E Q (g i j h) := by
  match vs with
  | [] => exact p.elim
  | [v] => cases v <;> exact p.elim
  | [v, u] => cases v <;> first | exact p.elim | (cases u <;> first | exact ⟨_, _, rfl, p⟩ | exact p.elim)
  | v :: u :: w :: r => cases v <;> first | exact p.elim | (cases u <;> exact p.elim)
theorem ok_sum : CallOk K T (rSum K) oSum := by
  intro ρ h H vs xs E Q r q p
  obtain ⟨n, rfl, p1⟩ := p.onR
  · obtain ⟨x, rfl, qv⟩ := q.unone
    obtain ⟨w, e, k⟩ := PR.opt r p1
    simp only [Option.map_eq_some_iff, Option.bind_eq_some_iff] at e
    obtain ⟨ns, ⟨ys, e1, e2⟩, rfl⟩ := e
    obtain ⟨a, ws, rfl, e3, rs⟩ := lst_at r qv e1
    obtain ⟨e4, _⟩ := ints_ok rs e2
    subst e4
    exact ⟨a, ns, rfl, .of e3, k _ rfl⟩
theorem ok_all : CallOk K T (rAll K) oAll := by
  intro ρ h H vs xs E Q r q p
  obtain ⟨n, rfl, p1⟩ := p.onR
  · obtain ⟨x, rfl, qv⟩ := q.unone
    obtain ⟨w, e, k⟩ := PR.opt r p1
    simp only [Option.map_eq_some_iff, Option.bind_eq_some_iff] at e
    obtain ⟨ns, ⟨ys, e1, e2⟩, rfl⟩ := e
    obtain ⟨a, ws, rfl, e3, rs⟩ := lst_at r qv e1
    have e4 := bls_ok rs e2
    subst e4
    exact ⟨a, ns, rfl, .of e3, k _ rfl⟩
theorem ok_any : CallOk K T (rAny K) oAny := by
  intro ρ h H vs xs E Q r q p
  obtain ⟨n, rfl, p1⟩ := p.onR
  · obtain ⟨x, rfl, qv⟩ := q.unone
    obtain ⟨w, e, k⟩ := PR.opt r p1
    simp only [Option.map_eq_some_iff, Option.bind_eq_some_iff] at e
    obtain ⟨ns, ⟨ys, e1, e2⟩, rfl⟩ := e
    obtain ⟨a, ws, rfl, e3, rs⟩ := lst_at r qv e1
    have e4 := bls_ok rs e2
    subst e4
    exact ⟨a, ns, rfl, .of e3, k _ rfl⟩
def rSortedA (K : PySem.W.Frag) : List V → Hp → VK → Prop := fun xs H Q => rSortedI K xs H Q ∨ (∃ (a : Addr) (kvs : List (Key × V)) (ks : List Int), xs = [.ref a] ∧ Rd H a (.dK kvs) ∧ kvs.map (·.1) = ks.map Sum.inl ∧ ks.length < 64 ∧
    ∀ (ys : List Int) (p : Addr), ys.Perm ks → ys.Pairwise (· ≤ ·) → H p = none → Q (.ref p) (upd H p (.lst (ys.map V.int))))
theorem ok_sorted : CallOk K T (rSortedA K) oSorted := by
  intro ρ h H vs xs E Q r q p
  obtain ⟨n, rfl, p1⟩ := p.onR
  · obtain ⟨x, rfl, qv⟩ := q.unone
    cases e1 : h[n]? with
    | none => rw [e1] at p1; exact p1.elim
    | some o =>
      rw [e1] at p1
      cases o with
      | dct kvs =>
        simp only at p1
        cases e2 : keyInts kvs with
        | none => rw [e2] at p1; exact p1.elim
        | some ns =>
          rw [e2] at p1
          simp only at p1
          split at p1
          · rename_i hl
            obtain ⟨a, e2', rfl, gs, e3, rs⟩ := r.atRef qv e1
            refine .inr ⟨a, gs, ns, rfl, .inl e3, keyInts_ok rs e2, hl, fun ys l hp hs n => ?_⟩
            rw [sortI_uniq hp hs]
            exact PR.newLst r p1 .of_ints n
          · exact p1.elim
      | lst ys =>
        simp only at p1
        cases e2 : intsOf ys with
        | none => rw [e2] at p1; exact p1.elim
        | some ns =>
          rw [e2] at p1
          obtain ⟨a, e2', rfl, ws, e3, rs⟩ := r.atRef qv e1
          obtain ⟨e4, _⟩ := ints_ok rs e2
          subst e4
          refine .inl ⟨a, ns, rfl, .of e3, fun ys l hp hs n => ?_⟩
          rw [sortI_uniq hp hs]
          exact PR.newLst r p1 .of_ints n
      | _ => exact p1.elim
def rMinA (K : PySem.W.Frag) : List V → Hp → VK → Prop := fun xs H Q => (∃ i j, xs = [.int i, .int j] ∧ Q (.int (if j < i then j else i)) H) ∨ rMinK xs H Q ∨ rMin K xs H Q
theorem ok_min : CallOk K T (rMinA K) oMin := by
  intro ρ h H vs xs E Q r q p
  unfold oMin at p
  split at p
  rotate_left
  · obtain ⟨i, j, rfl, p1⟩ := p.onII
    obtain ⟨x, y, rfl, q1, q2⟩ := q.untwo
    cases q1; cases q2
    exact .inl ⟨i, j, rfl, PR.ok (Q := QV K Q) p1 r _ rfl⟩
  · obtain ⟨n, rfl, p1⟩ := p.onR
    obtain ⟨x, rfl, qv⟩ := q.unone
    simp only [oMinR] at p1
    cases e1 : h[n]? with
    | none => rw [e1] at p1; exact p1.elim
    | some o =>
      rw [e1] at p1
      cases o with
      | dct kvs =>
        simp only at p1
        cases e2 : keyInts kvs with
        | none => rw [e2] at p1; exact p1.elim
        | some ns =>
          rw [e2] at p1
          obtain ⟨w, e, k⟩ := PR.opt r p1
          simp only [Option.map_eq_some_iff] at e
          obtain ⟨mn, e, rfl⟩ := e
          obtain ⟨h1, h2⟩ := minI_some e
          obtain ⟨a, e2', rfl, gs, e3, rs⟩ := r.atRef qv e1
          refine .inr (.inl ⟨a, gs, ns, rfl, e3, keyInts_ok rs e2, fun z => (by rw [z] at h1; simp at h1), fun m' hm hm2 => ?_⟩)
          have : m' = mn := Int.le_antisymm (hm2 _ h1) (h2 _ hm)
          subst this
          exact k _ rfl
      | lst ys =>
        simp only at p1
        cases e2 : intsOf ys with
        | none => rw [e2] at p1; exact p1.elim
        | some ns =>
          rw [e2] at p1
          obtain ⟨w, e, k⟩ := PR.opt r p1
          simp only [Option.map_eq_some_iff] at e
          obtain ⟨mn, e, rfl⟩ := e
          obtain ⟨h1, h2⟩ := minI_some e
          obtain ⟨a, e2', rfl, ws, e3, rs⟩ := r.atRef qv e1
          obtain ⟨e4, _⟩ := ints_ok rs e2
          subst e4
          refine .inr (.inr ⟨a, ns, rfl, .of e3, List.length_pos_of_mem h1, fun m' hm hm2 => ?_⟩)
          have : m' = mn := Int.le_antisymm (hm2 _ h1) (h2 _ hm)
          subst this
          exact k _ rfl
      | _ => exact p1.elim
theorem ok_max : CallOk K T (fun xs H Q => ∃ i j, xs = [.int i, .int j] ∧ Q (.int (if j > i then j else i)) H) oMax := by
  intro ρ h H vs xs E Q r q p
  obtain ⟨i, j, rfl, p1⟩ := p.onII
  · obtain ⟨x, y, rfl, q1, q2⟩ := q.untwo
    cases q1; cases q2
    exact ⟨i, j, rfl, PR.ok (Q := QV K Q) p1 r _ rfl⟩
theorem ok_int : CallOk K T (fun xs H Q => (∃ i, xs = [.int i] ∧ Q (.int i) H) ∨ ∃ k, xs = [.bl k] ∧ Q (.int (if k then 1 else 0)) H) oInt := by
  intro ρ h H vs xs E Q r q p
  match vs with
  | [] => exact p.elim
  | v :: u :: t => cases v <;> exact p.elim
  | [v] =>
    obtain ⟨x, rfl, qv⟩ := q.unone
    cases v with
    | int i => cases qv; exact .inl ⟨i, rfl, PR.ok (Q := QV K Q) p r _ rfl⟩
    | bl i => cases qv; exact .inr ⟨i, rfl, PR.ok (Q := QV K Q) p r _ rfl⟩
    | _ => exact p.elim
end
section
variable {X : Cx} {T : Tabs} {W : WX} {e : Expr} {es : List Expr} {pos p : Pos} {ms : AM}
theorem cr_min3 (hc : X.calm = true) : CallR X (.builtin "min") (rMinA X.K) := (call_min2 hc).or ((cr_minK hc).or (cr_min hc))
theorem se_len (hg : Gl X "len") (hm : X.mg "len" = none) (ha : SA X T W [e] ms) (he : starEach [e] X.env = (false, eval e X.env) :: starEach [] X.env := by rfl) : SE X T W (.Call (.Name "len" p) [e] [] pos) (eFun oLen ms) :=
  se_callB (call_len.or call_lenD) ok_len hg hm PySem.boot_len ha (by decide) (by decide) he rfl
theorem se_list (hc : X.calm = true) (hg : Gl X "list") (hm : X.mg "list" = none) (ha : SA X T W [e] ms) (he : starEach [e] X.env = (false, eval e X.env) :: starEach [] X.env := by rfl) : SE X T W (.Call (.Name "list" p) [e] [] pos) (eFun oList ms) :=
  se_callTy (call_list_of.or (call_listD hc)) ok_list hg hm (by decide +kernel) ha (by decide) (by decide) he rfl
theorem se_tuple (hg : Gl X "tuple") (hm : X.mg "tuple" = none) (ha : SA X T W [e] ms) (he : starEach [e] X.env = (false, eval e X.env) :: starEach [] X.env := by rfl) : SE X T W (.Call (.Name "tuple" p) [e] [] pos) (eFun oTuple ms) :=
  se_callTy call_tuple_of ok_tuple hg hm (by decide +kernel) ha (by decide) (by decide) he rfl
theorem se_sum (hc : X.calm = true) (hg : Gl X "sum") (hm : X.mg "sum" = none) (ha : SA X T W [e] ms) (he : starEach [e] X.env = (false, eval e X.env) :: starEach [] X.env := by rfl) : SE X T W (.Call (.Name "sum" p) [e] [] pos) (eFun oSum ms) :=
  se_callB (cr_sum hc) ok_sum hg hm (by decide +kernel) ha (by decide) (by decide) he rfl
theorem se_all (hc : X.calm = true) (hg : Gl X "all") (hm : X.mg "all" = none) (ha : SA X T W [e] ms) (he : starEach [e] X.env = (false, eval e X.env) :: starEach [] X.env := by rfl) : SE X T W (.Call (.Name "all" p) [e] [] pos) (eFun oAll ms) :=
  se_callB (cr_all hc) ok_all hg hm (by decide +kernel) ha (by decide) (by decide) he rfl
theorem se_any (hc : X.calm = true) (hg : Gl X "any") (hm : X.mg "any" = none) (ha : SA X T W [e] ms) (he : starEach [e] X.env = (false, eval e X.env) :: starEach [] X.env := by rfl) : SE X T W (.Call (.Name "any" p) [e] [] pos) (eFun oAny ms) :=
  se_callB (cr_any hc) ok_any hg hm (by decide +kernel) ha (by decide) (by decide) he rfl
theorem se_sorted (hc : X.calm = true) (hg : Gl X "sorted") (hm : X.mg "sorted" = none) (ha : SA X T W [e] ms) (he : starEach [e] X.env = (false, eval e X.env) :: starEach [] X.env := by rfl) : SE X T W (.Call (.Name "sorted" p) [e] [] pos) (eFun oSorted ms) :=
  se_callB (cr_sortedI.or (call_sortedDI hc)) ok_sorted hg hm (by decide +kernel) ha (by decide) (by decide) he rfl
theorem se_min (hc : X.calm = true) (hg : Gl X "min") (hm : X.mg "min" = none) (ha : SA X T W (e :: es) ms) (he : starEach (e :: es) X.env = (false, eval e X.env) :: starEach es X.env := by rfl) (hpl : (backTo pos (starEach es X.env)).any (·.1) = false := by rfl) :
    SE X T W (.Call (.Name "min" p) (e :: es) [] pos) (eFun oMin ms) := se_callB (cr_min3 hc) ok_min hg hm (by decide +kernel) ha (by decide) (by decide) he hpl
theorem se_max (hc : X.calm = true) (hg : Gl X "max") (hm : X.mg "max" = none) (ha : SA X T W (e :: es) ms) (he : starEach (e :: es) X.env = (false, eval e X.env) :: starEach es X.env := by rfl) (hpl : (backTo pos (starEach es X.env)).any (·.1) = false := by rfl) :
    SE X T W (.Call (.Name "max" p) (e :: es) [] pos) (eFun oMax ms) := se_callB (call_max2 hc) ok_max hg hm (by decide +kernel) ha (by decide) (by decide) he hpl
theorem se_intc (hg : Gl X "int") (hm : X.mg "int" = none) (ha : SA X T W [e] ms) (he : starEach [e] X.env = (false, eval e X.env) :: starEach [] X.env := by rfl) : SE X T W (.Call (.Name "int" p) [e] [] pos) (eFun oInt ms) :=
  se_callTy call_int1 ok_int hg hm (by decide +kernel) ha (by decide) (by decide) he rfl
end
end EV

/-! Ev6: isinstance, subscripts, slices, fields, in, built-in methods. -/
namespace EV
open PySem PySem.Spec L2

section
variable {X : Cx} {T : Tabs} {W : WX} {e a b : Expr} {es : List Expr} {pos p : Pos} {m ma mb : EM} {ms : AM}
theorem PE.or {t1 t2 : TE} (p1 : PE X e t1) (p2 : PE X e t2) : PE X e (fun σ H Q => t1 σ H Q ∨ t2 σ H Q) := ⟨fun pins s σ H Q I h => h.elim (p1.run pins s σ H Q I) (p2.run pins s σ H Q I)⟩
theorem PT.or {t1 t2 : TT} (p1 : PT X e t1) (p2 : PT X e t2) : PT X e (fun σ H Q => t1 σ H Q ∨ t2 σ H Q) := ⟨fun pins s σ H Q I h => h.elim (p1.run pins s σ H Q I) (p2.run pins s σ H Q I)⟩

/-! ### isinstance -/
theorem ty_ok {K : PySem.W.Frag} {ρ : List Addr} {h : Mem} {H : Hp} (r : R K T ρ h H) {v : Val} {x : V} {t : String} (q : VR K ρ H v x) (e : tyOf h v = some t) : TyX K H x (.type t) := by
  cases v with
  | non => cases e; cases q; exact .base .non
  | bl b => cases e; cases q; exact .base (.bl b)
  | int i => cases e; cases q; exact .base (.int i)
  | str i => cases e; cases q; exact .base (.str i)
  | tup xs =>
    cases e
    obtain ⟨a, vs, rfl, s, rs⟩ := q
    rcases s with (s | ⟨o, s⟩) | ⟨o, its, n, s, c, _⟩
    · exact .base (.tup s)
    · exact .fTuple s
    · exact .kTuple s c
  | frl xs =>
    cases e
    obtain ⟨a, vs, rfl, s, rs⟩ := q
    rcases s with ⟨o, s⟩ | ⟨o, its, n, s, c, _⟩
    · exact .base (.frz s)
    · exact .kList s c
  | ref n =>
    simp only [tyOf] at e
    cases e1 : h[n]? with
    | none => rw [e1] at e; cases e
    | some o =>
      rw [e1] at e
      obtain ⟨a, e2, rfl, w⟩ := r.atRef q e1
      cases o with
      | lst xs => cases e; obtain ⟨vs, w, _⟩ := w; exact .base (.lst w)
      | dct xs => cases e; obtain ⟨vs, w, _⟩ := w; exact .base (.dK w)
      | dtt xs => cases e; obtain ⟨vs, w, _⟩ := w; exact .base (.dT w)
      | ins _ _ => cases e
  | exn _ _ => cases e
theorem isi1_ok {K : PySem.W.Frag} {t c : String} {b : Bool} (e : isiB t [c] = some b) : PySem.W.kitOne K (.type t) (.type c) = some b := by
  refine kit_ty ?_
  unfold isiB at e
  cases e1 : kitB t c with
  | none => rw [e1] at e; cases e
  | some k => rw [e1] at e; cases k <;> exact e
theorem isi_ok {K : PySem.W.Frag} {t : String} : ∀ {cs : List String} {b : Bool}, isiB t cs = some b → PySem.W.kitAny K (.type t) (cs.map Value.type) = some b
  | [], b, e => by cases e; exact kitAny_nil
  | c :: cs, b, e => by
    unfold isiB at e
    cases e1 : kitB t c with
    | none => rw [e1] at e; cases e
    | some k =>
      rw [e1] at e
      cases k with
      | true => cases e; exact kitAny_cons (kit_ty e1) (fun z => by cases z) fun _ => rfl
      | false => exact kitAny_cons (kit_ty e1) (fun _ => isi_ok e) fun z => by cases z
theorem se_isi {t : Str} {pt : Pos} {n : String} (hg : Gl X "isinstance") (hm : X.mg "isinstance" = none) (ha : SE X T W e m) (hgt : Gl X t) (hmt : X.mg t = none) (hvt : bootBuiltins t = some (.type n)) (hnt : t ≠ "__name__" := by decide) (hdt : (t == ("__debug__" : Str)) = false := by decide)
    (he : starEach [e, .Name t pt] X.env = (false, eval e X.env) :: starEach [.Name t pt] X.env := by rfl) (he2 : starEach [.Name t pt] X.env = (false, eval (.Name t pt) X.env) :: starEach [] X.env := by rfl) (hpl : (backTo pos (starEach [.Name t pt] X.env)).any (·.1) = false := by rfl) :
    SE X T W (.Call (.Name "isinstance" p) [e, .Name t pt] [] pos) (eIsi m [n]) := by
  refine PE.imp (pe_callB call_isi hg hm (by decide +kernel) (pa_cons ha (pa_cons (pe_bltn (v := .ty n) hgt hmt hvt rfl hnt hdt) pa_nil he2) he) (by decide) (by decide) he hpl) fun σ H Q ⟨sv, ρ, h, rs, r, p⟩ => ⟨sv, ρ, h, rs, r, p.bind.mono fun v ρ' h' H' x r' p' y q => ?_⟩
  obtain ⟨w, e1, k⟩ := PR.opt r' p'
  simp only [Option.map_eq_some_iff, Option.bind_eq_some_iff] at e1
  obtain ⟨b, ⟨tn, e2, e3⟩, rfl⟩ := e1
  exact ⟨y, .ty n, .type tn, .type n, b, rfl, .ty n, ty_ok r' q e2, isi1_ok e3, k _ rfl⟩
theorem se_isi2 {t t2 : Str} {pt pt2 : Pos} {n n2 : String} {j : Nat} {tp : Pos} (hg : Gl X "isinstance") (hm : X.mg "isinstance" = none) (ha : SE X T W e m) (hgt : Gl X t) (hmt : X.mg t = none) (hvt : bootBuiltins t = some (.type n))
    (hgt2 : Gl X t2) (hmt2 : X.mg t2 = none) (hvt2 : bootBuiltins t2 = some (.type n2)) (hnt : t ≠ "__name__" := by decide) (hdt : (t == ("__debug__" : Str)) = false := by decide) (hnt2 : t2 ≠ "__name__" := by decide) (hdt2 : (t2 == ("__debug__" : Str)) = false := by decide)
    (he : starEach [e, .Tuple [.Name t pt, .Name t2 pt2] j tp] X.env = (false, eval e X.env) :: starEach [.Tuple [.Name t pt, .Name t2 pt2] j tp] X.env := by rfl)
    (he2 : starEach [.Tuple [.Name t pt, .Name t2 pt2] j tp] X.env = (false, eval (.Tuple [.Name t pt, .Name t2 pt2] j tp) X.env) :: starEach [] X.env := by rfl)
    (he3 : starEach [.Name t pt, .Name t2 pt2] X.env = (false, eval (.Name t pt) X.env) :: starEach [.Name t2 pt2] X.env := by rfl) (he4 : starEach [.Name t2 pt2] X.env = (false, eval (.Name t2 pt2) X.env) :: starEach [] X.env := by rfl)
    (hpl : (backTo pos (starEach [.Tuple [.Name t pt, .Name t2 pt2] j tp] X.env)).any (·.1) = false := by rfl) :
    SE X T W (.Call (.Name "isinstance" p) [e, .Tuple [.Name t pt, .Name t2 pt2] j tp] [] pos) (eIsi m [n, n2]) := by
  refine PE.imp (pe_callB call_isiT hg hm (by decide +kernel) (pa_cons ha (pa_cons (pe_tup (pa_cons (pe_bltn (v := .ty n) hgt hmt hvt rfl hnt hdt) (pa_cons (pe_bltn (v := .ty n2) hgt2 hmt2 hvt2 rfl hnt2 hdt2) pa_nil he4) he3)) pa_nil he2) he) (by decide) (by decide) he hpl)
    fun σ H Q ⟨sv, ρ, h, rs, r, p⟩ => ⟨sv, ρ, h, rs, r, p.bind.mono fun v ρ' h' H' x r' p' y q => ?_⟩
  obtain ⟨w, e1, k⟩ := PR.opt r' p'
  simp only [Option.map_eq_some_iff, Option.bind_eq_some_iff] at e1
  obtain ⟨b, ⟨tn, e2, e3⟩, rfl⟩ := e1
  refine ⟨le_line (by decide : 2 ≤ 1000000), fun tp nt => ?_⟩
  refine ⟨y, tp, [.ty n, .ty n2], .type tn, [.type n, .type n2], b, rfl, upd_same, .cons (.ty n) (.cons (.ty n2) .nil), ?_, isi_ok (cs := [n, n2]) e3, ?_⟩
  · exact ty_ok (r'.side nt) (q.ext (.side nt)) e2
  · exact p'.ext (.side nt) |> fun z => by
      rw [show (tyOf h' v).bind (fun t => isiB t [n, n2]) = some b by rw [e2]; exact e3] at z
      exact PR.ok (Q := QV X.K Q) z (r'.side nt) _ rfl

/-! ### subscripts -/
theorem se_ix {n : Nat} (hr : Room n X.A) (ha : SE X T W a ma) (hb : SE X T W b mb) (hs : PlainIx b := by exact fun _ _ => rfl) : SE X T W (.Subscript a b pos) (eOp2 oIx ma mb) := by
  refine PE.imp (PE.or (pe_ix ix_seq ha hb hs) (pe_dget (hu_of hr) ha hb hs)) fun σ H Q p => ?_
  obtain ⟨sv, ρ, h, rs, r, p0⟩ := id p
  -- by what the receiver is
  have seqs : (tOp (rIx X.K) (tE X.K T W ma) (tE X.K T W mb) σ H Q) ∨ (tDGet (tE X.K T W ma) (tE X.K T W mb) σ H Q) := by
    unfold eOp2 mBind at p0
    cases e1 : ma sv h with
    | none => rw [e1] at p0; exact p0.elim
    | some rv =>
      rw [e1] at p0
      cases rv with
      | ex c xs h' => exact .inl ⟨sv, ρ, h, rs, r, by rw [e1]; exact p0⟩
      | ok v h1 =>
        simp only at p0
        cases e2 : mb sv h1 with
        | none => rw [e2] at p0; exact p0.elim
        | some ru =>
          rw [e2] at p0
          cases ru with
          | ex c xs h' =>
            refine .inl ⟨sv, ρ, h, rs, r, ?_⟩
            rw [e1]
            intro ρ1 H1 x1 r1 y q
            exact ⟨sv, ρ1, h1, rs.ext x1, r1, by rw [e2]; exact PR.ext (r := some (.ex c xs h')) p0 x1⟩
          | ok u h2 =>
            simp only at p0
            -- what stands there
            by_cases hd : ∃ n kvs, v = .ref n ∧ h2[n]? = some (.dct kvs)
            · obtain ⟨n, kvs, rfl, en⟩ := hd
              refine .inr ⟨sv, ρ, h, rs, r, ?_⟩
              rw [e1]
              intro ρ1 H1 x1 r1 y q
              refine ⟨sv, ρ1, h1, rs.ext x1, r1, ?_⟩
              rw [e2]
              intro ρ2 H2 x2 r2 z q2
              obtain ⟨w, e3, k⟩ := PR.opt r2 (PR.ext p0 (x1.trans x2))
              simp only [vIx, en, Option.bind_eq_some_iff] at e3
              obtain ⟨ky, e4, e5⟩ := e3
              obtain ⟨ad, e6, rfl, gs, e7, dr⟩ := r2.atRef (q.ext x2) en
              obtain ⟨x, e8, q8⟩ := (dr.get ky).1 w e5
              have e9 := key_ok q2 e4
              subst e9
              exact ⟨ad, x, rfl, by rw [← e8]; exact .k e7, k x q8⟩
            · refine .inl ⟨sv, ρ, h, rs, r, ?_⟩
              rw [e1]
              intro ρ1 H1 x1 r1 y q
              refine ⟨sv, ρ1, h1, rs.ext x1, r1, ?_⟩
              rw [e2]
              intro ρ2 H2 x2 r2 z q2
              obtain ⟨w, e3, k⟩ := PR.opt r2 (PR.ext p0 (x1.trans x2))
              have q1 := q.ext x2
              have sq : ∀ {xs : List Val} {i : Int}, seqOf h2 v = some xs → u = .int i → atI xs i = some w → rIx X.K y z H2 Q := by
                intro xs i e4 e5 e6
                subst e5
                obtain ⟨ad, vs, rfl, s, rv⟩ := seq_ok r2 q1 e4
                obtain ⟨x, e7, q7⟩ := atI_ok rv e6
                cases q2
                rcases s with s | s
                · exact .inl ⟨ad, vs, i, x, rfl, rfl, s, e7, k x q7⟩
                · exact .inr (.inl ⟨ad, vs, i, x, rfl, rfl, s, e7, k x q7⟩)
              cases v with
              | str s =>
                simp only [vIx] at e3
                cases u with
                | int i =>
                  simp only at e3
                  split at e3
                  · rename_i hl
                    simp only [Option.map_eq_some_iff] at e3
                    obtain ⟨c, e4, rfl⟩ := e3
                    cases q1; cases q2
                    exact .inr (.inr ⟨s, i, c, rfl, rfl, le_line hl, e4, k _ rfl⟩)
                  · cases e3
                | _ => cases e3
              | ref n =>
                simp only [vIx] at e3
                cases e4 : h2[n]? with
                | none => rw [e4] at e3; cases e3
                | some o =>
                  rw [e4] at e3
                  cases o with
                  | lst xs =>
                    cases u with
                    | int i => exact sq (by simp [seqOf, e4]) rfl e3
                    | _ => cases e3
                  | dct kvs => exact (hd ⟨n, kvs, rfl, e4⟩).elim
                  | _ => cases e3
              | tup xs =>
                cases u with
                | int i => exact sq rfl rfl e3
                | _ => cases e3
              | frl xs =>
                cases u with
                | int i => exact sq rfl rfl e3
                | _ => cases e3
              | _ => simp [vIx, seqOf] at e3
  exact seqs
end

/-! ### slices -/
def cutL (xs : List Val) (lo hi : Option Int) : List Val := (xs.drop (HT.sIx xs.length 0 lo)).take (HT.sIx xs.length xs.length hi - HT.sIx xs.length 0 lo)
def oSl (v : Val) (lo hi : Option Int) : M Val := fun h =>
  match v with
  | .str s => if s.length ≤ 1000000 then some (.ok (.str (cutS s lo hi)) h) else none
  | .tup xs => some (.ok (.tup (cutL xs lo hi)) h)
  | v => match seqOf h v with
    | some xs => mNew (.lst (cutL xs lo hi)) h
    | none => none
abbrev OM := Sg → M (Option Int)
def pNo : OM := fun _ => mRet none
def pSome (m : EM) : OM := fun σ => mBind (m σ) fun v => match v with | .int i => mRet (some i) | _ => mBad
def eSl (m : EM) (lo hi : OM) : EM := fun σ => mBind (m σ) fun v => mBind (lo σ) fun l => mBind (hi σ) fun u => oSl v l u
def tP (K : PySem.W.Frag) (T : Tabs) (W : WX) (m : OM) : TO := fun σ H Q => ∃ sv ρ h, RS K ρ H σ sv ∧ R K T ρ h H ∧ PR K T ρ H (fun c d H' => W c d σ H') (fun i _ _ H' => Q i H') (m sv h)
section
variable {X : Cx} {T : Tabs} {W : WX} {e : Expr} {lo hi : Option Expr} {pos p2 : Pos} {m : EM} {ml mh : OM}
theorem PO.imp {o : Option Expr} {t t' : TO} (p : PO X o t) (h : ∀ σ H Q, t' σ H Q → t σ H Q) : PO X o t' := ⟨fun pins s σ H Q I q => p.run pins s σ H Q I (h _ _ _ q)⟩
theorem so_no : PO X none (tP X.K T W pNo) := PO.imp po_none fun σ H Q ⟨sv, ρ, h, rs, r, p⟩ => p ρ H .refl r
theorem so_some (ha : SE X T W e m) : PO X (some e) (tP X.K T W (pSome m)) := by
  refine PO.imp (po_some ha) fun σ H Q ⟨sv, ρ, h, rs, r, p⟩ => ⟨sv, ρ, h, rs, r, p.bind.mono fun v ρ' h' H' x r' p' y q => ?_⟩
  cases v with
  | int i => cases q; exact ⟨i, rfl, p' ρ' H' .refl r'⟩
  | _ => exact p'.elim
theorem cutL_ok {K : PySem.W.Frag} {ρ : List Addr} {H : Hp} {xs : List Val} {vs : List V} (rs : VRs K ρ H xs vs) (lo hi : Option Int) : VRs K ρ H (cutL xs lo hi) (cutV vs lo hi) := by
  unfold cutL cutV
  rw [rs.length]
  exact (rs.drop _).take _
theorem se_sl (ha : SE X T W e m) (hl : PO X lo (tP X.K T W ml)) (hh : PO X hi (tP X.K T W mh)) : SE X T W (.Subscript e (.Slice lo hi none p2) pos) (eSl m ml mh) := by
  refine PE.imp (pe_slice ((sl_str.or sl_list).or sl_tupA) ha hl hh) fun σ H Q ⟨sv, ρ, h, rs, r, p⟩ => ⟨sv, ρ, h, rs, r, p.bind.mono fun v ρ' h' H' x r' p' y q => ?_⟩
  refine ⟨sv, ρ', h', rs.ext x, r', p'.bind.mono fun l ρ2 h2 H2 x2 r2 p2 => ?_⟩
  refine ⟨sv, ρ2, h2, (rs.ext x).ext x2, r2, p2.bind.mono fun u ρ3 h3 H3 x3 r3 p3 => ?_⟩
  have q3 := (q.ext x2).ext x3
  cases v with
  | str s =>
    simp only [oSl] at p3
    split at p3
    · rename_i hs
      cases q3
      exact .inl (.inl ⟨s, rfl, le_line hs, PR.ok (Q := QV X.K Q) p3 r3 _ rfl⟩)
    · exact p3.elim
  | tup xs =>
    obtain ⟨ad, vs, rfl, s, rv⟩ := q3
    have e1 := rv.length
    refine .inr ⟨ad, vs, rfl, s, fun ⟨h1, h2⟩ => ?_, fun _ nw n => PR.tup r3 p3 (cutL_ok rv l u) n⟩
    have e2 : cutL xs l u = xs := by
      unfold cutL
      rw [e1, h1, h2, List.drop_zero, Nat.sub_zero, ← e1, List.take_length]
    have p4 : PR X.K T ρ3 H3 _ (QV X.K Q) (some (.ok (.tup (cutL xs l u)) h3)) := p3
    rw [e2] at p4
    exact PR.ok (Q := QV X.K Q) p4 r3 _ ⟨ad, vs, rfl, s, rv⟩
  | frl xs =>
    obtain ⟨ad, vs, rfl, s, rv⟩ := q3
    exact .inl (.inr ⟨ad, vs, rfl, s.sq, fun nw n => PR.newLst r3 p3 (cutL_ok rv l u) n⟩)
  | ref k =>
    simp only [oSl] at p3
    cases e1 : seqOf h3 (.ref k) with
    | none => rw [e1] at p3; exact p3.elim
    | some xs =>
      rw [e1] at p3
      obtain ⟨ad, ws, rfl, e3, rv⟩ := lst_at r3 q3 e1
      exact .inl (.inr ⟨ad, ws, rfl, .of e3, fun nw n => PR.newLst r3 p3 (cutL_ok rv l u) n⟩)
  | _ => simp only [oSl, seqOf] at p3; exact p3.elim
end

/-! ### fields -/
def fGet (k : Nat) : List (Nat × Val) → Option Val
  | [] => none
  | (j, v) :: r => if j = k then some v else fGet k r
def fPut (k : Nat) (v : Val) : List (Nat × Val) → List (Nat × Val)
  | [] => [(k, v)]
  | (j, u) :: r => if j = k then (j, v) :: r else (j, u) :: fPut k v r
def insOf (h : Mem) : Val → Option (Nat × List (Nat × Val))
  | .ref n => match h[n]? with
    | some (.ins c fs) => some (c, fs)
    | _ => none
  | _ => none
def oFld (k : Nat) (v : Val) : M Val := fun h => mOpt ((insOf h v).bind fun cf => fGet k cf.2) h
/-- what the classes and fields must be -/
structure CF (K : PySem.W.Frag) (T : Tabs) : Prop where
  cls : ∀ c, Cls K (T.cls c)
  no : ∀ c f, f < T.nf → NoAttr K (T.cls c) (T.fnm f)
  inj : ∀ f g, T.fnm f = T.fnm g → f < T.nf → g < T.nf → f = g
section
variable {K : PySem.W.Frag} {T : Tabs} {ρ : List Addr} {h : Mem} {H : Hp}
theorem FR.get {fs : List (Nat × Val)} {gs : List (Str × V)} (r : FR K T ρ H fs gs) {k : Nat} {v : Val} (c : CF K T) (hk : k < T.nf) (e : fGet k fs = some v) : ∃ x, gs.lookup (T.fnm k) = some x ∧ VR K ρ H v x := by
  induction r with
  | nil => simp [fGet] at e
  | @cons j u x t s hj q _ ih =>
    simp only [fGet] at e
    rw [lookup_put]
    split at e
    · rename_i ej
      subst ej
      cases e
      exact ⟨x, by rw [if_pos rfl], q⟩
    · rename_i ej
      rw [if_neg fun z => ej (c.inj _ _ z.symm hj hk)]
      exact ih e
theorem FR.put {fs : List (Nat × Val)} {gs : List (Str × V)} (r : FR K T ρ H fs gs) {k : Nat} {v : Val} {x : V} (c : CF K T) (hk : k < T.nf) (q : VR K ρ H v x) : FR K T ρ H (fPut k v fs) (putF (T.fnm k) x gs) := by
  induction r with
  | nil => exact .cons hk q .nil
  | @cons j u y t s hj q' _ ih =>
    unfold fPut putF
    by_cases ej : j = k
    · subst ej
      rw [if_pos rfl, if_pos rfl]
      rename_i r'
      exact .cons hj q r'
    · rw [if_neg ej, if_neg fun z => ej (c.inj _ _ z hj hk)]
      exact .cons hj q' ih
theorem FR.notin {fs : List (Nat × Val)} {gs : List (Str × V)} (r : FR K T ρ H fs gs) {m : Str} (hm : ∀ f, f < T.nf → T.fnm f ≠ m) : gs.lookup m = none := by
  induction r with
  | nil => rfl
  | cons hj _ _ ih => rw [lookup_put, if_neg fun z => hm _ hj z.symm]; exact ih
theorem ins_ok (r : R K T ρ h H) {v : Val} {x : V} {c : Nat} {fs : List (Nat × Val)} (q : VR K ρ H v x) (e : insOf h v = some (c, fs)) : ∃ n a dx gs, v = .ref n ∧ ρ[n]? = some a ∧ x = .ref a ∧ h[n]? = some (.ins c fs) ∧ H a = some (.ins (T.cls c) dx gs) ∧ FR K T ρ H fs gs := by
  cases v with
  | ref n =>
    simp only [insOf] at e
    cases e1 : h[n]? with
    | none => rw [e1] at e; cases e
    | some o =>
      rw [e1] at e
      cases o with
      | ins c' fs' =>
        cases e
        obtain ⟨a, e2, rfl, dx, gs, e3, f⟩ := r.atRef q e1
        exact ⟨n, a, dx, gs, rfl, e2, rfl, e1, e3, f⟩
      | _ => cases e
  | _ => simp [insOf] at e
end
section
variable {X : Cx} {T : Tabs} {W : WX} {e : Expr} {pos : Pos} {m : EM}
theorem se_fld (k : Nat) {f : Str} (c : CF X.K T) (he : SE X T W e m) (hk : T.fnm k = f) (h32 : k < T.nf) (hb : attributeBase e f X.env (eval e X.env) = eval e X.env := by rfl) : SE X T W (.Attribute e f pos) (eOp1 (oFld k) m) := by
  refine PE.imp (pe_fld he hb) fun σ H Q p => ?_
  obtain ⟨sv, ρ, h, rs, r, p⟩ := tE.op1 p
  refine ⟨sv, ρ, h, rs, r, p.mono fun v ρ' h' H' x r' p' y q => ?_⟩
  obtain ⟨ρ2, h2, v2, r2, q2, p2⟩ := p' y q
  obtain ⟨w, e1, kk⟩ := PR.opt r2 p2
  simp only [Option.bind_eq_some_iff] at e1
  obtain ⟨⟨c1, fs⟩, e2, e3⟩ := e1
  obtain ⟨n, a, dx, gs, rfl, e4, rfl, e5, e6, fr⟩ := ins_ok r2 q2 e2
  obtain ⟨x3, e7, q7⟩ := fr.get c h32 e3
  subst hk
  exact ⟨a, _, dx, gs, x3, rfl, e6, c.cls c1, c.no c1 k h32, e7, kk x3 q7⟩
end
end EV

/-! Ev7: statements, loops, comprehensions. -/
namespace EV
open PySem PySem.Spec L2

/-! ### statements of the machine -/
def sBind {α : Type} (m : Sg → M α) (k : α → SM) : SM := fun σ h => match m σ h with
  | none => none
  | some (.ok a h') => k a σ h'
  | some (.ex c xs h') => some (.ex c xs σ h')
def sNx : SM := fun σ h => some (.nx σ h)
def sBad : SM := fun _ _ => none
def sSeq (a b : SM) : SM := fun σ h => match a σ h with
  | some (.nx σ' h') => b σ' h'
  | r => r
def sSet (i : Nat) (m : EM) : SM := sBind m fun v σ h => some (.nx (σ.set i (some v)) h)
def sExpr (m : EM) : SM := sBind m fun _ => sNx
def sRet (m : EM) : SM := sBind m fun v _ h => some (.rt v h)
def sRetN : SM := fun _ h => some (.rt .non h)
def sIf (c : BM) (a b : SM) : SM := sBind c fun k => if k = true then a else b
/-- a target: what the slots are behind it -/
abbrev Tgt := Val → Sg → Option Sg
def gN (i : Nat) : Tgt := fun v σ => some (σ.set i (some v))
def gSeq : List Tgt → List Val → Sg → Option Sg
  | [], [], σ => some σ
  | t :: ts, v :: vs, σ => (t v σ).bind (gSeq ts vs)
  | _, _, _ => none
def gT (ts : List Tgt) : Tgt := fun v σ => match v with
  | .tup xs => gSeq ts xs σ
  | _ => none
def sAsg (m : EM) (g : Tgt) : SM := sBind m fun v σ h => match g v σ with
  | some σ' => some (.nx σ' h)
  | none => none
/-- o.f = e -/
def sFld (k : Nat) (mo mv : EM) : SM := sBind mv fun y => sBind mo fun x σ h => match x, insOf h x with
  | .ref n, some (c, fs) => if fs.length < 900 then some (.nx σ (h.set n (.ins c (fPut k y fs)))) else none
  | _, _ => none
/-- o[i] = e: a list or a dict -/
def vSetIx (h : Mem) (o i v : Val) : Option Mem := match o with
  | .ref n => match h[n]? with
    | some (.lst xs) => match i with
      | .int j => (ixN xs.length j).map fun k => h.set n (.lst (xs.set k v))
      | _ => none
    | some (.dct kvs) => match keyOf i with
      | some k => if kvs.length < 1000000 then some (h.set n (.dct (dPut kvs k v))) else none
      | none => none
    | _ => none
  | _ => none
def sSetIx (mo mi mv : EM) : SM := sBind mv fun v => sBind mo fun o => sBind mi fun i σ h => match vSetIx h o i v with
  | some h' => some (.nx σ h')
  | none => none

/-! ### what is walked -/
structure Src where
  items : List Val
  chk : Mem → Bool
def yes : Mem → Bool := fun _ => true
def srcSeq (m : EM) : Sg → M Src := fun σ => mBind (m σ) fun v h => match v with
  | .tup xs => some (.ok ⟨xs, yes⟩ h)
  | .frl xs => some (.ok ⟨xs, yes⟩ h)
  | .ref n => match h[n]? with
    | some (.lst xs) => some (.ok ⟨xs, fun h' => decide (h'[n]? = some (.lst xs))⟩ h)
    | _ => none
  | _ => none
def rngV (lo : Int) (n : Nat) : List Val := (List.range n).map fun (i : Nat) => .int (lo + i)
def smallI (i : Int) : Bool := decide (-(2 ^ 62) ≤ i ∧ i < 2 ^ 62)
def srcR1 (m : EM) : Sg → M Src := fun σ => mBind (m σ) fun v => match v with
  | .int j => if smallI j = true then mRet ⟨rngV 0 j.toNat, yes⟩ else mBad
  | _ => mBad
def srcR2 (m m2 : EM) : Sg → M Src := fun σ => mBind (m σ) fun v => mBind (m2 σ) fun u => match v, u with
  | .int i, .int j => if (smallI i && smallI j) = true then mRet ⟨rngV i (j - i).toNat, yes⟩ else mBad
  | _, _ => mBad
def pairUp : List Val → List Val → List Val
  | a :: r, b :: t => .tup [a, b] :: pairUp r t
  | _, _ => []
def lstOf (h : Mem) : Val → Option (List Val)
  | .frl xs => some xs
  | .ref n => match h[n]? with
    | some (.lst xs) => some xs
    | _ => none
  | _ => none
/-- zip of two lists or of two tuples -/
def zipV (h : Mem) (v u : Val) : Option Src := match v with
  | .tup xs => match u with
    | .tup ys => some ⟨pairUp xs ys, yes⟩
    | _ => none
  | v => (lstOf h v).bind fun xs => (lstOf h u).map fun ys => ⟨pairUp xs ys, fun h' => decide (lstOf h' v = some xs ∧ lstOf h' u = some ys)⟩
def srcZip (m m2 : EM) : Sg → M Src := fun σ => mBind (m σ) fun v => mBind (m2 σ) fun u h => mOpt (zipV h v u) h

/-! ### loops -/
def forL (g : Tgt) (body : SM) (chk : Mem → Bool) : List Val → SM
  | [], σ, h => if chk h = true then some (.nx σ h) else none
  | v :: vs, σ, h => if chk h = true then match g v σ with
    | none => none
    | some σ1 => match body σ1 h with
      | some (.nx σ2 h2) => forL g body chk vs σ2 h2
      | r => r
    else none
def sFor (src : Sg → M Src) (g : Tgt) (body : SM) : SM := sBind src fun s => forL g body s.chk s.items
/-- an exception within is not carried -/
def noEx {α : Type} (m : M α) : M α := fun h => match m h with
  | some (.ok a h') => some (.ok a h')
  | _ => none
def wipeS (σ : Sg) : List Nat → Sg
  | [] => σ
  | i :: r => (wipeS σ r).set i none
def lcL (g : Tgt) (cond : BM) (elt : EM) (chk : Mem → Bool) (σ : Sg) : List Val → M (List Val)
  | [], h => if chk h = true then some (.ok [] h) else none
  | v :: vs, h => if chk h = true then match g v σ with
    | none => none
    | some σ1 => mBind (noEx (cond σ1)) (fun b => if b = true then mBind (noEx (elt σ1)) fun y => mBind (lcL g cond elt chk σ vs) fun ys => mRet (y :: ys) else lcL g cond elt chk σ vs) h
    else none
def bYes : BM := fun _ => mRet true
def eLc (ix : List Nat) (src : Sg → M Src) (g : Tgt) (cond : BM) (elt : EM) : EM := fun σ => mBind (src σ) fun s => if s.items.length ≤ 1000000 then mBind (lcL g cond elt s.chk (wipeS σ ix) s.items) fun ys => mNew (.lst ys) else mBad

/-! ### readings of statements -/
section
variable (K : PySem.W.Frag) (T : Tabs)
def PS' (W : WX) (D : Ends) (ρ : List Addr) (H : Hp) : Option Out → Prop
  | none => False
  | some (.nx sv' h') => ∀ ρ' H' σ', Ext K ρ H ρ' H' → R K T ρ' h' H' → RS K ρ' H' σ' sv' → D.nx σ' H'
  | some (.rt v h') => ∀ ρ' H' x, Ext K ρ H ρ' H' → R K T ρ' h' H' → VR K ρ' H' v x → D.rt x H'
  | some (.ex c xs sv' h') => ∀ ρ' H' σ' cv d, Ext K ρ H ρ' H' → R K T ρ' h' H' → RS K ρ' H' σ' sv' → XR K T ρ' H' c xs cv d → W cv d σ' H'
def tS (W : WX) (m : SM) : TS := fun D σ H => ∃ sv ρ h, RS K ρ H σ sv ∧ R K T ρ h H ∧ PS' K T W D ρ H (m sv h)
end
section
variable {X : Cx} {T : Tabs} {W : WX} {e a b : Expr} {es : List Expr} {pos p : Pos} {m ma mb : EM} {st : Stmt} {sts : List Stmt} {s s' : SM} {K : PySem.W.Frag} {ρ ρ' : List Addr} {H H' : Hp} {h : Mem} {D : Ends}
theorem PS.imp {t t' : TS} (p : PS X st t) (h : ∀ D σ H, t' D σ H → t D σ H) : PS X st t' := ⟨fun pins s σ H D I q => p.run pins s σ H D I (h _ _ _ q)⟩
theorem PSs.imp {t t' : TS} (p : PSs X sts t) (h : ∀ D σ H, t' D σ H → t D σ H) : PSs X sts t' := ⟨fun pins s σ H D I q => p.run pins s σ H D I (h _ _ _ q)⟩
theorem PS.or {t1 t2 : TS} (p1 : PS X st t1) (p2 : PS X st t2) : PS X st (fun D σ H => t1 D σ H ∨ t2 D σ H) := ⟨fun pins s σ H D I h => h.elim (p1.run pins s σ H D I) (p2.run pins s σ H D I)⟩
abbrev SS (X : Cx) (T : Tabs) (W : WX) (st : Stmt) (s : SM) : Prop := PS X st (tS X.K T W s)
abbrev SSs (X : Cx) (T : Tabs) (W : WX) (sts : List Stmt) (s : SM) : Prop := PSs X sts (tS X.K T W s)
theorem PS'.ext {o : Option Out} (p : PS' K T W D ρ H o) (x : Ext K ρ H ρ' H') : PS' K T W D ρ' H' o := by
  match o, p with
  | some (.nx _ _), p => exact fun ρ' H' σ' y r s => p ρ' H' σ' (x.trans y) r s
  | some (.rt _ _), p => exact fun ρ' H' v y r s => p ρ' H' v (x.trans y) r s
  | some (.ex _ _ _ _), p => exact fun ρ' H' σ' cv d y r s t => p ρ' H' σ' cv d (x.trans y) r s t
/-- a part that gives a value, then the rest -/
theorem PS'.bind {α : Type} {m : Sg → M α} {k : α → SM} {σ : L2.St} {sv : Sg} (rs : RS K ρ H σ sv) (p : PS' K T W D ρ H (sBind m k sv h)) : PR K T ρ H (fun c d H' => W c d σ H') (fun a ρ' h' H' => PS' K T W D ρ' H' (k a sv h')) (m sv h) := by
  unfold sBind at p
  match e : m sv h, p with
  | some (.ok a h'), p =>
    have p' : PS' K T W D ρ H (k a sv h') := p
    exact fun ρ' H' x r => p'.ext x
  | some (.ex c xs h'), p => exact fun ρ' H' cv d x r q => p ρ' H' σ cv d x r (rs.ext x) q
theorem tS.bind {σ : L2.St} {k : Val → SM} (p : tS K T W (sBind ma k) D σ H) : tE K T W ma σ H (fun x H1 => ∃ sv ρ h v, RS K ρ H1 σ sv ∧ R K T ρ h H1 ∧ VR K ρ H1 v x ∧ PS' K T W D ρ H1 (k v sv h)) := by
  obtain ⟨sv, ρ, h, rs, r, p⟩ := p
  exact ⟨sv, ρ, h, rs, r, (p.bind rs).mono fun v ρ' h' H' x r' p' y q => ⟨sv, ρ', h', v, rs.ext x, r', q, p'⟩⟩
theorem sss_nil : SSs X T W [] sNx := PSs.imp pss_nil fun D σ H ⟨sv, ρ, h, rs, r, p⟩ => p ρ H σ .refl r rs
theorem sss_cons (h1 : SS X T W st s) (h2 : SSs X T W sts s') : SSs X T W (st :: sts) (sSeq s s') := by
  refine PSs.imp (pss_cons h1 h2) fun D σ H ⟨sv, ρ, h, rs, r, p⟩ => ⟨sv, ρ, h, rs, r, ?_⟩
  unfold sSeq at p
  match e : s sv h, p with
  | some (.nx sv' h'), p => exact fun ρ' H' σ' x r' rs' => ⟨sv', ρ', h', rs', r', PS'.ext p x⟩
  | some (.rt _ _), p => exact p
  | some (.ex _ _ _ _), p => exact p
theorem sss_one (h1 : SS X T W st s) : SSs X T W [st] s := pss_one h1
theorem ss_pass : SS X T W (.Pass pos) sNx := PS.imp ps_pass fun D σ H ⟨sv, ρ, h, rs, r, p⟩ => p ρ H σ .refl r rs
theorem ss_bad : SS X T W st sBad := PS.imp (ps_never (X := X) (st := st)) fun D σ H ⟨sv, ρ, h, rs, r, p⟩ => p.elim
theorem ss_expr (ha : SE X T W e m) (hs : swapsWith e none pos.line X.env = pure false := by rfl) : SS X T W (.Expr e pos) (sExpr m) := by
  refine PS.imp (ps_expr ha hs) fun D σ H p => ?_
  obtain ⟨sv, ρ, h, rs, r, p⟩ := tS.bind p
  exact ⟨sv, ρ, h, rs, r, p.mono fun v ρ' h' H' x r' p' y q => let ⟨sv2, ρ2, h2, v2, rs2, r2, q2, p2⟩ := p' y q; p2 ρ2 _ σ .refl r2 rs2⟩
theorem ss_ret (ha : SE X T W e m) : SS X T W (.Return (some e) pos) (sRet m) := by
  refine PS.imp (ps_ret ha) fun D σ H p => ?_
  obtain ⟨sv, ρ, h, rs, r, p⟩ := tS.bind p
  exact ⟨sv, ρ, h, rs, r, p.mono fun v ρ' h' H' x r' p' y q => let ⟨sv2, ρ2, h2, v2, rs2, r2, q2, p2⟩ := p' y q; p2 ρ2 _ y .refl r2 q2⟩
theorem ss_retN : SS X T W (.Return none pos) sRetN := PS.imp ps_retN fun D σ H ⟨sv, ρ, h, rs, r, p⟩ => p ρ H .non .refl r rfl
theorem ss_if {c : Expr} {bc : BM} {as bs : List Stmt} (hc : ST X T W c bc) (ha : SSs X T W as s) (hb : SSs X T W bs s') : SS X T W (.If c as bs pos) (sIf bc s s') := by
  refine PS.imp (ps_if hc ha hb) fun D σ H ⟨sv, ρ, h, rs, r, p⟩ => ⟨sv, ρ, h, rs, r, (PS'.bind rs p).mono fun k ρ' h' H' x r' p' => ?_⟩
  cases k with
  | true => exact ⟨sv, ρ', h', rs.ext x, r', p'⟩
  | false => exact ⟨sv, ρ', h', rs.ext x, r', p'⟩

/-! ### targets -/
def TgOk (K : PySem.W.Frag) (T : Tabs) (g : TG) (t : Tgt) : Prop :=
  ∀ (ρ : List Addr) (h : Mem) (H : Hp) (σ : L2.St) (sv sv' : Sg) (v : Val) (x : V) (Q : L2.St → Hp → Prop), R K T ρ h H → RS K ρ H σ sv → VR K ρ H v x → t v sv = some sv' → (∀ σ', RS K ρ H σ' sv' → Q σ' H) → g x σ H Q
def TgsOk (K : PySem.W.Frag) (T : Tabs) (g : TGs) (ts : List Tgt) : Prop :=
  ∀ (ρ : List Addr) (h : Mem) (H : Hp) (σ : L2.St) (sv sv' : Sg) (v : List Val) (x : List V) (Q : L2.St → Hp → Prop), R K T ρ h H → RS K ρ H σ sv → VRs K ρ H v x → gSeq ts v sv = some sv' → (∀ σ', RS K ρ H σ' sv' → Q σ' H) → g x σ H Q
/-- a target with its rule -/
structure SG (X : Cx) (T : Tabs) (e : Expr) (t : Tgt) : Prop where
  mk' :: ex : ∃ g, PG X e g ∧ TgOk X.K T g t
structure SGs (X : Cx) (T : Tabs) (es : List Expr) (ts : List Tgt) : Prop where
  mk' :: ex : ∃ g, PGs X es g ∧ TgsOk X.K T g ts
theorem sg_n (i : Nat) {x : Str} (hN : X.N.Nodup) (hi : X.N[i]? = some x := by rfl) (hx : Loc X.env.scope x := by first | exact .inl rfl | exact .inr rfl) (hf : X.fn x = true ∨ X.env.scope.names.lookup x = some .local := by first | exact .inl rfl | exact .inr rfl) : SG X T (.Name x pos) (gN i) :=
  ⟨gName i, pg_name hN hi hx hf, fun ρ h H σ sv sv' v x Q r rs q e k => by cases e; exact k _ (rs.set i q)⟩
theorem sgs_nil : SGs X T [] [] := ⟨gNil, pgs_nil, fun ρ h H σ sv sv' v x Q r rs q e k => by
  cases v with
  | nil => cases q; cases e; exact ⟨rfl, k σ rs⟩
  | cons _ _ => cases e⟩
theorem sgs_cons {t : Tgt} {ts : List Tgt} (h1 : SG X T e t) (h2 : SGs X T es ts) (hs : (assignEach (e :: es) X.env).map (·.2) = assign e X.env :: (assignEach es X.env).map (·.2) := by rfl) : SGs X T (e :: es) (t :: ts) := by
  obtain ⟨g1, p1, k1⟩ := h1.ex
  obtain ⟨g2, p2, k2⟩ := h2.ex
  refine ⟨gCons g1 g2, pgs_cons p1 p2 hs, fun ρ h H σ sv sv' v x Q r rs q e k => ?_⟩
  cases v with
  | nil => cases e
  | cons v vs =>
    obtain ⟨y, t', rfl, q1, q2⟩ := q
    simp only [gSeq, Option.bind_eq_some_iff] at e
    obtain ⟨sv1, e1, e2⟩ := e
    exact ⟨y, t', rfl, k1 ρ h H σ sv sv1 v y _ r rs q1 e1 fun σ' rs' => k2 ρ h H σ' sv1 sv' vs t' Q r rs' q2 e2 k⟩
theorem gSeq_len : ∀ {ts : List Tgt} {vs : List Val} {σ σ' : Sg}, gSeq ts vs σ = some σ' → vs.length = ts.length
  | [], [], _, _, _ => rfl
  | [], _ :: _, _, _, e => by cases e
  | _ :: _, [], _, _, e => by cases e
  | t :: ts, v :: vs, σ, σ', e => by
    simp only [gSeq, Option.bind_eq_some_iff] at e
    obtain ⟨_, _, e2⟩ := e
    simp [gSeq_len e2]
theorem sg_t {k : Nat} {ts : List Tgt} (hc : X.calm = true) (h : SGs X T es ts) (hn : (assignEach es X.env).length = ts.length := by rfl) (hst : (assignEach es X.env).findIdx? (·.1) = none := by rfl) : SG X T (.Tuple es k pos) (gT ts) := by
  obtain ⟨g, p, kk⟩ := h.ex
  refine ⟨gTup X.K ts.length g, pg_tup hc p hn hst, fun ρ h H σ sv sv' v x Q r rs q e k => ?_⟩
  cases v with
  | tup xs =>
    obtain ⟨a, vs, rfl, s, rv⟩ := q
    exact ⟨a, vs, rfl, s, by rw [← rv.length]; exact gSeq_len e, kk ρ h H σ sv sv' xs vs Q r rs rv e k⟩
  | _ => cases e
theorem ss_set (i : Nat) {x : Str} {pos' : Pos} (hN : X.N.Nodup) (ha : SE X T W e m) (hi : X.N[i]? = some x := by rfl) (hx : Loc X.env.scope x := by first | exact .inl rfl | exact .inr rfl) (hs : swapsWith e (some (.Name x pos')) pos.line X.env = pure false := by rfl)
    (hf : X.fn x = true ∨ X.env.scope.names.lookup x = some .local := by first | exact .inl rfl | exact .inr rfl) : SS X T W (.Assign [.Name x pos'] e pos) (sSet i m) := by
  refine PS.imp (ps_set (i := i) hN hi hx ha hs hf) fun D σ H p => ?_
  obtain ⟨sv, ρ, h, rs, r, p⟩ := tS.bind p
  exact ⟨sv, ρ, h, rs, r, p.mono fun v ρ' h' H' x r' p' y q => let ⟨sv2, ρ2, h2, v2, rs2, r2, q2, p2⟩ := p' y q; p2 ρ2 _ _ .refl r2 (rs2.set i q2)⟩
theorem ss_asg {tg : Expr} {t : Tgt} (ha : SE X T W e m) (hg : SG X T tg t) (hs : swapsWithSole [tg] e pos.line X.env = pure false := by rfl) (hw : swappedStores [tg] e X.env = pure none := by rfl)
    (h1 : (assignEach [tg] X.env).map (·.2) = [assign tg X.env] := by rfl) : SS X T W (.Assign [tg] e pos) (sAsg m t) := by
  obtain ⟨g, pg, k⟩ := hg.ex
  refine PS.imp (ps_asg ha pg hs hw h1) fun D σ H p => ?_
  obtain ⟨sv, ρ, h, rs, r, p⟩ := tS.bind p
  refine ⟨sv, ρ, h, rs, r, p.mono fun v ρ' h' H' x r' p' y q => ?_⟩
  obtain ⟨sv2, ρ2, h2, v2, rs2, r2, q2, p2⟩ := p' y q
  cases e1 : t v2 sv2 with
  | none => rw [e1] at p2; exact p2.elim
  | some sv3 =>
    rw [e1] at p2
    exact k ρ2 h2 _ σ sv2 sv3 v2 y _ r2 rs2 q2 e1 fun σ' rs' => p2 ρ2 _ σ' .refl r2 rs'
theorem ss_fld (k : Nat) {o : Expr} {f : Str} {pos' : Pos} {mo : EM} (c : CF X.K T) (hk : T.fnm k = f) (ho : SE X T W o mo) (he : SE X T W e m) (h32 : k < T.nf) (hs : swapsWith e (some (.Attribute o f pos')) pos.line X.env = pure false := by rfl) : SS X T W (.Assign [.Attribute o f pos'] e pos) (sFld k mo m) := by
  refine PS.imp (ps_fld ho he hs) fun D σ H ⟨sv, ρ, h, rs, r, p⟩ => ⟨sv, ρ, h, rs, r, (PS'.bind rs p).mono fun v ρ' h' H' x r' p' y q => ?_⟩
  refine ⟨sv, ρ', h', rs.ext x, r', (PS'.bind (rs.ext x) p').mono fun u ρ2 h2 H2 x2 r2 p2 z q2 => ?_⟩
  cases e1 : insOf h2 u with
  | none =>
    rw [e1] at p2
    cases u <;> exact p2.elim
  | some cf =>
    obtain ⟨c1, fs⟩ := cf
    obtain ⟨n, ad, dx, gs, rfl, e2, rfl, e3, e4, fr⟩ := ins_ok r2 q2 e1
    rw [e1] at p2
    simp only at p2
    split at p2
    · rename_i hl
      subst hk
      refine ⟨ad, _, dx, gs, rfl, e4, c.cls c1, c.no c1 k h32, by rw [← fr.length]; omega, ?_⟩
      have xw : Ext X.K ρ2 H2 ρ2 (upd H2 ad (.ins (T.cls c1) dx (putF (T.fnm k) y gs))) := Ext.writeAt r2 e2
      exact p2 ρ2 _ σ xw (r2.write e2 ⟨dx, _, upd_same, (fr.ext xw).put c h32 ((q.ext x2).ext xw)⟩) (((rs.ext x).ext x2).ext xw)
    · exact p2.elim
theorem ss_setIx {o i : Expr} {mo mi : EM} {pos' : Pos} {n : Nat} (hr : Room n X.A) (ho : SE X T W o mo) (hi : SE X T W i mi) (he : SE X T W e m) (hs : swapsWith e (some (.Subscript o i pos')) pos.line X.env = pure false := by rfl)
    (hs1 : swapsWithSole [.Subscript o i pos'] e pos.line X.env = pure false := by rfl) (hw : swappedStores [.Subscript o i pos'] e X.env = pure none := by rfl) (h1 : (assignEach [.Subscript o i pos'] X.env).map (·.2) = [assign (.Subscript o i pos') X.env] := by rfl)
    (ha : ∀ v, assign (.Subscript o i pos') X.env v = (do
      let ov ← holding [v] (eval o X.env)
      let iv ← holding [v, ov] (eval i X.env)
      standAt pos'
      holding [v, ov, iv] (setItem ov iv v)
      release [v, ov, iv] []) := by intro _; rfl) : SS X T W (.Assign [.Subscript o i pos'] e pos) (sSetIx mo mi m) := by
  refine PS.imp (PS.or (ps_asg he (pg_sub ho hi set_list ha) hs1 hw h1) (ps_dput (hu_of hr) ho hi he hs)) fun D σ H ⟨sv, ρ, h, rs, r, p⟩ => ?_
  -- the order: value, receiver, index
  unfold sSetIx sBind at p
  cases e1 : m sv h with
  | none => rw [e1] at p; exact p.elim
  | some rv =>
    rw [e1] at p
    cases rv with
    | ex c xs h' => exact .inl ⟨sv, ρ, h, rs, r, by rw [e1]; exact fun ρ' H' cv d x r q => p ρ' H' σ cv d x r (rs.ext x) q⟩
    | ok v g1 =>
      simp only at p
      cases e2 : mo sv g1 with
      | none => rw [e2] at p; exact p.elim
      | some ro =>
        rw [e2] at p
        cases ro with
        | ex c xs h' =>
          refine .inl ⟨sv, ρ, h, rs, r, ?_⟩
          rw [e1]
          intro ρ1 H1 x1 r1 y q
          exact ⟨sv, ρ1, g1, rs.ext x1, r1, by rw [e2]; exact fun ρ' H' cv d x r q => p ρ' H' σ cv d (x1.trans x) r ((rs.ext x1).ext x) q⟩
        | ok o' g2 =>
          simp only at p
          cases e3 : mi sv g2 with
          | none => rw [e3] at p; exact p.elim
          | some ri =>
            rw [e3] at p
            cases ri with
            | ex c xs h' =>
              refine .inl ⟨sv, ρ, h, rs, r, ?_⟩
              rw [e1]
              intro ρ1 H1 x1 r1 y q
              refine ⟨sv, ρ1, g1, rs.ext x1, r1, ?_⟩
              rw [e2]
              intro ρ2 H2 x2 r2 z q2
              exact ⟨sv, ρ2, g2, (rs.ext x1).ext x2, r2, by rw [e3]; exact fun ρ' H' cv d x r q => p ρ' H' σ cv d ((x1.trans x2).trans x) r (((rs.ext x1).ext x2).ext x) q⟩
            | ok i' g3 =>
              simp only at p
              cases e5 : vSetIx g3 o' i' v with
              | none => rw [e5] at p; exact p.elim
              | some g4 =>
                rw [e5] at p
                simp only [vSetIx] at e5
                cases o' with
                | ref k =>
                  simp only at e5
                  cases e6 : g3[k]? with
                  | none => rw [e6] at e5; cases e5
                  | some ob =>
                    rw [e6] at e5
                    cases ob with
                    | dct kvs =>
                      simp only at e5
                      cases e7 : keyOf i' with
                      | none => rw [e7] at e5; cases e5
                      | some ky =>
                        rw [e7] at e5
                        simp only at e5
                        split at e5
                        · rename_i hl
                          cases e5
                          refine .inr ⟨sv, ρ, h, rs, r, ?_⟩
                          rw [e1]
                          intro ρ1 H1 x1 r1 y q
                          refine ⟨sv, ρ1, g1, rs.ext x1, r1, ?_⟩
                          rw [e2]
                          intro ρ2 H2 x2 r2 z q2
                          refine ⟨sv, ρ2, g2, (rs.ext x1).ext x2, r2, ?_⟩
                          rw [e3]
                          intro ρ3 H3 x3 r3 z3 q3
                          obtain ⟨ad, e8, rfl, gs, e9, dr⟩ := r3.atRef (q2.ext x3) e6
                          have e10 := key_ok q3 e7
                          subst e10
                          have xw : Ext X.K ρ3 H3 ρ3 (upd H3 ad (.dK (putK gs ky y))) := Ext.writeAt r3 e8
                          refine ⟨ad, _, rfl, .k e9 (by rw [← dr.length, sizeLine_eq]; omega), ?_⟩
                          exact p ρ3 _ σ (((x1.trans x2).trans x3).trans xw) (r3.write e8 ⟨_, upd_same, (dr.ext xw).put (((q.ext x2).ext x3).ext xw)⟩) ((((rs.ext x1).ext x2).ext x3).ext xw)
                        · cases e5
                    | lst xs =>
                      cases i' with
                      | int j =>
                        simp only [Option.map_eq_some_iff] at e5
                        obtain ⟨k', e7, rfl⟩ := e5
                        refine .inl ⟨sv, ρ, h, rs, r, ?_⟩
                        rw [e1]
                        intro ρ1 H1 x1 r1 y q
                        refine ⟨sv, ρ1, g1, rs.ext x1, r1, ?_⟩
                        rw [e2]
                        intro ρ2 H2 x2 r2 z q2
                        refine ⟨sv, ρ2, g2, (rs.ext x1).ext x2, r2, ?_⟩
                        rw [e3]
                        intro ρ3 H3 x3 r3 z3 q3
                        obtain ⟨ad, e8, rfl, ws, e9, vr⟩ := r3.atRef (q2.ext x3) e6
                        cases q3
                        have xw : Ext X.K ρ3 H3 ρ3 (upd H3 ad (.lst (ws.set k' y))) := Ext.writeAt r3 e8
                        refine ⟨ad, ws, j, k', rfl, rfl, e9, by rw [← vr.length]; exact e7, ?_⟩
                        exact p ρ3 _ σ (((x1.trans x2).trans x3).trans xw) (r3.write e8 ⟨_, upd_same, (vr.ext xw).set (((q.ext x2).ext x3).ext xw) k'⟩) ((((rs.ext x1).ext x2).ext x3).ext xw)
                      | _ => cases e5
                    | _ => cases e5
                | _ => cases e5

/-! ### what is walked -/
def ItOk (K : PySem.W.Frag) (T : Tabs) (ρ0 : List Addr) (H0 : Hp) (J : It) (s : Src) : Prop :=
  ∀ (ρ : List Addr) (h : Mem) (H : Hp), Ext K ρ0 H0 ρ H → R K T ρ h H → s.chk h = true →
    (∀ (i : Nat) v, s.items[i]? = some v → J.go i H ∧ ∀ x H', J.yld i H x H' → Ext K ρ H ρ H' ∧ R K T ρ h H' ∧ VR K ρ H' v x) ∧ J.stop s.items.length H
def tI (K : PySem.W.Frag) (T : Tabs) (W : WX) (m : Sg → M Src) : TI := fun σ H Rk => ∃ sv ρ h, RS K ρ H σ sv ∧ R K T ρ h H ∧ PR K T ρ H (fun c d H' => W c d σ H') (fun s ρ' _ H' => ∀ J, ItOk K T ρ' H' J s → Rk J H') (m sv h)
theorem PI.imp {tg : Expr} {t t' : TI} (p : PI X tg e t) (h : ∀ σ H Q, t' σ H Q → t σ H Q) : PI X tg e t' := ⟨fun pins s σ H Q I q => p.run pins s σ H Q I (h _ _ _ q)⟩
theorem PI.or {tg : Expr} {t1 t2 : TI} (p1 : PI X tg e t1) (p2 : PI X tg e t2) : PI X tg e (fun σ H Q => t1 σ H Q ∨ t2 σ H Q) := ⟨fun pins s σ H Q I h => h.elim (p1.run pins s σ H Q I) (p2.run pins s σ H Q I)⟩
abbrev SI (X : Cx) (T : Tabs) (W : WX) (tg e : Expr) (m : Sg → M Src) : Prop := PI X tg e (tI X.K T W m)
/-- a list (tuple) whose items stand as they are, at whatever addresses -/
theorem ItOk.list {ρ0 : List Addr} {H0 : Hp} {a : Addr} {s : Src} (hG : ∀ ρ h H, Ext K ρ0 H0 ρ H → R K T ρ h H → s.chk h = true → ∃ ws, SqL K H a ws ∧ VRs K ρ H s.items ws) : ItOk K T ρ0 H0 (Itl K a) s := by
  intro ρ h H x r c
  obtain ⟨ws, s1, rv⟩ := hG ρ h H x r c
  refine ⟨fun i v e => ?_, ws, s1, by rw [rv.length]; exact Nat.le_refl _⟩
  obtain ⟨y, e2, q2⟩ := rv.get e
  refine ⟨⟨ws, y, s1, e2⟩, fun z H' q => ?_⟩
  obtain ⟨rfl, q⟩ := q
  have e3 := q ws s1
  rw [e2] at e3; cases e3
  exact ⟨.refl, r, q2⟩
theorem ItOk.tuple {ρ0 : List Addr} {H0 : Hp} {a : Addr} {s : Src} (hG : ∀ ρ h H, Ext K ρ0 H0 ρ H → R K T ρ h H → s.chk h = true → ∃ ws, SqT K H a ws ∧ VRs K ρ H s.items ws) : ItOk K T ρ0 H0 (Itt K a) s := by
  intro ρ h H x r c
  obtain ⟨ws, s1, rv⟩ := hG ρ h H x r c
  refine ⟨fun i v e => ?_, ws, s1, by rw [rv.length]; exact Nat.le_refl _⟩
  obtain ⟨y, e2, q2⟩ := rv.get e
  refine ⟨⟨ws, y, s1, e2⟩, fun z H' q => ?_⟩
  obtain ⟨rfl, q⟩ := q
  have e3 := q ws s1
  rw [e2] at e3; cases e3
  exact ⟨.refl, r, q2⟩
theorem ItOk.range {ρ0 : List Addr} {H0 : Hp} {lo : Int} {n : Nat} : ItOk K T ρ0 H0 (Itr lo n) ⟨rngV lo n, yes⟩ := by
  intro ρ h H x r c
  refine ⟨fun i v e => ?_, by simp [rngV, Itr]⟩
  have hi : i < n := by
    have := (List.getElem?_eq_some_iff.mp e).1
    simpa [rngV] using this
  refine ⟨hi, fun z H' q => ?_⟩
  obtain ⟨rfl, rfl⟩ := q
  simp [rngV, hi] at e
  subst e
  exact ⟨.refl, r, rfl⟩
theorem pairUp_len : ∀ (xs ys : List Val), (pairUp xs ys).length = min xs.length ys.length
  | [], _ => by simp [pairUp]
  | _ :: _, [] => by simp [pairUp]
  | _ :: xs, _ :: ys => by simp only [pairUp, List.length_cons, pairUp_len xs ys]; omega
theorem pairUp_get : ∀ {xs ys : List Val} {i : Nat} {v : Val}, (pairUp xs ys)[i]? = some v → ∃ x y, xs[i]? = some x ∧ ys[i]? = some y ∧ v = .tup [x, y]
  | [], _, _, _, e => by simp [pairUp] at e
  | _ :: _, [], _, _, e => by simp [pairUp] at e
  | a :: xs, b :: ys, 0, v, e => by simp [pairUp] at e; exact ⟨a, b, rfl, rfl, e.symm⟩
  | a :: xs, b :: ys, i + 1, v, e => by
    simp only [pairUp, List.getElem?_cons_succ] at e
    simpa using pairUp_get e
/-- a new pair laid at p -/
theorem pair_new (r : R K T ρ h H) {x y : Val} {u v : V} {p : Addr} (n : H p = none) (q1 : VR K ρ H x u) (q2 : VR K ρ H y v) : Ext K ρ H ρ (upd H p (.tup [u, v])) ∧ R K T ρ h (upd H p (.tup [u, v])) ∧ VR K ρ (upd H p (.tup [u, v])) (.tup [x, y]) (.ref p) :=
  ⟨.side n, r.side n, p, [u, v], rfl, .of upd_same, u, [v], rfl, q1.ext (.side n), v, [], rfl, q2.ext (.side n), rfl⟩
theorem ItOk.zipL {ρ0 : List Addr} {H0 : Hp} {a b : Addr} {xs ys : List Val} {c : Mem → Bool} (hG : ∀ ρ h H, Ext K ρ0 H0 ρ H → R K T ρ h H → c h = true → ∃ us vs, SqL K H a us ∧ SqL K H b vs ∧ VRs K ρ H xs us ∧ VRs K ρ H ys vs) : ItOk K T ρ0 H0 (Itz K a b) ⟨pairUp xs ys, c⟩ := by
  intro ρ h H x r cc
  obtain ⟨us, vs, s1, s2, r1, r2⟩ := hG ρ h H x r cc
  refine ⟨fun i v e => ?_, us, vs, s1, s2, ?_⟩
  · obtain ⟨x1, y1, e1, e2, rfl⟩ := pairUp_get e
    obtain ⟨u1, e3, q3⟩ := r1.get e1
    obtain ⟨u2, e4, q4⟩ := r2.get e2
    refine ⟨⟨us, vs, u1, u2, s1, s2, e3, e4⟩, fun z H' q => ?_⟩
    obtain ⟨p, w1, w2, rfl, n, rfl, k1, k2⟩ := q
    have e5 := k1 us s1
    have e6 := k2 vs s2
    rw [e3] at e5; cases e5
    rw [e4] at e6; cases e6
    exact pair_new r n q3 q4
  · show us.length ≤ (pairUp xs ys).length ∨ vs.length ≤ (pairUp xs ys).length
    rw [pairUp_len, r1.length, r2.length]; omega
theorem ItOk.zipT {ρ0 : List Addr} {H0 : Hp} {a b : Addr} {xs ys : List Val} {us vs : List V} (s1 : SqT K H0 a us) (s2 : SqT K H0 b vs) (r1 : VRs K ρ0 H0 xs us) (r2 : VRs K ρ0 H0 ys vs) : ItOk K T ρ0 H0 (RZ.ItzT K a b) ⟨pairUp xs ys, yes⟩ := by
  intro ρ h H x r cc
  have s1 := x.tup _ _ s1
  have s2 := x.tup _ _ s2
  have r1 := r1.ext x
  have r2 := r2.ext x
  refine ⟨fun i v e => ?_, us, vs, s1, s2, ?_⟩
  · obtain ⟨x1, y1, e1, e2, rfl⟩ := pairUp_get e
    obtain ⟨u1, e3, q3⟩ := r1.get e1
    obtain ⟨u2, e4, q4⟩ := r2.get e2
    refine ⟨⟨us, vs, u1, u2, s1, s2, e3, e4⟩, fun z H' q => ?_⟩
    obtain ⟨p, w1, w2, rfl, n, rfl, k1, k2⟩ := q
    have e5 := k1 us s1
    have e6 := k2 vs s2
    rw [e3] at e5; cases e5
    rw [e4] at e6; cases e6
    exact pair_new r n q3 q4
  · show us.length ≤ (pairUp xs ys).length ∨ vs.length ≤ (pairUp xs ys).length
    rw [pairUp_len, r1.length, r2.length]; omega
/-- a list of the machine's, read later -/
theorem lst_later (r : R K T ρ h H) {v : Val} {x : V} {xs : List Val} (q : VR K ρ H v x) (e : lstOf h v = some xs) : ∃ a ws, x = .ref a ∧ SqL K H a ws ∧ VRs K ρ H xs ws ∧
    ∀ ρ' h' H', Ext K ρ H ρ' H' → R K T ρ' h' H' → lstOf h' v = some xs → ∃ us, SqL K H' a us ∧ VRs K ρ' H' xs us := by
  cases v with
  | frl ys =>
    cases e
    obtain ⟨a, vs, rfl, s, rv⟩ := q
    exact ⟨a, vs, rfl, s.sq, rv, fun ρ' h' H' x _ _ => ⟨vs, (x.frz _ _ s).sq, rv.ext x⟩⟩
  | ref n =>
    simp only [lstOf] at e
    cases e1 : h[n]? with
    | none => rw [e1] at e; cases e
    | some o =>
      rw [e1] at e
      cases o with
      | lst ys =>
        cases e
        obtain ⟨a, e2, rfl, ws, e3, rv⟩ := r.atRef q e1
        refine ⟨a, ws, rfl, .of e3, rv, fun ρ' h' H' x r' e' => ?_⟩
        simp only [lstOf] at e'
        cases e4 : h'[n]? with
        | none => rw [e4] at e'; cases e'
        | some o' =>
          rw [e4] at e'
          cases o' with
          | lst zs =>
            cases e'
            obtain ⟨a', e5, us, e6, rv'⟩ := r'.ob n _ e4
            have e7 := x.pre n a e2
            rw [e5] at e7; cases e7
            exact ⟨us, .of e6, rv'⟩
          | _ => cases e'
      | _ => cases e
  | _ => cases e
theorem si_seq {tg : Expr} (he : SE X T W e m) : SI X T W tg e (srcSeq m) := by
  refine PI.imp (PI.or (pi_list he) (pi_tup he)) fun σ H Q ⟨sv, ρ, h, rs, r, p⟩ => ?_
  unfold srcSeq mBind at p
  cases e1 : m sv h with
  | none => rw [e1] at p; exact p.elim
  | some rv =>
    rw [e1] at p
    cases rv with
    | ex c xs h' => exact .inl ⟨sv, ρ, h, rs, r, by rw [e1]; exact p⟩
    | ok v h1 =>
      cases v with
      | tup xs =>
        refine .inr ⟨sv, ρ, h, rs, r, ?_⟩
        rw [e1]
        intro ρ1 H1 x1 r1 y q
        obtain ⟨a, vs, rfl, s, rv⟩ := q
        exact ⟨a, rfl, ⟨vs, s⟩, p ρ1 H1 x1 r1 _ (ItOk.tuple fun ρ2 h2 H2 x2 _ _ => ⟨vs, x2.tup _ _ s, rv.ext x2⟩)⟩
      | frl xs =>
        refine .inl ⟨sv, ρ, h, rs, r, ?_⟩
        rw [e1]
        intro ρ1 H1 x1 r1 y q
        obtain ⟨a, vs, rfl, s, rv⟩ := q
        exact ⟨a, rfl, ⟨vs, s.sq⟩, p ρ1 H1 x1 r1 _ (ItOk.list fun ρ2 h2 H2 x2 _ _ => ⟨vs, (x2.frz _ _ s).sq, rv.ext x2⟩)⟩
      | ref n =>
        refine .inl ⟨sv, ρ, h, rs, r, ?_⟩
        rw [e1]
        intro ρ1 H1 x1 r1 y q
        simp only at p
        cases e2 : h1[n]? with
        | none => rw [e2] at p; exact p.elim
        | some o =>
          rw [e2] at p
          cases o with
          | lst xs =>
            obtain ⟨a, ws, rfl, s1, rv, k⟩ := lst_later (xs := xs) r1 q (by simp [lstOf, e2])
            exact ⟨a, rfl, ⟨ws, s1⟩, p ρ1 H1 x1 r1 _ (ItOk.list fun ρ2 h2 H2 x2 r2 c => k ρ2 h2 H2 x2 r2 (by
              have e5 : h2[n]? = some (.lst xs) := of_decide_eq_true c
              simp [lstOf, e5]))⟩
          | _ => exact p.elim
      | _ => exact p.elim
theorem si_r1 {tg : Expr} {p2 : Pos} (hg : Gl X "range") (hm : X.mg "range" = none) (he : SE X T W e m) (hs : starEach [e] X.env = [(false, eval e X.env)] := by rfl) : SI X T W tg (.Call (.Name "range" p2) [e] [] pos) (srcR1 m) := by
  refine PI.imp (pi_range1 hg hm (sa_cons he sa_nil hs) hs) fun σ H Q ⟨sv, ρ, h, rs, r, p⟩ => ⟨sv, ρ, h, rs, r, ?_⟩
  unfold srcR1 at p
  have p0 := p.bind
  unfold aCons aNil
  cases e1 : m sv h with
  | none => rw [e1] at p0; exact p0.elim
  | some rv =>
    rw [e1] at p0
    cases rv with
    | ex c xs h' => simp only [mBind, e1]; exact p0
    | ok v h1 =>
      simp only [mBind, e1, mRet]
      intro ρ1 H1 x1 r1 vs q
      have p1 := p0 ρ1 H1 x1 r1
      obtain ⟨y, rfl, qv⟩ := q.unone
      cases v with
      | int j =>
        simp only at p1
        split at p1
        · rename_i hs
          have hs := of_decide_eq_true hs
          cases qv
          exact ⟨j, rfl, hs.1, hs.2, p1 ρ1 H1 .refl r1 _ ItOk.range⟩
        · exact p1.elim
      | _ => exact p1.elim
theorem si_r2 {tg e2 : Expr} {p2 : Pos} {m2 : EM} (hg : Gl X "range") (hm : X.mg "range" = none) (he : SE X T W e m) (he2 : SE X T W e2 m2) (hs : starEach [e, e2] X.env = [(false, eval e X.env), (false, eval e2 X.env)] := by rfl) (hs2 : starEach [e2] X.env = [(false, eval e2 X.env)] := by rfl) :
    SI X T W tg (.Call (.Name "range" p2) [e, e2] [] pos) (srcR2 m m2) := by
  refine PI.imp (pi_range2 hg hm (sa_cons he (sa_cons he2 sa_nil hs2) (hs.trans (by rw [hs2]))) hs hs2) fun σ H Q ⟨sv, ρ, h, rs, r, p⟩ => ⟨sv, ρ, h, rs, r, ?_⟩
  unfold srcR2 at p
  unfold aCons aNil
  cases e1 : m sv h with
  | none => simp only [mBind, e1] at p; exact p.elim
  | some rv =>
    cases rv with
    | ex c xs h' => simp only [mBind, e1] at p ⊢; exact p
    | ok v h1 =>
      simp only [mBind, e1] at p ⊢
      cases e3 : m2 sv h1 with
      | none => simp only [e3] at p; exact p.elim
      | some rv2 =>
        cases rv2 with
        | ex c xs h' => simp only [e3] at p ⊢; exact p
        | ok u h2 =>
          simp only [e3, mRet] at p ⊢
          intro ρ1 H1 x1 r1 vs q
          have p1 := PR.ext p x1
          obtain ⟨y, z, rfl, q1, q2⟩ := q.untwo
          cases v with
          | int i =>
            cases u with
            | int j =>
              simp only at p1
              split at p1
              · rename_i hs
                obtain ⟨h1, h2⟩ := Bool.and_eq_true_iff.mp hs
                have h1 := of_decide_eq_true h1
                have h2 := of_decide_eq_true h2
                cases q1; cases q2
                exact ⟨i, j, rfl, ⟨h1.1, h1.2, h2.1, h2.2⟩, p1 ρ1 H1 .refl r1 _ ItOk.range⟩
              · exact p1.elim
            | _ => exact p1.elim
          | _ => exact p1.elim
theorem si_zip {elts : List Expr} {kk : Nat} {tpos p2 : Pos} {e2 : Expr} {m2 : EM} (hg : Gl X "zip") (hm : X.mg "zip" = none) (he : SE X T W e m) (he2 : SE X T W e2 m2)
    (hs : starEach [e, e2] X.env = (false, eval e X.env) :: starEach [e2] X.env := by rfl) (hs2 : starEach [e2] X.env = (false, eval e2 X.env) :: starEach [] X.env := by rfl) (hpl : (backTo pos (starEach [e2] X.env)).any (·.1) = false := by rfl) :
    SI X T W (.Tuple elts kk tpos) (.Call (.Name "zip" p2) [e, e2] [] pos) (srcZip m m2) := by
  refine PI.imp (RZ.pi_zipA hg hm (sa_cons he (sa_cons he2 sa_nil hs2) hs) hs hpl) fun σ H Q ⟨sv, ρ, h, rs, r, p⟩ => ⟨sv, ρ, h, rs, r, ?_⟩
  unfold srcZip at p
  unfold aCons aNil
  cases e1 : m sv h with
  | none => simp only [mBind, e1] at p; exact p.elim
  | some rv =>
    cases rv with
    | ex c xs h' => simp only [mBind, e1] at p ⊢; exact p
    | ok v h1 =>
      simp only [mBind, e1] at p ⊢
      cases e3 : m2 sv h1 with
      | none => simp only [e3] at p; exact p.elim
      | some rv2 =>
        cases rv2 with
        | ex c xs h' => simp only [e3] at p ⊢; exact p
        | ok u h2 =>
          simp only [e3, mRet] at p ⊢
          intro ρ1 H1 x1 r1 vs q
          have p1 := PR.ext p x1
          obtain ⟨y, z, rfl, q1, q2⟩ := q.untwo
          obtain ⟨sr, e4, k⟩ := PR.opt r1 p1
          have lists : ∀ {xs ys : List Val}, lstOf h2 v = some xs → lstOf h2 u = some ys → sr = ⟨pairUp xs ys, fun h' => decide (lstOf h' v = some xs ∧ lstOf h' u = some ys)⟩ →
              ∃ a b xs ys, [y, z] = [V.ref a, V.ref b] ∧ ((SqL X.K H1 a xs ∧ SqL X.K H1 b ys ∧ Q (Itz X.K a b) H1) ∨ (SqT X.K H1 a xs ∧ SqT X.K H1 b ys ∧ Q (RZ.ItzT X.K a b) H1)) := by
            intro xs ys f4 f5 f6
            subst f6
            obtain ⟨a, us, rfl, s1, rv1, k1⟩ := lst_later r1 q1 f4
            obtain ⟨b, ws, rfl, s2, rv2, k2⟩ := lst_later r1 q2 f5
            refine ⟨a, b, us, ws, rfl, .inl ⟨s1, s2, k _ (ItOk.zipL fun ρ3 h3 H3 x3 r3 c => ?_)⟩⟩
            obtain ⟨c1, c2⟩ := of_decide_eq_true c
            obtain ⟨us', s1', rv1'⟩ := k1 ρ3 h3 H3 x3 r3 c1
            obtain ⟨ws', s2', rv2'⟩ := k2 ρ3 h3 H3 x3 r3 c2
            exact ⟨us', ws', s1', s2', rv1', rv2'⟩
          have lists' : (lstOf h2 v).bind (fun xs => (lstOf h2 u).map fun ys => (⟨pairUp xs ys, fun h' => decide (lstOf h' v = some xs ∧ lstOf h' u = some ys)⟩ : Src)) = some sr →
              ∃ a b xs ys, [y, z] = [V.ref a, V.ref b] ∧ ((SqL X.K H1 a xs ∧ SqL X.K H1 b ys ∧ Q (Itz X.K a b) H1) ∨ (SqT X.K H1 a xs ∧ SqT X.K H1 b ys ∧ Q (RZ.ItzT X.K a b) H1)) := by
            intro e5
            simp only [Option.bind_eq_some_iff, Option.map_eq_some_iff] at e5
            obtain ⟨xs, e6, ys, e7, e8⟩ := e5
            exact lists e6 e7 e8.symm
          cases v with
          | tup xs =>
            cases u with
            | tup ys =>
              cases e4
              obtain ⟨a, us, rfl, s1, rv1⟩ := q1
              obtain ⟨b, ws, rfl, s2, rv2⟩ := q2
              exact ⟨a, b, us, ws, rfl, .inr ⟨s1, s2, k _ (ItOk.zipT s1 s2 rv1 rv2)⟩⟩
            | _ => cases e4
          | _ => exact lists' e4
end
end EV

/-! Ev8: for, comprehensions, while; defs, calls, methods, making. -/
namespace EV
open PySem PySem.Spec L2

section
variable {X : Cx} {T : Tabs} {W : WX} {e : Expr} {pos : Pos} {s : SM} {K : PySem.W.Frag} {ρ ρ' : List Addr} {H H' : Hp} {h : Mem} {D : Ends}
theorem forL_chk {g : Tgt} {body : SM} {chk : Mem → Bool} {vs : List Val} {σ : Sg} (p : PS' K T W D ρ H (forL g body chk vs σ h)) : chk h = true := by
  cases vs <;> (unfold forL at p; split at p; assumption; exact p.elim)
/-- for target in iter: body -/
theorem ss_for {tg iter : Expr} {body : List Stmt} {src : Sg → M Src} {t : Tgt} (hp : PassesOwn (model X.prog X.w) X.A X.env X.xe) (hc : X.calm = true) (hi : SI X T W tg iter src) (hg : SG X T tg t) (hb : SSs X T W body s)
    (hs : ∀ x, foldedSetIterable iter X.env x = pure x := by intro _; rfl) : SS X T W (.For tg iter body [] pos) (sFor src t s) := by
  obtain ⟨g, pg, k⟩ := hg.ex
  refine PS.imp (ps_for hp hc hi pg hb hs) fun D σ H ⟨sv, ρ, h, rs, r, p⟩ => ⟨sv, ρ, h, rs, r, (PS'.bind rs p).mono fun sr ρ1 h1 H1 x1 r1 p1 J it => ?_⟩
  refine ⟨fun i m σ H => m = sr.items.length - i ∧ i ≤ sr.items.length ∧ ∃ sv ρ h, Ext X.K ρ1 H1 ρ H ∧ RS X.K ρ H σ sv ∧ R X.K T ρ h H ∧ PS' X.K T W D ρ H (forL t s sr.chk (sr.items.drop i) sv h),
    ⟨sr.items.length, by simp, Nat.zero_le _, sv, ρ1, h1, .refl, rs.ext x1, r1, by simpa using p1⟩, ?_⟩
  rintro i m σ2 H2 ⟨rfl, hi, sv2, ρ2, h2, x2, rs2, r2, p2⟩
  obtain ⟨go, stop⟩ := it ρ2 h2 H2 x2 r2 (forL_chk p2)
  by_cases hl : i < sr.items.length
  · right
    have e1 : sr.items[i]? = some sr.items[i] := List.getElem?_eq_getElem hl
    obtain ⟨hgo, yld⟩ := go i _ e1
    refine ⟨hgo, fun σ' H' => i + 1 ≤ sr.items.length ∧ ∃ sv ρ h, Ext X.K ρ1 H1 ρ H' ∧ RS X.K ρ H' σ' sv ∧ R X.K T ρ h H' ∧ PS' X.K T W D ρ H' (forL t s sr.chk (sr.items.drop (i + 1)) sv h), fun σ' H' q => ⟨sr.items.length - (i + 1), by omega, rfl, q.1, q.2⟩, fun y H3 q => ?_⟩
    obtain ⟨x3, r3, q3⟩ := yld y H3 q
    rw [List.drop_eq_getElem_cons hl] at p2
    unfold forL at p2
    split at p2
    · cases e2 : t sr.items[i] sv2 with
      | none => rw [e2] at p2; exact p2.elim
      | some sv3 =>
        rw [e2] at p2
        refine k ρ2 h2 H3 σ2 sv2 sv3 _ y _ r3 (rs2.ext x3) q3 e2 fun σ3 rs3 => ⟨sv3, ρ2, h2, rs3, r3, ?_⟩
        have p3 := PS'.ext p2 x3
        simp only at p3
        cases e3 : s sv3 h2 with
        | none => rw [e3] at p3; exact p3.elim
        | some o =>
          rw [e3] at p3
          cases o with
          | nx sv4 h4 => exact fun ρ4 H4 σ4 x4 r4 rs4 => ⟨hl, sv4, ρ4, h4, (x2.trans x3).trans x4, rs4, r4, PS'.ext p3 x4⟩
          | rt v h4 => exact p3
          | ex c xs sv4 h4 => exact p3
    · exact p2.elim
  · have e1 : i = sr.items.length := by omega
    subst e1
    left
    refine ⟨stop, ?_⟩
    rw [List.drop_length] at p2
    unfold forL at p2
    split at p2
    · exact p2 ρ2 H2 σ2 .refl r2 rs2
    · exact p2.elim

/-! ### list comprehensions -/
theorem RS.wipe {σ : L2.St} {sv : Sg} (r : RS K ρ H σ sv) : ∀ ix : List Nat, RS K ρ H (wipe σ ix) (wipeS sv ix) := by
  intro ix
  induction ix with
  | nil => exact r
  | cons i t ih =>
    unfold L2.wipe wipeS
    refine ⟨by simp [ih.1], fun j v e => ?_⟩
    by_cases hj : j = i
    · subst hj
      by_cases hl : j < (wipeS sv t).length
      · rw [List.getElem?_set_self hl] at e; cases e
      · rw [List.getElem?_eq_none (by simpa using Nat.le_of_not_lt hl)] at e; cases e
    · rw [List.getElem?_set_ne (Ne.symm hj)] at e ⊢
      exact ih.2 j v e
theorem wipe_set {σ : L2.St} {i : Nat} {v : Option V} : ∀ {ix : List Nat}, i ∈ ix → L2.wipe (σ.set i v) ix = L2.wipe σ ix := by
  have gen : ∀ (ix : List Nat) (σ : L2.St) (i : Nat) (v : Option V), L2.wipe (σ.set i v) ix = if i ∈ ix then L2.wipe σ ix else (L2.wipe σ ix).set i v := by
    intro ix
    induction ix with
    | nil => intro σ i v; simp [L2.wipe]
    | cons j t ih =>
      intro σ i v
      unfold L2.wipe
      rw [ih]
      by_cases hj : i = j
      · subst hj
        by_cases hm : i ∈ t
        · simp [hm]
        · simp [hm, List.set_set]
      · by_cases hm : i ∈ t
        · simp [hm]
        · simp only [hm, if_false, List.mem_cons, hj, or_self]
          rw [List.set_comm _ _ hj]
  intro ix hi
  rw [gen, if_pos hi]
/-- a comprehension's target: a name, or several -/
inductive CT where
  | n (i : Nat)
  | t (is : List Nat)
def gNs : List Nat → TGs
  | [] => gNil
  | i :: r => gCons (gName i) (gNs r)
def ctG (K : PySem.W.Frag) : CT → TG
  | .n i => gName i
  | .t is => gTup K is.length (gNs is)
def ctT : CT → Tgt
  | .n i => gN i
  | .t is => gT (is.map gN)
def ctI : CT → List Nat
  | .n i => [i]
  | .t is => is
theorem gNs_ok : ∀ is : List Nat, TgsOk K T (gNs is) (is.map gN)
  | [] => fun ρ h H σ sv sv' v x Q r rs q e k => by
    cases v with
    | nil => cases q; cases e; exact ⟨rfl, k σ rs⟩
    | cons _ _ => cases e
  | i :: is => fun ρ h H σ sv sv' v x Q r rs q e k => by
    cases v with
    | nil => cases e
    | cons v vs =>
      obtain ⟨y, t', rfl, q1, q2⟩ := q
      simp only [List.map_cons, gSeq, gN, Option.bind_some] at e
      exact ⟨y, t', rfl, gNs_ok is ρ h H _ _ sv' vs t' Q r (rs.set i q1) q2 e k⟩
theorem ct_ok : ∀ ct : CT, TgOk K T (ctG K ct) (ctT ct)
  | .n i => fun ρ h H σ sv sv' v x Q r rs q e k => by cases e; exact k _ (rs.set i q)
  | .t is => fun ρ h H σ sv sv' v x Q r rs q e k => by
    cases v with
    | tup xs =>
      obtain ⟨a, vs, rfl, s, rv⟩ := q
      have e' : gSeq (is.map gN) xs sv = some sv' := e
      refine ⟨a, vs, rfl, s, ?_, gNs_ok is ρ h H σ sv sv' xs vs Q r rs rv e' k⟩
      have := gSeq_len e'
      rw [← rv.length, this, List.length_map]
    | _ => cases e
theorem gNs_w : ∀ {is ix : List Nat}, (∀ i ∈ is, i ∈ ix) → ∀ (v : List V) (σ : L2.St) (H : Hp) (Q : L2.St → Hp → Prop), gNs is v σ H Q → gNs is v σ H fun σ' H' => L2.wipe σ' ix = L2.wipe σ ix ∧ Q σ' H'
  | [], _, _ => fun v σ H Q q => ⟨q.1, rfl, q.2⟩
  | i :: is, ix, hm => fun v σ H Q q => by
    obtain ⟨y, r, rfl, q⟩ := q
    refine ⟨y, r, rfl, ?_⟩
    have := gNs_w (ix := ix) (fun j hj => hm j (List.mem_cons_of_mem _ hj)) r _ H Q q
    rwa [wipe_set (hm i List.mem_cons_self)] at this
theorem ct_w {ct : CT} {ix : List Nat} (hm : ∀ i ∈ ctI ct, i ∈ ix) (v : V) (σ : L2.St) (H : Hp) (Q : L2.St → Hp → Prop) (q : ctG K ct v σ H Q) : ctG K ct v σ H fun σ' H' => L2.wipe σ' ix = L2.wipe σ ix ∧ Q σ' H' := by
  cases ct with
  | n i => exact ⟨wipe_set (hm i (by simp [ctI])), q⟩
  | t is =>
    obtain ⟨a, xs, rfl, s, e, q⟩ := q
    exact ⟨a, xs, rfl, s, e, gNs_w hm xs σ H Q q⟩
def W0 : WX := fun _ _ _ _ => False
theorem PR.noEx {α : Type} {m : M α} {E : XK} {Q : α → List Addr → Mem → Hp → Prop} (p : PR K T ρ H E Q (noEx m h)) : PR K T ρ H (fun _ _ _ => False) Q (m h) := by
  unfold EV.noEx at p
  cases e : m h with
  | none => rw [e] at p; exact p.elim
  | some r =>
    rw [e] at p
    cases r with
    | ok a h' => exact p
    | ex c xs h' => exact p.elim
theorem lcL_chk {t : Tgt} {cond : BM} {elt : EM} {chk : Mem → Bool} {vs : List Val} {σ : Sg} {E : XK} {Q : List Val → List Addr → Mem → Hp → Prop} (p : PR K T ρ H E Q (lcL t cond elt chk σ vs h)) : chk h = true := by
  cases vs <;> (unfold lcL at p; split at p; assumption; exact p.elim)
theorem wipe_again {σ : L2.St} {ix : List Nat} : L2.wipe (L2.wipe σ ix) ix = L2.wipe σ ix := by
  have gen : ∀ (t : List Nat) (σ : L2.St), (∀ i ∈ t, i ∈ ix) → L2.wipe (L2.wipe σ t) ix = L2.wipe σ ix := by
    intro t
    induction t with
    | nil => intro σ _; rfl
    | cons i t ih =>
      intro σ hm
      show L2.wipe ((L2.wipe σ t).set i none) ix = _
      rw [wipe_set (hm i List.mem_cons_self)]
      exact ih σ fun j hj => hm j (List.mem_cons_of_mem _ hj)
  exact gen ix σ fun _ h => h
/-- what a comprehension still has to do: the list so far stands at D -/
def LcRest (K : PySem.W.Frag) (T : Tabs) (D : Addr) (E : XK) (Q : VK) (ρ1 : List Addr) (H1 : Hp) (i : Nat) (m : M (List Val)) (ρ : List Addr) (h : Mem) (H : Hp) : Prop :=
  Ext K ρ1 H1 ρ H ∧ R K T ρ h H ∧ D ∉ ρ ∧ ∃ acc acs, H D = some (.lst acc) ∧ VRs K ρ H acs acc ∧ acs.length ≤ i ∧
    PR K T ρ1 H1 E (fun ys ρ' h' H' => ∀ zs, H' D = some (.lst zs) → D ∉ ρ' → VRs K ρ' H' (acs ++ ys) zs → Q (.ref D) H') (m h)
theorem ct_mono {ct : CT} {v : V} {σ : L2.St} {H : Hp} {Q Q' : L2.St → Hp → Prop} (q : ctG K ct v σ H Q) (hq : ∀ σ' H', Q σ' H' → Q' σ' H') : ctG K ct v σ H Q' := by
  have gen : ∀ (is : List Nat) (xs : List V) (σ : L2.St), gNs is xs σ H Q → gNs is xs σ H Q' := by
    intro is
    induction is with
    | nil => intro xs σ q; exact ⟨q.1, hq _ _ q.2⟩
    | cons i t ih =>
      intro xs σ q
      obtain ⟨y, r, e, q⟩ := q
      exact ⟨y, r, e, ih r _ q⟩
  cases ct with
  | n i => exact hq _ _ q
  | t is =>
    obtain ⟨a, xs, e, s, l, q⟩ := q
    exact ⟨a, xs, e, s, l, gen is xs σ q⟩
theorem tLc_of {wi : TI} {sr : Sg → M Src} {ct : CT} {cond : BM} {elt : EM} {ix : List Nat} {σ : L2.St} {H : Hp} {Q : VK} (hi : ∀ σ H Rk, tI K T W sr σ H Rk → wi σ H Rk) (hm : ∀ i ∈ ctI ct, i ∈ ix)
    (p : tE K T W (eLc ix sr (ctT ct) cond elt) σ H Q) : tLc wi (ctG K ct) (tB K T W0 cond) (tE K T W0 elt) ix σ H Q := by
  obtain ⟨sv, ρ, h, rs, r, p⟩ := p
  refine hi _ _ _ ⟨sv, ρ, h, rs, r, p.bind.mono fun s ρ1 h1 H1 x1 r1 p1 J it D nD => ?_⟩
  have nDρ : D ∉ ρ1 := r1.notmem nD
  split at p1
  rotate_left
  · exact p1.elim
  rename_i hlen
  have x2 : Ext K ρ1 H1 ρ1 (upd H1 D (.lst [])) := .side nD
  refine ⟨fun i m H => m = s.items.length - i ∧ i ≤ s.items.length ∧ ∃ ρ h, LcRest K T D (fun c d H' => W c d σ H') Q ρ1 H1 i (lcL (ctT ct) cond elt s.chk (wipeS sv ix) (s.items.drop i)) ρ h H,
    ⟨s.items.length, by simp, Nat.zero_le _, ρ1, h1, x2, r1.side nD, nDρ, [], [], upd_same, rfl, Nat.le_refl _, ?_⟩, ?_⟩
  · refine p1.bind0.mono fun ys ρ' h' H' x r' q zs e n v => ?_
    rw [List.nil_append] at v
    -- the machine's list comes into its memory here, at D
    have x5 : Ext K ρ1 H1 (ρ' ++ [D]) H' := x.take nD
    have x6 : Ext0 K ρ' H' (ρ' ++ [D]) H' := ⟨fun i b e => by rw [List.getElem?_append_left (List.getElem?_eq_some_iff.mp e).1]; exact e, fun _ _ e => e, fun _ _ e => e⟩
    exact q (ρ' ++ [D]) H' x5 (r'.take n ⟨zs, e, VRs.ext0 x6 v⟩) (.ref D) ⟨D, by rw [← r'.len]; simp, rfl⟩
  · rintro i m H2 ⟨rfl, hile, ρ2, h2, x3, r2, nD2, acc, acs, eD, va, hal, p2⟩
    obtain ⟨go, stop⟩ := it ρ2 h2 H2 x3 r2 (lcL_chk p2)
    by_cases hl : i < s.items.length
    · right
      have e1 : s.items[i]? = some s.items[i] := List.getElem?_eq_getElem hl
      obtain ⟨hgo, yld⟩ := go i _ e1
      refine ⟨hgo, fun H' => i + 1 ≤ s.items.length ∧ ∃ ρ h, LcRest K T D (fun c d H' => W c d σ H') Q ρ1 H1 (i + 1) (lcL (ctT ct) cond elt s.chk (wipeS sv ix) (s.items.drop (i + 1))) ρ h H',
        fun H' q => ⟨s.items.length - (i + 1), by omega, rfl, q.1, q.2⟩, fun y H3 q => ?_⟩
      obtain ⟨x4, r3, q3⟩ := yld y H3 q
      rw [List.drop_eq_getElem_cons hl] at p2
      unfold lcL at p2
      split at p2
      · cases e2 : ctT ct s.items[i] (wipeS sv ix) with
        | none => rw [e2] at p2; exact p2.elim
        | some sv3 =>
          rw [e2] at p2
          have rsw : RS K ρ2 H3 (L2.wipe σ ix) (wipeS sv ix) := (RS.wipe rs ix).ext ((x1.trans x3).trans x4)
          have p3 := p2.bind0
          refine ct_mono (ct_w hm y _ H3 _ (ct_ok ct ρ2 h2 H3 (L2.wipe σ ix) (wipeS sv ix) sv3 _ y (fun σ2 H2' => tB K T W0 cond σ2 H2' fun b H4 => if b = true then tE K T W0 elt σ2 H4 (fun y H5 => ∃ acc, H5 D = some (.lst acc) ∧ acc.length < sizeLine ∧
              (i + 1 ≤ s.items.length ∧ ∃ ρ h, LcRest K T D (fun c d H' => W c d σ H') Q ρ1 H1 (i + 1) (lcL (ctT ct) cond elt s.chk (wipeS sv ix) (s.items.drop (i + 1))) ρ h (upd H5 D (.lst (acc ++ [y]))))) else
              (i + 1 ≤ s.items.length ∧ ∃ ρ h, LcRest K T D (fun c d H' => W c d σ H') Q ρ1 H1 (i + 1) (lcL (ctT ct) cond elt s.chk (wipeS sv ix) (s.items.drop (i + 1))) ρ h H4)) r3 rsw q3 e2 fun σ3 rs3 => ?_)) fun σ' H' z => ⟨z.1.trans wipe_again, z.2⟩
          -- the test
          have xall : Ext K ρ1 H1 ρ2 H3 := x3.trans x4
          refine ⟨sv3, ρ2, h2, rs3, r3, (PR.noEx (p3.ext xall)).mono fun b ρ4 h4 H4 x5 r4 p4 => ?_⟩
          have eD3 : H3 D = some (.lst acc) := x4.fr D _ eD nD2
          have eD4 : H4 D = some (.lst acc) := x5.fr D _ eD3 nD2
          have nD4 : D ∉ ρ4 := fun hmem => (x5.nw D hmem).elim nD2 fun z => by rw [eD3] at z; cases z
          cases b with
          | false => exact ⟨hl, ρ4, h4, xall.trans x5, r4, nD4, acc, acs, eD4, va.ext (x4.trans x5), by omega, p4⟩
          | true =>
            have p5 := PR.bind0 p4
            refine ⟨sv3, ρ4, h4, rs3.ext x5, r4, (PR.noEx (p5.ext (xall.trans x5))).mono fun v ρ5 h5 H5 x6 r5 p6 w qw => ?_⟩
            have eD5 : H5 D = some (.lst acc) := x6.fr D _ eD4 nD4
            have nD5 : D ∉ ρ5 := fun hmem => (x6.nw D hmem).elim nD4 fun z => by rw [eD4] at z; cases z
            have x7 : Ext K ρ1 H1 ρ5 H5 := (xall.trans x5).trans x6
            have va5 := va.ext ((x4.trans x5).trans x6)
            refine ⟨acc, eD5, by rw [← va.length, sizeLine_eq]; omega, hl, ρ5, h5, x7.over nD eD5 trivial, r5.off nD5 eD5 trivial, nD5, acc ++ [w], acs ++ [v], upd_same, VRs.ext0 (.off eD5 trivial) (va5.append (.one qw)), by simp; omega, ?_⟩
            exact p6.bind0.mono fun ys ρ' h' H' x8 r8 p8 zs e n vz => p8 ρ' H' x8 r8 zs e n (by rw [List.append_assoc] at vz; exact vz)
      · exact p2.elim
    · left
      have e1 : i = s.items.length := by omega
      subst e1
      refine ⟨stop, ?_⟩
      rw [List.drop_length] at p2
      unfold lcL at p2
      split at p2
      · exact p2 ρ2 H2 x3 r2 acc eD nD2 (by rw [List.append_nil]; exact va)
      · exact p2.elim
end
section
variable {X : Cx} {T : Tabs} {W : WX} {elt tg iter : Expr} {ifs : List Expr} {pos : Pos} {sr : Sg → M Src} {cond : BM} {m : EM} {scope : Scope} {own : List (Str × Nat)}
/-- [elt for tg in iter if ..] -/
theorem se_lc (ct : CT) (hc : X.calm = true) (hN : X.N.Nodup) (hi : SI X T W tg iter sr) (ok : BlkOk X.N X.env.scope scope own)
    (hg : ∀ (s : Shared) (H : Hp) (C : Addr) (cl : List (Str × Addr)) (fp : List Addr), PG (X.blk s H scope (compEnvC scope cl C X.env) fp) tg (ctG X.K ct))
    (ht : ∀ (s : Shared) (H : Hp) (C : Addr) (cl : List (Str × Addr)) (fp : List Addr), PTs (X.blk s H scope (compEnvC scope cl C X.env) fp) ifs (tB X.K T W0 cond))
    (he : ∀ (s : Shared) (H : Hp) (C : Addr) (cl : List (Str × Addr)) (fp : List Addr), PE (X.blk s H scope (compEnvC scope cl C X.env) fp) elt (tE X.K T W0 m))
    (hm : ∀ i ∈ ctI ct, i ∈ own.map (·.2) := by decide) (hs : ∀ x, foldedSetIterable iter X.env x = pure x := by intro _; rfl) :
    SE X T W (.ListComp elt [⟨tg, iter, ifs, 0⟩] scope pos) (eLc (own.map (·.2)) sr (ctT ct) cond m) :=
  PE.imp (pe_lc hc hN hi ok hg ht he hs) fun σ H Q p => tLc_of (fun _ _ _ z => z) hm p
theorem ss_setLc (i : Nat) (ct : CT) {y : Str} {py spos : Pos} (hc : X.calm = true) (hN : X.N.Nodup) (hy : X.N[i]? = some y) (hyl : X.env.scope.names.lookup y = some .local)
    (hsw : swapsWith (.ListComp elt [⟨tg, iter, ifs, 0⟩] scope pos) (some (.Name y py)) spos.line X.env = pure true) (hi : SI X T W tg iter sr) (ok : BlkOk X.N X.env.scope scope own)
    (hg : ∀ (s : Shared) (H : Hp) (C : Addr) (cl : List (Str × Addr)) (fp : List Addr), PG (X.blk s H scope (compEnvC scope cl C X.env) fp) tg (ctG X.K ct))
    (ht : ∀ (s : Shared) (H : Hp) (C : Addr) (cl : List (Str × Addr)) (fp : List Addr), PTs (X.blk s H scope (compEnvC scope cl C X.env) fp) ifs (tB X.K T W0 cond))
    (he : ∀ (s : Shared) (H : Hp) (C : Addr) (cl : List (Str × Addr)) (fp : List Addr), PE (X.blk s H scope (compEnvC scope cl C X.env) fp) elt (tE X.K T W0 m))
    (hm : ∀ i ∈ ctI ct, i ∈ own.map (·.2) := by decide) (hs : ∀ x, foldedSetIterable iter X.env x = pure x := by intro _; rfl) :
    SS X T W (.Assign [.Name y py] (.ListComp elt [⟨tg, iter, ifs, 0⟩] scope pos) spos) (sSet i (eLc (own.map (·.2)) sr (ctT ct) cond m)) := by
  refine PS.imp (ps_setLc hc hN hy hyl hsw hi ok hg ht he hs) fun D σ H p => ?_
  refine tLc_of (W := W) (sr := sr) (fun _ _ _ z => z) hm ?_
  obtain ⟨sv, ρ, h, rs, r, p⟩ := tS.bind p
  exact ⟨sv, ρ, h, rs, r, p.mono fun v ρ' h' H' x r' p' y q => let ⟨sv2, ρ2, h2, v2, rs2, r2, q2, p2⟩ := p' y q; p2 ρ2 _ _ .refl r2 (rs2.set i q2)⟩
theorem pts_yes {X : Cx} {K : PySem.W.Frag} : PTs X [] (tB K T W0 bYes) := ⟨fun pins s σ H Q I h => pts_nil.run pins s σ H Q I (by
  obtain ⟨sv, ρ, h, rs, r, p⟩ := h
  exact PR.ok (Q := QB Q) p r)⟩
theorem pts_if {X : Cx} {c : Expr} {t : TT} (h : PT X c t) : PTs X [c] t := pts_one h
end
end EV

/-! Ev9: while; defs, calls, methods, making. -/
namespace EV
open PySem PySem.Spec L2

/-! ### while -/
def whileGo (c : BM) (b : SM) (σ : Sg) (h : Mem) : Option Out := do
  let r ← c σ h
  match r with
  | .ex k xs h' => some (.ex k xs σ h')
  | .ok false h' => some (.nx σ h')
  | .ok true h' => do
    let o ← b σ h'
    match o with
    | .nx σ' h'' => whileGo c b σ' h''
    | .rt v h'' => some (.rt v h'')
    | .ex k xs σ' h'' => some (.ex k xs σ' h'')
partial_fixpoint
def sWhile (c : BM) (b : SM) : SM := fun σ h => whileGo c b σ h
def whileN (c : BM) (b : SM) : Nat → Sg → Mem → Option Out
  | 0, _, _ => none
  | n + 1, σ, h => (c σ h).bind fun r => match r with
    | .ex k xs h' => some (.ex k xs σ h')
    | .ok false h' => some (.nx σ h')
    | .ok true h' => (b σ h').bind fun o => match o with
      | .nx σ' h'' => whileN c b n σ' h''
      | .rt v h'' => some (.rt v h'')
      | .ex k xs σ' h'' => some (.ex k xs σ' h'')
theorem whileN_of {c : BM} {b : SM} (σ : Sg) (h : Mem) (o : Out) (e : whileGo c b σ h = some o) : ∃ n, whileN c b n σ h = some o := by
  refine whileGo.partial_correctness c b (fun σ h o => ∃ n, whileN c b n σ h = some o) ?_ σ h o e
  intro f ih σ h o e
  simp only [Option.bind_eq_bind, Option.bind_eq_some_iff] at e
  obtain ⟨r, e1, e2⟩ := e
  cases r with
  | ex k xs h' => cases e2; exact ⟨1, by simp [whileN, e1]⟩
  | ok t h' =>
    cases t with
    | false => cases e2; exact ⟨1, by simp [whileN, e1]⟩
    | true =>
      simp only [Option.bind_eq_bind, Option.bind_eq_some_iff] at e2
      obtain ⟨o1, e3, e4⟩ := e2
      cases o1 with
      | nx σ' h'' =>
        obtain ⟨n, e5⟩ := ih _ _ _ e4
        exact ⟨n + 1, by simp [whileN, e1, e3, e5]⟩
      | rt v h'' => cases e4; exact ⟨1, by simp [whileN, e1, e3]⟩
      | ex k xs σ' h'' => cases e4; exact ⟨1, by simp [whileN, e1, e3]⟩

section
variable {X : Cx} {T : Tabs} {W : WX} {e a b : Expr} {es : List Expr} {pos p : Pos} {m : EM} {s : SM} {ms : AM} {K : PySem.W.Frag} {ρ ρ' : List Addr} {H H' : Hp} {h : Mem} {D : Ends}
theorem ss_while {c : Expr} {body : List Stmt} {bc : BM} (hp : PassesOwn (model X.prog X.w) X.A X.env X.xe) (hc : ST X T W c bc) (hb : SSs X T W body s) : SS X T W (.While c body [] pos) (sWhile bc s) := by
  refine PS.imp (ps_while hp hc hb) fun D σ H ⟨sv, ρ, h, rs, r, p⟩ => ?_
  cases e : sWhile bc s sv h with
  | none => rw [e] at p; exact p.elim
  | some o =>
    rw [e] at p
    obtain ⟨n, en⟩ := whileN_of sv h o e
    refine ⟨fun n σ' H' => ∃ sv' ρ' h', Ext X.K ρ H ρ' H' ∧ RS X.K ρ' H' σ' sv' ∧ R X.K T ρ' h' H' ∧ whileN bc s n sv' h' = some o, ⟨n, sv, ρ, h, .refl, rs, r, en⟩, ?_⟩
    rintro m σ1 H1 ⟨sv1, ρ1, h1, x1, rs1, r1, e1⟩
    cases m with
    | zero => cases e1
    | succ m =>
      have p1 := PS'.ext p x1
      simp only [whileN, Option.bind_eq_some_iff] at e1
      obtain ⟨rr, e2, e3⟩ := e1
      refine ⟨sv1, ρ1, h1, rs1, r1, ?_⟩
      rw [e2]
      cases rr with
      | ex k xs h' => cases e3; exact fun ρ' H' cv d x r q => p1 ρ' H' σ1 cv d x r (rs1.ext x) q
      | ok t h' =>
        intro ρ2 H2 x2 r2
        cases t with
        | false => cases e3; exact p1 ρ2 H2 σ1 x2 r2 (rs1.ext x2)
        | true =>
          simp only [Option.bind_eq_some_iff] at e3
          obtain ⟨o1, e4, e5⟩ := e3
          refine ⟨fun σ' H' => ∃ sv' ρ' h', Ext X.K ρ H ρ' H' ∧ RS X.K ρ' H' σ' sv' ∧ R X.K T ρ' h' H' ∧ whileN bc s m sv' h' = some o, fun σ' H' q => ⟨m, Nat.lt_succ_self _, q⟩, sv1, ρ2, h', rs1.ext x2, r2, ?_⟩
          rw [e4]
          have p2 := PS'.ext p1 x2
          cases o1 with
          | nx σ' h'' => exact fun ρ3 H3 σ3 x3 r3 rs3 => ⟨σ', ρ3, h'', (x1.trans x2).trans x3, rs3, r3, e5⟩
          | rt v h'' => cases e5; exact p2
          | ex k xs σ' h'' => cases e5; exact p2

/-! ### defs -/
/-- a def by its body: nl slots, the parameters first -/
def fnOf (nl np : Nat) (s : SM) (as : List Val) : M Val := fun h => if as.length = np then match s (as.map some ++ List.replicate (nl - as.length) none) h with
  | none => none
  | some (.nx _ h') => some (.ok .non h')
  | some (.rt v h') => some (.ok v h')
  | some (.ex c xs _ h') => some (.ex c xs h')
  else none
/-- a def's promise: what the machine gives -/
def spOf (K : PySem.W.Frag) (T : Tabs) (np : Nat) (m : List Val → M Val) : Sp := fun vs H Q E => vs.length = np ∧ ∃ ρ h as, VRs K ρ H as vs ∧ R K T ρ h H ∧ PR K T ρ H E (QV K Q) (m as h)
theorem RS.start {N : List Str} {as : List Val} {vs : List V} (q : VRs K ρ H as vs) : RS K ρ H (start N vs) (as.map some ++ List.replicate (N.length - as.length) none) := by
  unfold L2.start
  rw [q.length]
  refine ⟨by simp [q.length], fun i v e => ?_⟩
  by_cases hi : i < as.length
  · rw [List.getElem?_append_left (by simpa using hi), List.getElem?_map] at e
    cases e1 : as[i]? with
    | none => rw [e1] at e; cases e
    | some u =>
      rw [e1] at e
      cases e
      obtain ⟨x, e2, e3⟩ := q.get e1
      exact ⟨x, by rw [List.getElem?_append_left (by rw [List.length_map, ← q.length]; exact hi), List.getElem?_map, e2]; rfl, e3⟩
  · rw [List.getElem?_append_right (by simpa using Nat.le_of_not_lt hi), List.getElem?_replicate] at e
    split at e <;> cases e
/-- what a def's body may lean on -/
structure XOk (X : Cx) (W : WX) (k : Nat) : Prop where
  calm : X.calm = true
  nd : X.N.Nodup
  room : Room k X.A
  tk : Takes X W
  own : PassesOwn (model X.prog X.w) X.A X.env X.xe
theorem fn_ok {P : Program} {w : World} {mg : Str → Option Value} {base : Heap} {x qual : Str} {st : Stmt} {f : Addr} {fd : FuncData} {N ps : List Str} {k : Nat} (F : Fun K x qual st f fd) (S : FnScope N ps (defScope st))
    (hb : ∀ (cdv : Value) (A : Around) (outer : List Env) (s0 : Shared) (H : Hp) (E : XK), XOk (cxOf (L2.CX P w) P w K mg base N qual (defScope st) f cdv A outer s0 H E) (fun c d _ H => E c d H) k →
      SSs (cxOf (L2.CX P w) P w K mg base N qual (defScope st) f cdv A outer s0 H E) T (fun c d _ H => E c d H) (defBody st) s) :
    FnOk P w K mg base (L2.CX P w) (k + 1) f fd ps (spOf K T ps.length (fnOf N.length ps.length s)) := by
  refine F.okX S (fun vs H Q E h => h.1) fun cdv A outer s0 H vs Q E hr ⟨hl, ρ, h, as, q, r, p⟩ => ?_
  have o : XOk (cxOf (L2.CX P w) P w K mg base N qual (defScope st) f cdv A outer s0 H E) (fun c d _ H => E c d H) k := ⟨rfl, S.nd, hr, takes_of rfl rfl rfl rfl, passes_of rfl⟩
  refine ⟨_, hb cdv A outer s0 H E o, _, ρ, h, RS.start q, r, ?_⟩
  unfold fnOf at p
  split at p
  · cases e : s (as.map some ++ List.replicate (N.length - as.length) none) h with
    | none => rw [e] at p; exact p.elim
    | some out =>
      rw [e] at p
      cases out with
      | nx σ' h' => exact fun ρ' H' σ' x r rs => p ρ' H' x r .non rfl
      | rt v h' => exact fun ρ' H' y x r rs => p ρ' H' x r y rs
      | ex c xs σ' h' => exact fun ρ' H' σ' cv d x r rs q => p ρ' H' cv d x r q
  · exact p.elim

/-! ### calls -/
section
variable {k : Nat} {f : Addr} {fd : FuncData} {ps : List Str} {ds : List Value} {dvs : List V} {fm : List Val → M Val} {x : Str} {dv : List Val}
/-- the callee runs; what it raises is wished for at the caller's slots -/
theorem run_fnD {sp : Sp} {pins : List (Addr × Obj)} {σ : L2.St} {H : Hp} {s : Shared} {Q : VK} {us : List Value} {vs : List V} (F : FnOk X.prog X.w X.K X.mg X.base (L2.CX X.prog X.w) k f fd ps sp) (hr : Room k X.A) (hb : Binds X.K fd ps ds) (hd : Vals dvs ds) (tk : Takes X W)
    (I : Inv X pins σ H s) (r : Vals vs us) (h : sp (vs ++ dvs) H Q (WE W σ)) : wpAny (model X.prog X.w) X.A (call (.ref f) us) (EP X pins σ Q) X.xe s := by
  have r2 : Vals (vs ++ dvs) (us ++ ds) := r.append hd
  have hl : (us ++ ds).length = ps.length := by rw [← r2.length]; exact F.len _ _ _ _ h
  refine wpAny_call (codeAny_mono (F.run X.A X.stack s H ⟨us, []⟩ (us ++ ds) (vs ++ dvs) Q (WE W σ) hr I.env0 (hb s us I.kIn hl) r2 h) fun r s' hq => ?_)
  cases r with
  | error e => exact passAt tk σ pins H s e s' I hq
  | ok fl =>
    cases fl with
    | ret u => exact I.after hq
    | next => exact False.elim hq
    | brk => exact False.elim hq
    | cont => exact False.elim hq
end
end
end EV

namespace EV
open PySem PySem.Spec L2
/-- f(..): np parameters, dv the defaults that fill up -/
def eCall (np : Nat) (fm : List Val → M Val) (dv : List Val) (ms : AM) : EM := fun σ => mBind (ms σ) fun vs => if (vs ++ dv).length = np then fm (vs ++ dv) else mBad
/-- o.m(..), by the class of o -/
def eMeth (disp : Nat → Option (Nat × (List Val → M Val) × List Val)) (mo : EM) (ms : AM) : EM := fun σ => mBind (mo σ) fun v h => match insOf h v with
  | none => none
  | some (c, _) => match disp c with
    | none => none
    | some (np, fm, dv) => mBind (ms σ) (fun vs => if (v :: (vs ++ dv)).length = np then fm (v :: (vs ++ dv)) else mBad) h
/-- C(..) -/
def eMake (c np : Nat) (fm : List Val → M Val) (dv : List Val) (ms : AM) : EM := fun σ => mBind (ms σ) fun vs => mBind (mNew (.ins c [])) fun r => if (r :: (vs ++ dv)).length = np then mBind (fm (r :: (vs ++ dv))) fun x => match x with
  | .non => mRet r
  | _ => mBad
  else mBad
section
variable {X : Cx} {T : Tabs} {W : WX} {e o : Expr} {es : List Expr} {pos p apos : Pos} {m mo : EM} {ms : AM} {k np : Nat} {f : Addr} {fd : FuncData} {ps : List Str} {ds : List Value} {dvs : List V} {fm : List Val → M Val} {x : Str} {dv : List Val}
theorem se_call (F : FnOk X.prog X.w X.K X.mg X.base (L2.CX X.prog X.w) k f fd ps (spOf X.K T np fm)) (hr : Room k X.A) (tk : Takes X W) (hg : Gl X x) (hm : X.mg x = some (.ref f)) (hk : PySem.W.keepIn X.K (.ref f) = true) (hb : Binds X.K fd ps ds) (hd : Vals dvs ds)
    (hdv : ∀ ρ H, VRs X.K ρ H dv dvs) (ha : SA X T W (e :: es) ms) (hdb : (x == ("__debug__" : Str)) = false := by decide) (he : starEach (e :: es) X.env = (false, eval e X.env) :: starEach es X.env := by rfl) (hpl : (backTo pos (starEach es X.env)).any (·.1) = false := by rfl) :
    SE X T W (.Call (.Name x p) (e :: es) [] pos) (eCall np fm dv ms) := by
  refine ⟨fun pins s σ H Q I ⟨sv, ρ, h, rs, r, p⟩ => ?_⟩
  refine wpAny_Call_Name_kw (ld_glob I hg hm ?_ hdb)
  refine PySem.W.callWith_K (h₀ := X.base) I.ok.mod.kin hk (thn (ha.run pos pins s σ H (fun vs H1 => ∃ ρ' h' as, VRs X.K ρ' H1 as vs ∧ R X.K T ρ' h' H1 ∧ PR X.K T ρ' H1 (fun c d H' => W c d σ H') (QV X.K Q) ((if (as ++ dv).length = np then fm (as ++ dv) else mBad) h')) I
    ⟨sv, ρ, h, rs, r, p.bind.mono fun as ρ' h' H' x r' p' vs q => ⟨ρ', h', as, q, r', p'⟩⟩) fun us s1 ⟨vs, H1, I1, rv, ρ', h', as, q, r', p'⟩ => ⟨I1.kIn, ?_⟩) he hpl
  split at p'
  · rename_i hl
    have q2 := q.append (hdv ρ' H1)
    exact run_fnD F hr hb hd tk I1 rv ⟨by rw [← q2.length]; exact hl, ρ', h', as ++ dv, q2, r', p'⟩
  · exact p'.elim
/-- how a class's method is called -/
structure MOk (P : Program) (w : World) (K : PySem.W.Frag) (mg : Str → Option Value) (base : Heap) (T : Tabs) (k : Nat) (m : Str) (c np : Nat) (fm : List Val → M Val) (dv : List Val) : Prop where
  mk' :: ex : ∃ f fd ps ds dvs, Meth K (T.cls c) m f ∧ FnOk P w K mg base (L2.CX P w) k f fd ps (spOf K T np fm) ∧ Binds K fd ps ds ∧ Vals dvs ds ∧ ∀ ρ H, VRs K ρ H dv dvs
theorem se_meth {disp : Nat → Option (Nat × (List Val → M Val) × List Val)} {mn : Str} {pl : Sem Bool} (cf : CF X.K T) (hM : ∀ c np fm dv, disp c = some (np, fm, dv) → MOk X.prog X.w X.K X.mg X.base T k mn c np fm dv) (hno : ∀ j, j < T.nf → T.fnm j ≠ mn) (hr : Room k X.A) (tk : Takes X W) (ho : SE X T W o mo) (ha : SA X T W (e :: es) ms)
    (hst : starEach (e :: es) X.env = (false, eval e X.env) :: starEach es X.env := by rfl) (hpl : (backTo pos (starEach es X.env)).any (·.1) = false := by rfl)
    (ht : eval (.Call (.Attribute o mn apos) (e :: es) [] pos) X.env = (do
      let ov ← eval o X.env
      standAt apos.atName
      let (f, first) ← holding [ov] (getMethod ov mn pl)
      callWith pos f first (backTo pos (starEach (e :: es) X.env)) (backToKw pos (keywordEach [] X.env))) := by rfl) :
    SE X T W (.Call (.Attribute o mn apos) (e :: es) [] pos) (eMeth disp mo ms) := by
  refine ⟨fun pins s σ H Q I ⟨sv, ρ, h, rs, r, p⟩ => ?_⟩
  refine PySem.W.methodCall_KW (pl := pl) (thn (ho.run pins s σ H (fun x H1 => ∃ ρ1 h1 v, RS X.K ρ1 H1 σ sv ∧ R X.K T ρ1 h1 H1 ∧ VR X.K ρ1 H1 v x ∧ PR X.K T ρ1 H1 (fun c d H' => W c d σ H') (QV X.K Q) (match insOf h1 v with
    | none => none
    | some (c, _) => match disp c with
      | none => none
      | some (np, fm, dv) => mBind (ms sv) (fun vs => if (v :: (vs ++ dv)).length = np then fm (v :: (vs ++ dv)) else mBad) h1)) I ⟨sv, ρ, h, rs, r, p.bind.mono fun v ρ' h' H' x r' p' y q => ⟨ρ', h', v, rs.ext x, r', q, p'⟩⟩) fun u s1 ⟨x, H1, I1, rx, ρ1, h1, v, rs1, r1, q1, p1⟩ => ?_) ht
  cases e1 : insOf h1 v with
  | none => rw [e1] at p1; exact p1.elim
  | some cf' =>
    obtain ⟨c, fs⟩ := cf'
    rw [e1] at p1
    simp only at p1
    cases e2 : disp c with
    | none => rw [e2] at p1; exact p1.elim
    | some t =>
      obtain ⟨np', fm', dv'⟩ := t
      rw [e2] at p1
      simp only at p1
      obtain ⟨f, fd, ps, ds, dvs, hm, F, hb, hd, hdv⟩ := (hM c np' fm' dv' e2).ex
      obtain ⟨n, a, dx, gs, rfl, e3, rfl, e4, e5, fr⟩ := ins_ok r1 q1 e1
      obtain rfl : u = Value.ref a := rx
      refine getmeth_ok I1 e5 (cf.cls c) hm (fr.notin hno) ?_
      refine PySem.W.callWith_K (first := [.ref a]) (h₀ := X.base) I.ok.mod.kin hm.kp (thn (ha.run pos pins s1 σ H1 (fun vs H2 => ∃ ρ2 h2 as, VRs X.K ρ2 H2 as vs ∧ R X.K T ρ2 h2 H2 ∧ VR X.K ρ2 H2 (.ref n) (.ref a) ∧ PR X.K T ρ2 H2 (fun c d H' => W c d σ H') (QV X.K Q)
        ((if (Val.ref n :: (as ++ dv')).length = np' then fm' (Val.ref n :: (as ++ dv')) else mBad) h2)) I1 ⟨sv, ρ1, h1, rs1, r1, p1.bind.mono fun as ρ2 h2 H2 x2 r2 p2 vs q2 => ⟨ρ2, h2, as, q2, r2, q1.ext x2, p2⟩⟩)
        fun us s2 ⟨vs, H2, I2, rv, ρ2, h2, as, q2, r2, q3, p2⟩ => ⟨I2.kIn, ?_⟩) hst hpl
      split at p2
      · rename_i hl
        have q4 : VRs X.K ρ2 H2 (Val.ref n :: (as ++ dv')) (V.ref a :: (vs ++ dvs)) := ⟨_, _, rfl, q3, q2.append (hdv ρ2 H2)⟩
        exact run_fnD (us := .ref a :: us) (vs := .ref a :: vs) F hr hb hd tk I2 (.cons rfl rv) ⟨by rw [show (V.ref a :: vs) ++ dvs = V.ref a :: (vs ++ dvs) from rfl, ← q4.length]; exact hl, ρ2, h2, _, q4, r2, p2⟩
      · exact p2.elim
theorem se_meth0 {disp : Nat → Option (Nat × (List Val → M Val) × List Val)} {mn : Str} {pl : Sem Bool} (cf : CF X.K T) (hM : ∀ c np fm dv, disp c = some (np, fm, dv) → MOk X.prog X.w X.K X.mg X.base T k mn c np fm dv) (hno : ∀ j, j < T.nf → T.fnm j ≠ mn) (hr : Room k X.A) (tk : Takes X W) (ho : SE X T W o mo)
    (ht : eval (.Call (.Attribute o mn apos) [] [] pos) X.env = (do
      let ov ← eval o X.env
      standAt apos.atName
      let (f, first) ← holding [ov] (getMethod ov mn pl)
      callWith pos f first (backTo pos (starEach [] X.env)) (backToKw pos (keywordEach [] X.env))) := by rfl) :
    SE X T W (.Call (.Attribute o mn apos) [] [] pos) (eMeth disp mo aNil) := by
  refine ⟨fun pins s σ H Q I ⟨sv, ρ, h, rs, r, p⟩ => ?_⟩
  refine PySem.W.methodCall_KW (pl := pl) (thn (ho.run pins s σ H (fun x H1 => ∃ ρ1 h1 v, RS X.K ρ1 H1 σ sv ∧ R X.K T ρ1 h1 H1 ∧ VR X.K ρ1 H1 v x ∧ PR X.K T ρ1 H1 (fun c d H' => W c d σ H') (QV X.K Q) (match insOf h1 v with
    | none => none
    | some (c, _) => match disp c with
      | none => none
      | some (np, fm, dv) => mBind (aNil sv) (fun vs => if (v :: (vs ++ dv)).length = np then fm (v :: (vs ++ dv)) else mBad) h1)) I ⟨sv, ρ, h, rs, r, p.bind.mono fun v ρ' h' H' x r' p' y q => ⟨ρ', h', v, rs.ext x, r', q, p'⟩⟩) fun u s1 ⟨x, H1, I1, rx, ρ1, h1, v, rs1, r1, q1, p1⟩ => ?_) ht
  cases e1 : insOf h1 v with
  | none => rw [e1] at p1; exact p1.elim
  | some cf' =>
    obtain ⟨c, fs⟩ := cf'
    rw [e1] at p1
    simp only at p1
    cases e2 : disp c with
    | none => rw [e2] at p1; exact p1.elim
    | some t =>
      obtain ⟨np', fm', dv'⟩ := t
      rw [e2] at p1
      simp only at p1
      obtain ⟨f, fd, ps, ds, dvs, hm, F, hb, hd, hdv⟩ := (hM c np' fm' dv' e2).ex
      obtain ⟨n, a, dx, gs, rfl, e3, rfl, e4, e5, fr⟩ := ins_ok r1 q1 e1
      obtain rfl : u = Value.ref a := rx
      refine getmeth_ok I1 e5 (cf.cls c) hm (fr.notin hno) ?_
      have p2 : PR X.K T ρ1 H1 (fun c d H' => W c d σ H') (QV X.K Q) ((if (Val.ref n :: ([] ++ dv')).length = np' then fm' (Val.ref n :: ([] ++ dv')) else mBad) h1) := p1
      split at p2
      · rename_i hl
        have q4 : VRs X.K ρ1 H1 (Val.ref n :: dv') (V.ref a :: dvs) := ⟨_, _, rfl, q1, hdv ρ1 H1⟩
        exact PySem.W.callWith_K0 (first := [.ref a]) I1.kIn hm.kp (run_fnD (us := [.ref a]) (vs := [.ref a]) F hr hb hd tk I1 (.cons rfl .nil) ⟨by rw [show [V.ref a] ++ dvs = V.ref a :: dvs from rfl, ← q4.length]; exact hl, ρ1, h1, _, q4, r1, p2⟩)
      · exact p2.elim
/-- a new instance and its dict -/
theorem run_makeD {sp : Sp} {C : Addr} {pins : List (Addr × Obj)} {σ : L2.St} {H : Hp} {s : Shared} {Q : VK} {us : List Value} {vs : List V} (M : Mk X.K C f) (F : FnOk X.prog X.w X.K X.mg X.base (L2.CX X.prog X.w) k f fd ps sp) (hr : Room (k + 1) X.A) (hb : Binds X.K fd ps ds) (hd : Vals dvs ds)
    (tk : Takes X W) (I : Inv X pins σ H s) (r : Vals vs us)
    (h : ∀ x dx, H x = none → H dx = none → dx ≠ x → sp (.ref x :: (vs ++ dvs)) (upd (upd H dx (.own x)) x (.ins C dx [])) (fun v H2 => v = .non ∧ Q (.ref x) H2) (WE W σ)) :
    wpAny (model X.prog X.w) X.A (call (.ref C) us) (EP X pins σ Q) X.xe s := by
  have hq := h (s.heap.objs.size + 1) s.heap.objs.size (I.hok.fresh (Nat.le_succ _)) (I.hok.fresh (Nat.le_refl _)) (Nat.ne_of_lt (Nat.lt_succ_self _))
  have I2 := Inv.made (C := C) I
  have r2 : Vals (V.ref (s.heap.objs.size + 1) :: (vs ++ dvs)) (Value.ref (s.heap.objs.size + 1) :: (us ++ ds)) := .cons rfl (r.append hd)
  have hl : (Value.ref (s.heap.objs.size + 1) :: us ++ ds).length = ps.length := by
    have e := r2.length
    rw [F.len _ _ _ _ hq] at e
    exact e.symm
  refine wpAny_call (make_map (f := f) I.kIn M.makes M.init (beq_iff_eq.mp M.fn) (codeAny_mono (F.run _ X.stack _ _ ⟨Value.ref (s.heap.objs.size + 1) :: us, []⟩ (Value.ref (s.heap.objs.size + 1) :: (us ++ ds)) _ _ (WE W σ) (hr.make C us [])
    (I2.env0.make C us []) (hb _ (Value.ref (s.heap.objs.size + 1) :: us) I2.kIn hl) r2 hq) fun r s' hq' => ?_))
  cases r with
  | error e => exact passAt tk σ pins _ _ e s' I2 hq'
  | ok fl =>
    cases fl with
    | ret u =>
      obtain ⟨v, H', I3, rv, ev, q3⟩ := I2.after hq'
      subst ev
      exact ⟨rv, ⟨V.ref (s.heap.objs.size + 1), H', I3, rfl, q3⟩⟩
    | next => exact False.elim hq'
    | brk => exact False.elim hq'
    | cont => exact False.elim hq'
theorem se_make {c : Nat} {C : Addr} (hC : T.cls c = C) (M : Mk X.K C f) (F : FnOk X.prog X.w X.K X.mg X.base (L2.CX X.prog X.w) k f fd ps (spOf X.K T np fm)) (hr : Room (k + 1) X.A) (tk : Takes X W) (hg : Gl X x) (hm : X.mg x = some (.ref C)) (hb : Binds X.K fd ps ds) (hd : Vals dvs ds)
    (hdv : ∀ ρ H, VRs X.K ρ H dv dvs) (ha : SA X T W (e :: es) ms) (hdb : (x == ("__debug__" : Str)) = false := by decide) (he : starEach (e :: es) X.env = (false, eval e X.env) :: starEach es X.env := by rfl) (hpl : (backTo pos (starEach es X.env)).any (·.1) = false := by rfl) :
    SE X T W (.Call (.Name x p) (e :: es) [] pos) (eMake c np fm dv ms) := by
  refine ⟨fun pins s σ H Q I ⟨sv, ρ, h, rs, r, p⟩ => ?_⟩
  refine wpAny_Call_Name_kw (ld_glob I hg hm ?_ hdb)
  refine PySem.W.callWith_K (h₀ := X.base) I.ok.mod.kin M.kp (thn (ha.run pos pins s σ H (fun vs H1 => ∃ ρ' h' as, VRs X.K ρ' H1 as vs ∧ R X.K T ρ' h' H1 ∧ PR X.K T ρ' H1 (fun c d H' => W c d σ H') (QV X.K Q) (mBind (mNew (.ins c [])) (fun r => if (r :: (as ++ dv)).length = np then mBind (fm (r :: (as ++ dv))) fun x => match x with
    | .non => mRet r
    | _ => mBad
    else mBad) h')) I ⟨sv, ρ, h, rs, r, p.bind.mono fun as ρ' h' H' x r' p' vs q => ⟨ρ', h', as, q, r', p'⟩⟩) fun us s1 ⟨vs, H1, I1, rv, ρ', h', as, q, r', p'⟩ => ⟨I1.kIn, ?_⟩) he hpl
  refine run_makeD M F hr hb hd tk I1 rv fun a dx na ndx hne => ?_
  subst hC
  have nx2 : upd H1 dx (.own a) a = none := by rw [upd_ne (Ne.symm hne)]; exact na
  have r2 : R X.K T (ρ' ++ [a]) (h' ++ [.ins c []]) (upd (upd H1 dx (.own a)) a (.ins (T.cls c) dx [])) := (r'.side ndx).new nx2 ⟨dx, [], upd_same, .nil⟩
  have x2 : Ext X.K ρ' H1 (ρ' ++ [a]) (upd (upd H1 dx (.own a)) a (.ins (T.cls c) dx [])) := (Ext.side (ρ := ρ') ndx).trans (Ext.grow nx2 (.side nx2))
  have qa : VR X.K (ρ' ++ [a]) (upd (upd H1 dx (.own a)) a (.ins (T.cls c) dx [])) (.ref h'.length) (.ref a) := ⟨a, by rw [← r'.len]; simp, rfl⟩
  have p2 := p'.bind _ _ x2 r2
  dsimp only at p2
  split at p2
  · rename_i hl
    have q4 : VRs X.K (ρ' ++ [a]) (upd (upd H1 dx (.own a)) a (.ins (T.cls c) dx [])) (.ref h'.length :: (as ++ dv)) (.ref a :: (vs ++ dvs)) := ⟨_, _, rfl, qa, (q.ext x2).append (hdv _ _)⟩
    refine ⟨by rw [← q4.length]; exact hl, ρ' ++ [a], h' ++ [.ins c []], _, q4, r2, p2.bind.mono fun v ρ3 h3 H3 x3 r3 p3 y q3 => ?_⟩
    cases v with
    | non => cases q3; exact ⟨rfl, PR.ok (Q := QV X.K Q) p3 r3 _ (qa.ext x3)⟩
    | _ => exact p3.elim
  · exact p2.elim
end
end EV

/-! EvA: methods of built-in types, in, join. -/
namespace EV
open PySem PySem.Spec L2

/-! ### methods by the receiver's type -/
/-- o.m(..) of a list, a text (by name T) -/
def eBM (T : String) (f : Val → List Val → M Val) (mo : EM) (ms : AM) : EM := fun σ => mBind (mo σ) fun v h => if tyOf h v = some T then mBind (ms σ) (f v) h else none
def MethOk (K : PySem.W.Frag) (T : Tabs) (r : V → List V → Hp → VK → Prop) (f : Val → List Val → M Val) : Prop :=
  ∀ (ρ : List Addr) (h : Mem) (H : Hp) (v : Val) (vs : List Val) (x : V) (xs : List V) (E : XK) (Q : VK), R K T ρ h H → VR K ρ H v x → VRs K ρ H vs xs → PR K T ρ H E (QV K Q) (f v vs h) → r x xs H Q
theorem tyV_ok {K : PySem.W.Frag} {T : Tabs} {ρ : List Addr} {h : Mem} {H : Hp} (r : R K T ρ h H) {v : Val} {x : V} {t : String} (q : VR K ρ H v x) (e : tyOf h v = some t) (ht : t = "list" ∨ t = "str" ∨ t = "dict") : tyV K t x H := by
  cases v with
  | str i => cases e; cases q; exact rfl
  | frl xs => cases e; obtain ⟨a, vs, rfl, s, _⟩ := q; exact .inl ⟨rfl, vs, s.sq⟩
  | ref n =>
    simp only [tyOf] at e
    cases e1 : h[n]? with
    | none => rw [e1] at e; cases e
    | some o =>
      rw [e1] at e
      obtain ⟨a, e2, rfl, w⟩ := r.atRef q e1
      cases o with
      | lst xs => cases e; obtain ⟨vs, w, _⟩ := w; exact .inl ⟨rfl, vs, .of w⟩
      | dct xs => cases e; obtain ⟨vs, w, _⟩ := w; exact .inr (.inr (.inl ⟨rfl, .inl ⟨vs, w⟩⟩))
      | dtt xs => cases e; obtain ⟨vs, w, _⟩ := w; exact .inr (.inr (.inl ⟨rfl, .inr ⟨vs, w⟩⟩))
      | ins _ _ => cases e
  | non => cases e; simp at ht
  | bl b => cases e; simp at ht
  | int i => cases e; simp at ht
  | tup xs => cases e; simp at ht
  | exn _ _ => cases e
section
variable {X : Cx} {T : Tabs} {W : WX} {e o : Expr} {es : List Expr} {apos cpos : Pos} {mo m : EM} {ms : AM} {t id : String} {name : Str} {r : V → List V → Hp → VK → Prop} {f : Val → List Val → M Val}
theorem tBM_of {K : PySem.W.Frag} {σ : L2.St} {H : Hp} {Q : VK} (k : MethOk K T r f) (ht : t = "list" ∨ t = "str" ∨ t = "dict") (p : tE K T W (eBM t f mo ms) σ H Q) : tBM K t r (tE K T W mo) (tA K T W ms) σ H Q := by
  obtain ⟨sv, ρ, h, rs, r0, p⟩ := p
  refine ⟨sv, ρ, h, rs, r0, p.bind.mono fun v ρ' h' H' x r' p' y q => ?_⟩
  split at p'
  · rename_i hty
    refine ⟨tyV_ok r' q hty ht, sv, ρ', h', rs.ext x, r', p'.bind.mono fun vs ρ2 h2 H2 x2 r2 p2 xs q2 => ?_⟩
    exact k ρ2 h2 H2 v vs y xs _ Q r2 (q.ext x2) q2 p2
  · exact p'.elim
theorem se_bm (pa : PlainAttrs t) (slot : Slot t name id) (hty : typeOf (.builtin id) = pure (.type "method_descriptor")) (hm : MtR X id r) (k : MethOk X.K T r f) (ho : SE X T W o mo) (ha : SA X T W (e :: es) ms) (ht : t = "list" ∨ t = "str" ∨ t = "dict" := by simp)
    (hbase : attributeBase o name X.env (eval o X.env) = eval o X.env := by rfl)
    (hfew : ((backTo cpos (starEach (e :: es) X.env)).all (fun x => !x.1) && (backToKw cpos (keywordEach [] X.env)).all (fun x => x.1.isSome)
      && decide ((e :: es).length + ([] : List Keyword).length + (if ([] : List Keyword).isEmpty then 0 else 1) < 30)) = true := by rfl)
    (hline : (apos.endLine == cpos.line) = true := by rfl) (hs : starEach (e :: es) X.env = (false, eval e X.env) :: starEach es X.env := by rfl) (hplain : (backTo cpos (starEach es X.env)).any (·.1) = false := by rfl) :
    SE X T W (.Call (.Attribute o name apos) (e :: es) [] cpos) (eBM t f mo ms) :=
  PE.imp (pe_bm pa slot hty hm ho ha hbase hfew hline hs hplain) fun σ H Q p => tBM_of k ht p
theorem se_bm0 (pa : PlainAttrs t) (slot : Slot t name id) (hty : typeOf (.builtin id) = pure (.type "method_descriptor")) (hm : MtR X id r) (k : MethOk X.K T r f) (ho : SE X T W o mo) (ht : t = "list" ∨ t = "str" ∨ t = "dict" := by simp)
    (hbase : attributeBase o name X.env (eval o X.env) = eval o X.env := by rfl) (hline : (apos.endLine == cpos.line) = true := by rfl) : SE X T W (.Call (.Attribute o name apos) [] [] cpos) (eBM t f mo aNil) :=
  PE.imp (pe_bm0 pa slot hty hm ho hbase hline) fun σ H Q ⟨sv, ρ, h, rs, r0, p⟩ => ⟨sv, ρ, h, rs, r0, p.bind.mono fun v ρ' h' H' x r' p' y q => by
    split at p'
    · rename_i hty
      exact ⟨tyV_ok r' q hty ht, k ρ' h' H' v [] y [] _ Q r' q rfl p'⟩
    · exact p'.elim⟩
end
/-- one argument -/
def on1 (f : Nat → Val → M Val) : Val → List Val → M Val
  | .ref n, [y] => f n y
  | _, _ => mBad
def on0 (f : Nat → M Val) : Val → List Val → M Val
  | .ref n, [] => f n
  | _, _ => mBad
def onL (n : Nat) (f : List Val → M Val) : M Val := fun h => match h[n]? with
  | some (.lst xs) => f xs h
  | _ => none
def mSet (n : Nat) (o : Ob) (v : Val) : M Val := fun h => some (.ok v (h.set n o))
def oAppend : Val → List Val → M Val := on1 fun n y => onL n fun xs => if xs.length < 1000000 then mSet n (.lst (xs ++ [y])) .non else mBad
def oPop0 : Val → List Val → M Val := on0 fun n => onL n fun xs => match xs[xs.length - 1]? with
  | some y => mSet n (.lst xs.dropLast) y
  | none => mBad
def oRev : Val → List Val → M Val := on0 fun n => onL n fun xs => mSet n (.lst xs.reverse) .non
def oClearL : Val → List Val → M Val := on0 fun n => onL n fun _ => mSet n (.lst []) .non
def oExtend : Val → List Val → M Val := on1 fun n y => match y with
  | .ref b => onL n fun xs => onL b fun ys => if xs.length + ys.length ≤ 1000000 then mSet n (.lst (xs ++ ys)) .non else mBad
  | _ => mBad
def oJoin : Val → List Val → M Val
  | .str a, [v] => fun h => match (seqOf h v).bind strsOf with
    | some ys => if (ys.map (·.length)).sum + ys.length * a.length ≤ 16777216 then some (.ok (.str (Txt.join a ys)) h) else none
    | none => none
  | _, _ => mBad
section
variable {K : PySem.W.Frag} {T : Tabs} {ρ : List Addr} {h : Mem} {H : Hp} {E : XK} {Q : Val → List Addr → Mem → Hp → Prop}
theorem PR.on1 {f : Nat → Val → M Val} {v : Val} {vs : List Val} (p : PR K T ρ H E Q (on1 f v vs h)) : ∃ n y, v = .ref n ∧ vs = [y] ∧ PR K T ρ H E Q (f n y h) := by
  cases v with
  | ref n =>
    match vs with
    | [] => exact p.elim
    | [y] => exact ⟨n, y, rfl, rfl, p⟩
    | _ :: _ :: _ => exact p.elim
  | _ => exact p.elim
theorem PR.on0 {f : Nat → M Val} {v : Val} {vs : List Val} (p : PR K T ρ H E Q (on0 f v vs h)) : ∃ n, v = .ref n ∧ vs = [] ∧ PR K T ρ H E Q (f n h) := by
  cases v with
  | ref n =>
    match vs with
    | [] => exact ⟨n, rfl, rfl, p⟩
    | _ :: _ => exact p.elim
  | _ => exact p.elim
theorem PR.onL {n : Nat} {f : List Val → M Val} (p : PR K T ρ H E Q (onL n f h)) : ∃ xs, h[n]? = some (.lst xs) ∧ PR K T ρ H E Q (f xs h) := by
  unfold EV.onL at p
  cases e : h[n]? with
  | none => rw [e] at p; exact p.elim
  | some o =>
    rw [e] at p
    cases o with
    | lst xs => exact ⟨xs, rfl, p⟩
    | _ => exact p.elim
/-- a list is written over -/
theorem PR.setLst {n : Nat} {a : Addr} {xs : List Val} {vs : List V} {v : Val} {y : V} {Q : VK} (r : R K T ρ h H) (e : ρ[n]? = some a) (p : PR K T ρ H E (QV K Q) (mSet n (.lst xs) v h)) (rv : VRs K ρ H xs vs) (q : VR K ρ H v y) : Q y (upd H a (.lst vs)) := by
  have x : Ext K ρ H ρ (upd H a (.lst vs)) := Ext.writeAt r e
  exact p ρ _ x (r.write e ⟨vs, upd_same, rv.ext x⟩) y (q.ext x)
theorem ok_append : MethOk K T rAppend oAppend := by
  intro ρ h H v vs x xs E Q r q qs p
  obtain ⟨n, y, rfl, rfl, p1⟩ := p.on1
  obtain ⟨ys, e, p2⟩ := p1.onL
  obtain ⟨z, rfl, qz⟩ := qs.unone
  obtain ⟨a, e2, rfl, ws, e3, rv⟩ := r.atRef q e
  split at p2
  · rename_i hl
    exact ⟨a, ws, z, rfl, rfl, e3, by rw [← rv.length, sizeLine_eq]; omega, PR.setLst r e2 p2 (rv.append (.one qz)) rfl⟩
  · exact p2.elim
theorem ok_pop0 : MethOk K T rPop oPop0 := by
  intro ρ h H v vs x xs E Q r q qs p
  obtain ⟨n, rfl, rfl, p1⟩ := p.on0
  obtain ⟨ys, e, p2⟩ := p1.onL
  cases qs
  obtain ⟨a, e2, rfl, ws, e3, rv⟩ := r.atRef q e
  cases e4 : ys[ys.length - 1]? with
  | none => rw [e4] at p2; exact p2.elim
  | some y =>
    rw [e4] at p2
    obtain ⟨w, e5, q5⟩ := rv.get e4
    exact ⟨a, ws, w, rfl, rfl, e3, by rw [← rv.length]; exact e5, PR.setLst r e2 p2 rv.dropLast q5⟩
theorem ok_rev : MethOk K T rReverse oRev := by
  intro ρ h H v vs x xs E Q r q qs p
  obtain ⟨n, rfl, rfl, p1⟩ := p.on0
  obtain ⟨ys, e, p2⟩ := p1.onL
  cases qs
  obtain ⟨a, e2, rfl, ws, e3, rv⟩ := r.atRef q e
  exact ⟨a, ws, rfl, rfl, e3, PR.setLst r e2 p2 rv.reverse rfl⟩
theorem ok_clearL : MethOk K T rClear oClearL := by
  intro ρ h H v vs x xs E Q r q qs p
  obtain ⟨n, rfl, rfl, p1⟩ := p.on0
  obtain ⟨ys, e, p2⟩ := p1.onL
  cases qs
  obtain ⟨a, e2, rfl, ws, e3, rv⟩ := r.atRef q e
  exact ⟨a, ws, rfl, rfl, e3, PR.setLst r e2 p2 (xs := []) rfl rfl⟩
theorem ok_extend : MethOk K T rExtend oExtend := by
  intro ρ h H v vs x xs E Q r q qs p
  obtain ⟨n, y, rfl, rfl, p1⟩ := p.on1
  cases y with
  | ref b =>
    obtain ⟨ys, e, p2⟩ := p1.onL
    obtain ⟨zs, e', p3⟩ := p2.onL
    obtain ⟨z, rfl, qz⟩ := qs.unone
    obtain ⟨a, e2, rfl, ws, e3, rv⟩ := r.atRef q e
    obtain ⟨a', e2', rfl, ws', e3', rv'⟩ := r.atRef qz e'
    split at p3
    · rename_i hl
      exact ⟨a, a', ws, ws', rfl, rfl, e3, e3', by rw [← rv.length, ← rv'.length, sizeLine_eq]; omega, PR.setLst r e2 p3 (rv.append rv') rfl⟩
    · exact p3.elim
  | _ => exact p1.elim
theorem ok_join : MethOk K T (fun x xs H Q => ∃ a p, ∃ ys : List Str, x = .str a ∧ xs = [.ref p] ∧ (SqL K H p (ys.map V.str) ∨ SqT K H p (ys.map V.str)) ∧
    (ys.map (·.length)).sum + ys.length * a.length ≤ 16777216 ∧ Q (.str (Txt.join a ys)) H) oJoin := by
  intro ρ h H v vs x xs E Q r q qs p
  cases v with
  | str a =>
    match vs, qs, p with
    | [], _, p => exact p.elim
    | _ :: _ :: _, _, p => exact p.elim
    | [u], qs, p =>
      obtain ⟨z, rfl, qz⟩ := qs.unone
      simp only [oJoin] at p
      cases e : (seqOf h u).bind strsOf with
      | none => rw [e] at p; exact p.elim
      | some ys =>
        rw [e] at p
        simp only [Option.bind_eq_some_iff] at e
        obtain ⟨zs, e1, e2⟩ := e
        obtain ⟨ad, ws, rfl, s, rv⟩ := seq_ok r qz e1
        have e3 := strs_ok rv e2
        subst e3
        cases q
        simp only at p
        split at p
        · rename_i hl
          exact ⟨a, ad, ys, rfl, rfl, s, hl, PR.ok (Q := QV K Q) p r _ rfl⟩
        · exact p.elim
  | _ => exact p.elim
end

/-! ### dicts -/
def dctOf (h : Mem) : Val → Option (List (Key × Val))
  | .ref n => match h[n]? with
    | some (.dct kvs) => some kvs
    | _ => none
  | _ => none
def isDct (h : Mem) (v : Val) : Bool := (dctOf h v).isSome
/-- d.get(k), d.get(k, x) -/
def eDGet1 (mo mk : EM) : EM := fun σ => mBind (mo σ) fun v h => if isDct h v = true then mBind (mk σ) (fun k h' => mOpt ((dctOf h' v).bind fun kvs => (keyOf k).map fun ky => (dGet kvs ky).getD .non) h') h else none
def eDGet2 (mo mk mx : EM) : EM := fun σ => mBind (mo σ) fun v h => if isDct h v = true then mBind (mk σ) (fun k => mBind (mx σ) fun x h' => mOpt ((dctOf h' v).bind fun kvs => (keyOf k).map fun ky => (dGet kvs ky).getD x) h') h else none
/-- d.pop(k) (it is there), xs.pop(i) -/
def vPop1 (h : Mem) (v k : Val) : Option (Val × Mem) := match v with
  | .ref n => match h[n]? with
    | some (.dct kvs) => (keyOf k).bind fun ky => (dGet kvs ky).map fun x => (x, h.set n (.dct (dDrop kvs ky)))
    | some (.lst xs) => match k with
      | .int i => if smallP i = true then (seqIndex? i xs.length).bind fun j => (xs[j]?).map fun x => (x, h.set n (.lst (xs.eraseIdx j))) else none
      | _ => none
    | _ => none
  | _ => none
where smallP (i : Int) : Bool := decide (-(2 ^ 63) ≤ i ∧ i < 2 ^ 63)
def eDPop1 (mo mk : EM) : EM := fun σ => mBind (mo σ) fun v h => if isDct h v = true then mBind (mk σ) (fun k h' => match dctOf h' v, v, keyOf k with
  | some kvs, .ref n, some ky => match dGet kvs ky with
    | some x => some (.ok x (h'.set n (.dct (dDrop kvs ky))))
    | none => none
  | _, _, _ => none) h else none
def oPopAt : Val → List Val → M Val := on1 fun n y => match y with
  | .int i => onL n fun xs => if (decide (-(2 ^ 63) ≤ i ∧ i < 2 ^ 63)) = true then match seqIndex? i xs.length with
    | some k => match xs[k]? with
      | some y => mSet n (.lst (xs.eraseIdx k)) y
      | none => mBad
    | none => mBad
    else mBad
  | _ => mBad
section
variable {X : Cx} {T : Tabs} {W : WX} {e o f : Expr} {apos cpos : Pos} {mo mk mx : EM} {k : Nat}
theorem dct_ok {K : PySem.W.Frag} {ρ : List Addr} {h : Mem} {H : Hp} (r : R K T ρ h H) {v : Val} {x : V} {kvs : List (Key × Val)} (q : VR K ρ H v x) (e : dctOf h v = some kvs) : ∃ n a gs, v = .ref n ∧ ρ[n]? = some a ∧ x = .ref a ∧ h[n]? = some (.dct kvs) ∧ H a = some (.dK gs) ∧ DR K ρ H kvs gs := by
  cases v with
  | ref n =>
    simp only [dctOf] at e
    cases e1 : h[n]? with
    | none => rw [e1] at e; cases e
    | some ob =>
      rw [e1] at e
      cases ob with
      | dct kvs' =>
        cases e
        obtain ⟨a, e2, rfl, gs, e3, dr⟩ := r.atRef q e1
        exact ⟨n, a, gs, rfl, e2, rfl, e1, e3, dr⟩
      | _ => cases e
  | _ => cases e
theorem se_dget1 (hr : Room k X.A) (ho : SE X T W o mo) (he : SE X T W e mk) (m : M1 X o "get" apos e cpos := by exact ⟨rfl, rfl, rfl, rfl⟩) : SE X T W (.Call (.Attribute o "get" apos) [e] [] cpos) (eDGet1 mo mk) := by
  refine PE.imp (pe_dget1 (hu_of hr) ho he m) fun σ H Q ⟨sv, ρ, h, rs, r, p⟩ => ⟨sv, ρ, h, rs, r, p.bind.mono fun v ρ1 h1 H1 x1 r1 p1 y q => ?_⟩
  split at p1
  · rename_i hd
    obtain ⟨kvs0, ed⟩ := Option.isSome_iff_exists.mp hd
    obtain ⟨n, a, gs, rfl, e2, rfl, e3, e4, dr⟩ := dct_ok r1 q ed
    refine ⟨a, rfl, .inl ⟨gs, .inl e4⟩, sv, ρ1, h1, rs.ext x1, r1, p1.bind.mono fun w ρ2 h2 H2 x2 r2 p2 z q2 => ?_⟩
    obtain ⟨u, e5, k2⟩ := PR.opt r2 p2
    simp only [Option.bind_eq_some_iff, Option.map_eq_some_iff] at e5
    obtain ⟨kvs, e6, ky, e7, rfl⟩ := e5
    obtain ⟨n', a', gs', e8, e9, e10, e11, e12, dr'⟩ := dct_ok r2 (q.ext x2) e6
    cases e10
    have e13 := key_ok q2 e7
    subst e13
    refine ⟨_, .k e12, k2 _ ?_⟩
    obtain ⟨g1, g2⟩ := dr'.get ky
    cases e14 : dGet kvs ky with
    | none => rw [g2 e14]; exact rfl
    | some w =>
      obtain ⟨x, e15, q15⟩ := g1 w e14
      rw [e15]; exact q15
  · exact p1.elim
theorem se_dget2 (hr : Room k X.A) (ho : SE X T W o mo) (he : SE X T W e mk) (hf : SE X T W f mx) (m : M2 X o "get" apos e f cpos := by exact ⟨rfl, rfl, rfl, rfl⟩) : SE X T W (.Call (.Attribute o "get" apos) [e, f] [] cpos) (eDGet2 mo mk mx) := by
  refine PE.imp (pe_dget2 (hu_of hr) ho he hf m) fun σ H Q ⟨sv, ρ, h, rs, r, p⟩ => ⟨sv, ρ, h, rs, r, p.bind.mono fun v ρ1 h1 H1 x1 r1 p1 y q => ?_⟩
  split at p1
  · rename_i hd
    obtain ⟨kvs0, ed⟩ := Option.isSome_iff_exists.mp hd
    obtain ⟨n, a, gs, rfl, e2, rfl, e3, e4, dr⟩ := dct_ok r1 q ed
    refine ⟨a, rfl, .inl ⟨gs, .inl e4⟩, sv, ρ1, h1, rs.ext x1, r1, p1.bind.mono fun w ρ2 h2 H2 x2 r2 p2 z q2 => ?_⟩
    refine ⟨sv, ρ2, h2, (rs.ext x1).ext x2, r2, p2.bind.mono fun w3 ρ3 h3 H3 x3 r3 p3 z3 q3 => ?_⟩
    obtain ⟨u, e5, k2⟩ := PR.opt r3 p3
    simp only [Option.bind_eq_some_iff, Option.map_eq_some_iff] at e5
    obtain ⟨kvs, e6, ky, e7, rfl⟩ := e5
    obtain ⟨n', a', gs', e8, e9, e10, e11, e12, dr'⟩ := dct_ok r3 ((q.ext x2).ext x3) e6
    cases e10
    have e13 := key_ok (q2.ext x3) e7
    subst e13
    refine ⟨_, .k e12, k2 _ ?_⟩
    obtain ⟨g1, g2⟩ := dr'.get ky
    cases e14 : dGet kvs ky with
    | none => rw [g2 e14]; exact q3
    | some w =>
      obtain ⟨x, e15, q15⟩ := g1 w e14
      rw [e15]; exact q15
  · exact p1.elim
theorem se_dpop1 (ho : SE X T W o mo) (he : SE X T W e mk) (m : M1 X o "pop" apos e cpos := by exact ⟨rfl, rfl, rfl, rfl⟩) : SE X T W (.Call (.Attribute o "pop" apos) [e] [] cpos) (eDPop1 mo mk) := by
  refine PE.imp (pe_dpop1 ho he m) fun σ H Q ⟨sv, ρ, h, rs, r, p⟩ => ⟨sv, ρ, h, rs, r, p.bind.mono fun v ρ1 h1 H1 x1 r1 p1 y q => ?_⟩
  split at p1
  · rename_i hd
    obtain ⟨kvs0, ed⟩ := Option.isSome_iff_exists.mp hd
    obtain ⟨n, a, gs, rfl, e2, rfl, e3, e4, dr⟩ := dct_ok r1 q ed
    refine ⟨a, rfl, .inl ⟨gs, .inl e4⟩, sv, ρ1, h1, rs.ext x1, r1, p1.bind.mono fun w ρ2 h2 H2 x2 r2 p2 z q2 => ?_⟩
    cases e6 : dctOf h2 (.ref n) with
    | none => rw [e6] at p2; exact p2.elim
    | some kvs =>
      rw [e6] at p2
      cases e7 : keyOf w with
      | none => rw [e7] at p2; exact p2.elim
      | some ky =>
        rw [e7] at p2
        dsimp only at p2
        obtain ⟨n', a', gs', e8, e9, e10, e11, e12, dr'⟩ := dct_ok r2 (q.ext x2) e6
        cases e8
        cases e10
        have e13 := key_ok q2 e7
        subst e13
        cases e14 : dGet kvs ky with
        | none => rw [e14] at p2; exact p2.elim
        | some u =>
          rw [e14] at p2
          obtain ⟨x, e15, q15⟩ := (dr'.get ky).1 u e14
          have xw : Ext X.K ρ2 H2 ρ2 (upd H2 a (.dK (dropK gs' ky))) := Ext.writeAt r2 e9
          exact ⟨gs', ky, x, e12, rfl, e15, p2 ρ2 _ xw (r2.write e9 ⟨_, upd_same, (dr'.ext xw).drop ky⟩) x (q15.ext xw)⟩
  · exact p1.elim
theorem ok_popAt {K : PySem.W.Frag} : MethOk K T rPopAt oPopAt := by
  intro ρ h H v vs x xs E Q r q qs p
  obtain ⟨n, y, rfl, rfl, p1⟩ := p.on1
  cases y with
  | int i =>
    obtain ⟨ys, e, p2⟩ := p1.onL
    obtain ⟨z, rfl, qz⟩ := qs.unone
    cases qz
    obtain ⟨a, e2, rfl, ws, e3, rv⟩ := r.atRef q e
    split at p2
    · rename_i hl
      have hl := of_decide_eq_true hl
      cases e4 : seqIndex? i ys.length with
      | none => rw [e4] at p2; exact p2.elim
      | some j =>
        rw [e4] at p2
        dsimp only at p2
        cases e5 : ys[j]? with
        | none => rw [e5] at p2; exact p2.elim
        | some u =>
          rw [e5] at p2
          obtain ⟨w, e6, q6⟩ := rv.get e5
          exact ⟨a, ws, i, j, w, rfl, rfl, e3, hl.1, hl.2, by rw [← rv.length]; exact e4, e6, PR.setLst r e2 p2 (rv.eraseIdx j) q6⟩
    · exact p2.elim
  | _ => exact p1.elim
end
/-- pop with one argument, a dict's or a list's -/
def ePop1 (mo mk : EM) : EM := fun σ h => match mo σ h with
  | some (.ok v h') => if isDct h' v = true then eDPop1 mo mk σ h else eBM "list" oPopAt mo (aCons mk aNil) σ h
  | _ => eDPop1 mo mk σ h
section
variable {X : Cx} {T : Tabs} {W : WX} {e o f : Expr} {es : List Expr} {apos cpos : Pos} {mo mk mx : EM} {ms : AM} {k : Nat}
theorem se_pop1 (ho : SE X T W o mo) (he : SE X T W e mk) (m : M1 X o "pop" apos e cpos := by exact ⟨rfl, rfl, rfl, rfl⟩)
    (hs : starEach [e] X.env = (false, eval e X.env) :: starEach [] X.env := by rfl) (hplain : (backTo cpos (starEach [] X.env)).any (·.1) = false := by rfl) : SE X T W (.Call (.Attribute o "pop" apos) [e] [] cpos) (ePop1 mo mk) := by
  have h1 : SE X T W (.Call (.Attribute o "pop" apos) [e] [] cpos) (eDPop1 mo mk) := se_dpop1 ho he m
  have h2 : SE X T W (.Call (.Attribute o "pop" apos) [e] [] cpos) (eBM "list" oPopAt mo (aCons mk aNil)) := se_bm PySem.F.plainAttrs_list PySem.F.slot_list_pop PySem.F.type_list_pop mt_popAt ok_popAt ho (sa_cons he sa_nil hs) (by simp) m.base m.few m.line hs hplain
  refine PE.imp (PE.or h1 h2) fun σ H Q ⟨sv, ρ, h, rs, r, p⟩ => ?_
  unfold ePop1 at p
  cases e1 : mo sv h with
  | none => rw [e1] at p; exact .inl ⟨sv, ρ, h, rs, r, p⟩
  | some rv =>
    rw [e1] at p
    cases rv with
    | ex c xs h' => exact .inl ⟨sv, ρ, h, rs, r, p⟩
    | ok v h' =>
      dsimp only at p
      split at p
      · exact .inl ⟨sv, ρ, h, rs, r, p⟩
      · exact .inr ⟨sv, ρ, h, rs, r, p⟩
theorem se_append (ho : SE X T W o mo) (ha : SA X T W [e] ms) (hbase : attributeBase o "append" X.env (eval o X.env) = eval o X.env := by rfl)
    (hfew : ((backTo cpos (starEach [e] X.env)).all (fun x => !x.1) && (backToKw cpos (keywordEach [] X.env)).all (fun x => x.1.isSome)
      && decide (([e] : List Expr).length + ([] : List Keyword).length + (if ([] : List Keyword).isEmpty then 0 else 1) < 30)) = true := by rfl)
    (hline : (apos.endLine == cpos.line) = true := by rfl) (hs : starEach [e] X.env = (false, eval e X.env) :: starEach [] X.env := by rfl) (hplain : (backTo cpos (starEach [] X.env)).any (·.1) = false := by rfl) : SE X T W (.Call (.Attribute o "append" apos) [e] [] cpos) (eBM "list" oAppend mo ms) :=
  se_bm PySem.F.plainAttrs_list PySem.F.slot_list_append PySem.F.type_list_append mt_append ok_append ho ha (by simp) hbase hfew hline hs hplain
theorem se_extend (ho : SE X T W o mo) (ha : SA X T W [e] ms) (hbase : attributeBase o "extend" X.env (eval o X.env) = eval o X.env := by rfl)
    (hfew : ((backTo cpos (starEach [e] X.env)).all (fun x => !x.1) && (backToKw cpos (keywordEach [] X.env)).all (fun x => x.1.isSome)
      && decide (([e] : List Expr).length + ([] : List Keyword).length + (if ([] : List Keyword).isEmpty then 0 else 1) < 30)) = true := by rfl)
    (hline : (apos.endLine == cpos.line) = true := by rfl) (hs : starEach [e] X.env = (false, eval e X.env) :: starEach [] X.env := by rfl) (hplain : (backTo cpos (starEach [] X.env)).any (·.1) = false := by rfl) : SE X T W (.Call (.Attribute o "extend" apos) [e] [] cpos) (eBM "list" oExtend mo ms) :=
  se_bm PySem.F.plainAttrs_list PySem.F.slot_list_extend PySem.F.type_list_extend mt_extend ok_extend ho ha (by simp) hbase hfew hline hs hplain
theorem se_pop0 (ho : SE X T W o mo) (hbase : attributeBase o "pop" X.env (eval o X.env) = eval o X.env := by rfl) (hline : (apos.endLine == cpos.line) = true := by rfl) : SE X T W (.Call (.Attribute o "pop" apos) [] [] cpos) (eBM "list" oPop0 mo aNil) :=
  se_bm0 PySem.F.plainAttrs_list PySem.F.slot_list_pop PySem.F.type_list_pop mt_pop ok_pop0 ho (by simp) hbase hline
theorem se_rev (ho : SE X T W o mo) (hbase : attributeBase o "reverse" X.env (eval o X.env) = eval o X.env := by rfl) (hline : (apos.endLine == cpos.line) = true := by rfl) : SE X T W (.Call (.Attribute o "reverse" apos) [] [] cpos) (eBM "list" oRev mo aNil) :=
  se_bm0 PySem.F.plainAttrs_list PySem.F.slot_list_reverse PySem.F.type_list_reverse mt_reverse ok_rev ho (by simp) hbase hline
theorem se_clear (ho : SE X T W o mo) (hbase : attributeBase o "clear" X.env (eval o X.env) = eval o X.env := by rfl) (hline : (apos.endLine == cpos.line) = true := by rfl) : SE X T W (.Call (.Attribute o "clear" apos) [] [] cpos) (eBM "list" oClearL mo aNil) :=
  se_bm0 PySem.F.plainAttrs_list PySem.F.slot_list_clear PySem.F.type_list_clear mt_clear ok_clearL ho (by simp) hbase hline
theorem se_join (ho : SE X T W o mo) (ha : SA X T W [e] ms) (hbase : attributeBase o "join" X.env (eval o X.env) = eval o X.env := by rfl)
    (hfew : ((backTo cpos (starEach [e] X.env)).all (fun x => !x.1) && (backToKw cpos (keywordEach [] X.env)).all (fun x => x.1.isSome)
      && decide (([e] : List Expr).length + ([] : List Keyword).length + (if ([] : List Keyword).isEmpty then 0 else 1) < 30)) = true := by rfl)
    (hline : (apos.endLine == cpos.line) = true := by rfl) (hs : starEach [e] X.env = (false, eval e X.env) :: starEach [] X.env := by rfl) (hplain : (backTo cpos (starEach [] X.env)).any (·.1) = false := by rfl) : SE X T W (.Call (.Attribute o "join" apos) [e] [] cpos) (eBM "str" oJoin mo ms) :=
  se_bm PySem.F.plainAttrs_str PySem.F.slot_str_join PySem.F.type_str_join mt_join ok_join ho ha (by simp) hbase hfew hline hs hplain
end
/-! ### in -/
def flatP : Val → Bool
  | .non => true
  | .bl _ => true
  | .int _ => true
  | .str _ => true
  | _ => false
def eqF : Val → Val → Bool
  | .non, .non => true
  | .bl a, .bl b => a == b
  | .bl a, .int b => (if a then 1 else 0) == b
  | .int a, .bl b => a == (if b then 1 else 0)
  | .int a, .int b => a == b
  | .str a, .str b => a == b
  | _, _ => false
def sign1 (s : Str) : Option Nat := if s.cps.size = 1 then s.cps[0]? else none
def vIn (h : Mem) (v u : Val) : Option Bool := match u with
  | .str z => match v with
    | .str c => (sign1 c).map fun k => decide (k ∈ z.cps.toList)
    | _ => none
  | u => match dctOf h u with
    | some kvs => (keyOf v).map fun ky => (dGet kvs ky).isSome
    | none => match seqOf h u with
      | some xs => if (flatP v && xs.all flatP) = true then some (xs.any fun y => eqF y v) else none
      | none => none
def oIn (v u : Val) : M Val := fun h => mOpt ((vIn h v u).map .bl) h
def oNotIn (v u : Val) : M Val := fun h => mOpt ((vIn h v u).map fun b => .bl (!b)) h
section
variable {K : PySem.W.Frag} {T : Tabs} {ρ : List Addr} {h : Mem} {H : Hp}
theorem flat_ok {v : Val} {x : V} (q : VR K ρ H v x) (f : flatP v = true) : flatV x = true := by
  cases v <;> simp [flatP] at f <;> cases q <;> rfl
theorem eqF_ok {v u : Val} {x y : V} (q : VR K ρ H v x) (q2 : VR K ρ H u y) (f : flatP v = true) (f2 : flatP u = true) : eqV x y = eqF v u := by
  cases v <;> simp [flatP] at f <;> cases u <;> simp [flatP] at f2 <;> cases q <;> cases q2 <;> simp [eqV, eqF]
theorem flats_ok : ∀ {xs : List Val} {vs : List V}, VRs K ρ H xs vs → xs.all flatP = true → vs.all flatV = true
  | [], _, e, _ => by cases e; rfl
  | _ :: _, _, ⟨_, _, e, q, t⟩, f => by
    subst e
    simp only [List.all_cons, Bool.and_eq_true] at f ⊢
    exact ⟨flat_ok q f.1, flats_ok t f.2⟩
theorem inV_ok {v : Val} {x : V} (q : VR K ρ H v x) (f : flatP v = true) : ∀ {xs : List Val} {vs : List V}, VRs K ρ H xs vs → xs.all flatP = true → inV x vs = xs.any fun y => eqF y v
  | [], _, e, _ => by cases e; rfl
  | _ :: _, _, ⟨_, _, e, q1, t⟩, f1 => by
    subst e
    simp only [List.all_cons, Bool.and_eq_true] at f1
    have ih := inV_ok q f t f1.2
    unfold inV at ih ⊢
    simp only [List.any_cons, ih, eqF_ok q1 q f1.1 f]
def rInA (K : PySem.W.Frag) (neg : Bool) : R2 := fun x y H Q => rIn K neg x y H Q ∨ ∃ (c : Nat) (z : Str), x = .str ⟨#[c]⟩ ∧ y = .str z ∧ Q (.bl (if neg then !decide (c ∈ z.cps.toList) else decide (c ∈ z.cps.toList))) H
theorem sign1_ok {s : Str} {k : Nat} (e : sign1 s = some k) : s = ⟨#[k]⟩ := by
  obtain ⟨a⟩ := s
  simp only [sign1] at e
  split at e
  · rename_i hs
    obtain ⟨l⟩ := a
    match l, hs, e with
    | [c], _, e => simp at e; subst e; rfl
  · cases e
end
section
variable {X : Cx} {T : Tabs} {W : WX} {a b : Expr} {pos : Pos} {ma mb : EM} {k : Nat}
theorem op_inA : OpR X (compareOp .In) (rInA X.K false) := op_in_seq.or op_in_sign
theorem op_notInA : OpR X (compareOp .NotIn) (rInA X.K true) := op_notIn_seq.or op_notIn_sign
/-- two values are had, then a dict's look or another -/
theorem in_split {K : PySem.W.Frag} {neg : Bool} {op : Val → Val → M Val} (ho : ∀ v u h, op v u h = mOpt ((vIn h v u).map fun c => .bl (if neg then !c else c)) h) {σ : L2.St} {H : Hp} {Q : VK} (p : tE K T W (eOp2 op ma mb) σ H Q) :
    (tOp (rInA K neg) (tE K T W ma) (tE K T W mb) σ H Q) ∨ tE K T W ma σ H (fun y H1 => tE K T W mb σ H1 fun x H2 => ∃ a o, x = .ref a ∧ DGet H2 a y o ∧ Q (.bl (if neg then !o.isSome else o.isSome)) H2) := by
  obtain ⟨sv, ρ, h, rs, r, p⟩ := p
  unfold eOp2 mBind at p
  cases e1 : ma sv h with
  | none => rw [e1] at p; exact p.elim
  | some rv =>
    rw [e1] at p
    cases rv with
    | ex c xs h' => exact .inl ⟨sv, ρ, h, rs, r, by rw [e1]; exact p⟩
    | ok v h1 =>
      simp only at p
      cases e2 : mb sv h1 with
      | none => rw [e2] at p; exact p.elim
      | some ru =>
        rw [e2] at p
        cases ru with
        | ex c xs h' =>
          refine .inl ⟨sv, ρ, h, rs, r, ?_⟩
          rw [e1]
          intro ρ1 H1 x1 r1 y q
          exact ⟨sv, ρ1, h1, rs.ext x1, r1, by rw [e2]; exact PR.ext (r := some (.ex c xs h')) p x1⟩
        | ok u h2 =>
          simp only [ho] at p
          cases e3 : dctOf h2 u with
          | some kvs =>
            refine .inr ⟨sv, ρ, h, rs, r, ?_⟩
            rw [e1]
            intro ρ1 H1 x1 r1 y q
            refine ⟨sv, ρ1, h1, rs.ext x1, r1, ?_⟩
            rw [e2]
            intro ρ2 H2 x2 r2 z q2
            obtain ⟨w, e4, k⟩ := PR.opt r2 (PR.ext p (x1.trans x2))
            obtain ⟨b, eb, rfl⟩ := Option.map_eq_some_iff.mp e4
            obtain ⟨n, ad, gs, rfl, e5, rfl, e6, e7, dr⟩ := dct_ok r2 q2 e3
            simp only [vIn, e3, Option.map_eq_some_iff] at eb
            obtain ⟨ky, e8, e9⟩ := eb
            have e10 := key_ok (q.ext x2) e8
            subst e10
            refine ⟨ad, _, rfl, .k e7, ?_⟩
            have e11 : (valV gs ky).isSome = b := by
              rw [← e9]
              obtain ⟨g1, g2⟩ := dr.get ky
              cases e12 : dGet kvs ky with
              | none => rw [g2 e12]; rfl
              | some w => obtain ⟨x, e13, _⟩ := g1 w e12; rw [e13]; rfl
            rw [e11]
            exact k _ rfl
          | none =>
            refine .inl ⟨sv, ρ, h, rs, r, ?_⟩
            rw [e1]
            intro ρ1 H1 x1 r1 y q
            refine ⟨sv, ρ1, h1, rs.ext x1, r1, ?_⟩
            rw [e2]
            intro ρ2 H2 x2 r2 z q2
            obtain ⟨w, e4, k⟩ := PR.opt r2 (PR.ext p (x1.trans x2))
            obtain ⟨b, eb, rfl⟩ := Option.map_eq_some_iff.mp e4
            have q1 := q.ext x2
            have sq : ∀ {xs : List Val}, seqOf h2 u = some xs → (if (flatP v && xs.all flatP) = true then some (xs.any fun y => eqF y v) else none) = some b → rInA K neg y z H2 Q := by
              intro xs e5 e6
              split at e6
              · rename_i hf
                cases e6
                obtain ⟨f1, f2⟩ := Bool.and_eq_true_iff.mp hf
                obtain ⟨ad, vs, rfl, s, rv⟩ := seq_ok r2 q2 e5
                refine .inl ⟨ad, vs, rfl, s, flat_ok q1 f1, flats_ok rv f2, ?_⟩
                rw [inV_ok q1 f1 rv f2]
                exact k _ rfl
              · cases e6
            cases u with
            | str s =>
              simp only [vIn] at eb
              cases v with
              | str c =>
                simp only [Option.map_eq_some_iff] at eb
                obtain ⟨kk, e5, e6⟩ := eb
                have e7 := sign1_ok e5
                subst e7
                cases q1; cases q2
                subst e6
                exact .inr ⟨kk, s, rfl, rfl, k _ rfl⟩
              | _ => cases eb
            | ref n =>
              simp only [vIn, e3] at eb
              cases e5 : seqOf h2 (.ref n) with
              | none => rw [e5] at eb; cases eb
              | some xs => rw [e5] at eb; exact sq e5 eb
            | tup xs => exact sq rfl eb
            | frl xs => exact sq rfl eb
            | _ => simp [vIn, dctOf, seqOf] at eb
theorem se_in (hr : Room k X.A) (ha : SE X T W a ma) (hb : SE X T W b mb) (hm : behindInMarks .In b = false := by rfl) : SE X T W (.Compare a [.In] [b] pos) (eOp2 oIn ma mb) :=
  PE.imp (PE.or (pe_cmpR op_inA ha hb hm) (pe_cmp (pc_din (hu_of hr) ha hb) hm)) fun σ H Q p => in_split (neg := false) (fun v u h => rfl) p
theorem se_notIn (hr : Room k X.A) (ha : SE X T W a ma) (hb : SE X T W b mb) (hm : behindInMarks .NotIn b = false := by rfl) : SE X T W (.Compare a [.NotIn] [b] pos) (eOp2 oNotIn ma mb) :=
  PE.imp (PE.or (pe_cmpR op_notInA ha hb hm) (pe_cmp (pc_dnotin (hu_of hr) ha hb) hm)) fun σ H Q p => in_split (neg := true) (fun v u h => rfl) p
theorem st_in (hr : Room k X.A) (ha : SE X T W a ma) (hb : SE X T W b mb) (hm : behindInMarks .In b = false := by rfl) : ST X T W (.Compare a [.In] [b] pos) (bV (eOp2 oIn ma mb)) :=
  PT.imp (PT.or (pt_cmpR op_inA ha hb hm) (pt_cmp (pc_din (hu_of hr) ha hb) hm)) fun σ H Q p => in_split (neg := false) (fun v u h => rfl) (tE.test p)
theorem st_notIn (hr : Room k X.A) (ha : SE X T W a ma) (hb : SE X T W b mb) (hm : behindInMarks .NotIn b = false := by rfl) : ST X T W (.Compare a [.NotIn] [b] pos) (bV (eOp2 oNotIn ma mb)) :=
  PT.imp (PT.or (pt_cmpR op_notInA ha hb hm) (pt_cmp (pc_dnotin (hu_of hr) ha hb) hm)) fun σ H Q p => in_split (neg := true) (fun v u h => rfl) (tE.test p)
end
end EV

/-! EvB: + of everything, defs that call each other, what never comes. -/
namespace EV
open PySem PySem.Spec L2
def eBad : EM := fun _ => mBad
section
variable {X : Cx} {T : Tabs} {W : WX} {e a b : Expr} {pos : Pos} {ma mb : EM}
theorem se_bad : SE X T W e eBad := ⟨fun pins s σ H Q I ⟨sv, ρ, h, rs, r, p⟩ => p.elim⟩
theorem takesW0 : Takes X W0 := takes_none5
/-- a + b: ints, texts, tuples, lists -/
def oAddA : Val → Val → M Val
  | .int i, .int j => mRet (.int (i + j))
  | .str i, .str j => if i.length + j.length ≤ 1000000 then mRet (.str (i ++ j)) else mBad
  | .tup xs, .tup ys => if xs.length + ys.length ≤ 1000000 then mRet (.tup (xs ++ ys)) else mBad
  | .ref n, .ref k => onL n fun xs => onL k fun ys => if xs.length + ys.length ≤ 1000000 then mNew (.lst (xs ++ ys)) else mBad
  | _, _ => mBad
def rAddA (K : PySem.W.Frag) : R2 := fun x y H Q => (rI0 fun i j => .int (i + j)) x y H Q ∨ (∃ i j, x = .str i ∧ y = .str j ∧ i.length + j.length ≤ sizeLine ∧ Q (.str (i ++ j)) H) ∨ rCatA K x y H Q ∨ rCat x y H Q
theorem op2_addA {K : PySem.W.Frag} : Op2 K T (rAddA K) oAddA := by
  intro ρ h H v u x y E Q r0 e1 e2 p
  cases v with
  | int i =>
    cases u with
    | int j => cases e1; cases e2; exact .inl ⟨i, j, rfl, rfl, PR.ok (Q := QV K Q) p r0 _ rfl⟩
    | _ => exact p.elim
  | str i =>
    cases u with
    | str j =>
      cases e1; cases e2
      simp only [oAddA] at p
      split at p
      · rename_i hl
        exact .inr (.inl ⟨i, j, rfl, rfl, le_line hl, PR.ok (Q := QV K Q) p r0 _ rfl⟩)
      · exact p.elim
    | _ => exact p.elim
  | tup xs =>
    cases u with
    | tup ys =>
      simp only [oAddA] at p
      split at p
      · rename_i hl
        obtain ⟨a, us, rfl, s1, rv1⟩ := id e1
        obtain ⟨b, ws, rfl, s2, rv2⟩ := id e2
        have l1 := rv1.length
        have l2 := rv2.length
        refine .inr (.inr (.inl ⟨a, b, us, ws, rfl, rfl, s1, s2, by rw [← l1, ← l2]; exact le_line hl, fun z => ?_, fun _ z => ?_, fun _ _ nw n => PR.tup r0 p (rv1.append rv2) n⟩))
        · have : xs = [] := List.eq_nil_of_length_eq_zero (by rw [l1, z]; rfl)
          subst this
          exact PR.ok (Q := QV K Q) p r0 _ (by rw [List.nil_append]; exact e2)
        · have : ys = [] := List.eq_nil_of_length_eq_zero (by rw [l2, z]; rfl)
          subst this
          exact PR.ok (Q := QV K Q) p r0 _ (by rw [List.append_nil]; exact e1)
      · exact p.elim
    | _ => exact p.elim
  | ref n =>
    cases u with
    | ref k =>
      obtain ⟨xs, f1, p1⟩ := PR.onL p
      obtain ⟨ys, f2, p2⟩ := PR.onL p1
      obtain ⟨a, _, rfl, us, g1, rv1⟩ := r0.atRef e1 f1
      obtain ⟨b, _, rfl, ws, g2, rv2⟩ := r0.atRef e2 f2
      split at p2
      · rename_i hl
        exact .inr (.inr (.inr ⟨a, b, us, ws, rfl, rfl, g1, g2, by rw [← rv1.length, ← rv2.length]; exact le_line hl, fun nw n => PR.newLst r0 p2 (rv1.append rv2) n⟩))
      · exact p2.elim
    | _ => exact p.elim
  | _ => exact p.elim
theorem se_addA (ha : SE X T W a ma) (hb : SE X T W b mb) : SE X T W (.BinOp a .Add b pos) (eOp2 oAddA ma mb) := se_bin (op_add.or (op_add_str.or (op_catA.or op_cat))) op2_addA ha hb
end

/-! ### defs that call each other, by their numbers -/
abbrev Calls := Nat → List Val → M Val
def noCalls : Calls := fun _ _ => mBad
/-- n deep; the second: one less (an __init__ is so far down) -/
def callP (D : Calls → Calls → Calls) : Nat → Calls × Calls
  | 0 => (noCalls, noCalls)
  | n + 1 => (D (callP D n).1 (callP D n).2, (callP D n).1)
def callN (D : Calls → Calls → Calls) (n : Nat) : Calls := (callP D n).1
def callM (D : Calls → Calls → Calls) (n : Nat) : Calls := (callP D n).2
theorem callN_succ (D : Calls → Calls → Calls) (n : Nat) : callN D (n + 1) = D (callN D n) (callM D n) := rfl
theorem callM_succ (D : Calls → Calls → Calls) (n : Nat) : callM D (n + 1) = callN D n := rfl
/-- the defs of the text: how many parameters, where each stands -/
structure Fns where
  fa : Nat → Addr
  fd : Nat → FuncData
  ps : Nat → List Str
section
variable (P : Program) (w : World) (K : PySem.W.Frag) (mg : Str → Option Value) (base : Heap) (T : Tabs) (F : Fns)
/-- all defs keep their promises at a level -/
def Lv (k : Nat) (C : Calls) : Prop := ∀ i, FnOk P w K mg base (L2.CX P w) k (F.fa i) (F.fd i) (F.ps i) (spOf K T (F.ps i).length (C i))
end
section
variable {P : Program} {w : World} {K : PySem.W.Frag} {mg : Str → Option Value} {base : Heap} {T : Tabs} {F : Fns}
theorem Lv.at {k : Nat} {C : Calls} (A : Lv P w K mg base T F k C) (i : Nat) {n : Nat} (h : (F.ps i).length = n) : FnOk P w K mg base (L2.CX P w) k (F.fa i) (F.fd i) (F.ps i) (spOf K T n (C i)) := h ▸ A i
theorem getD_all {l : List Str} {d : Str} {p : Str → Prop} (h : ∀ y ∈ l, p y) (j : Nat) (hj : j < l.length) : p (l.getD j d) := by
  rw [List.getD_eq_getElem?_getD, List.getElem?_eq_getElem hj]
  exact h _ (List.getElem_mem hj)
theorem getD_inj {l : List Str} {d : Str} (h : l.Nodup) {i j : Nat} (e : l.getD i d = l.getD j d) (hi : i < l.length) (hj : j < l.length) : i = j := by
  rw [List.getD_eq_getElem?_getD, List.getD_eq_getElem?_getD, List.getElem?_eq_getElem hi, List.getElem?_eq_getElem hj] at e
  exact (List.getElem_inj h).mp e
theorem fnok_bad {k : Nat} {f : Addr} {fd : FuncData} {ps : List Str} {np : Nat} {m : List Val → M Val} (hm : ∀ as h, m as h = none) (hn : np = ps.length) : FnOk P w K mg base (L2.CX P w) k f fd ps (spOf K T np m) :=
  ⟨fun vs H Q E h => h.1.trans hn, fun A outer s H args us vs Q E _ _ _ _ h => by
    obtain ⟨_, ρ, h, as, _, _, p⟩ := h
    rw [hm] at p
    exact p.elim⟩
/-- a def with defaults -/
theorem fn_okD {x qual : Str} {st : Stmt} {f : Addr} {fd : FuncData} {N ps : List Str} {k : Nat} {s : SM} {dvs : List V} {kws : List (Str × V)} (F : FunD K x qual (defArgs st) (defBody st) (defScope st) dvs kws f fd) (S : FnScope N ps (defScope st))
    (hb : ∀ (cdv : Value) (A : Around) (outer : List Env) (s0 : Shared) (H : Hp) (E : XK), XOk (cxOf (L2.CX P w) P w K mg base N qual (defScope st) f cdv A outer s0 H E) (fun c d _ H => E c d H) k →
      SSs (cxOf (L2.CX P w) P w K mg base N qual (defScope st) f cdv A outer s0 H E) T (fun c d _ H => E c d H) (defBody st) s) :
    FnOk P w K mg base (L2.CX P w) (k + 1) f fd ps (spOf K T ps.length (fnOf N.length ps.length s)) := by
  refine F.ok S (fun vs H Q E h => h.1) fun cdv A outer s0 H vs Q E hr ⟨hl, ρ, h, as, q, r, p⟩ => ?_
  have o : XOk (cxOf (L2.CX P w) P w K mg base N qual (defScope st) f cdv A outer s0 H E) (fun c d _ H => E c d H) k := ⟨rfl, S.nd, hr, takes_of rfl rfl rfl rfl, passes_of rfl⟩
  refine ⟨_, hb cdv A outer s0 H E o, _, ρ, h, RS.start q, r, ?_⟩
  unfold fnOf at p
  split at p
  · cases e : s (as.map some ++ List.replicate (N.length - as.length) none) h with
    | none => rw [e] at p; exact p.elim
    | some out =>
      rw [e] at p
      cases out with
      | nx σ' h' => exact fun ρ' H' σ' x r rs => p ρ' H' x r .non rfl
      | rt v h' => exact fun ρ' H' y x r rs => p ρ' H' x r y rs
      | ex c xs σ' h' => exact fun ρ' H' σ' cv d x r rs q => p ρ' H' cv d x r q
  · exact p.elim
theorem lv_none {k : Nat} : Lv P w K mg base T F k noCalls := fun i => fnok_bad (fun _ _ => rfl) rfl
/-- from the bodies to every depth -/
theorem lv_all {D : Calls → Calls → Calls} (step : ∀ n C I, Lv P w K mg base T F (n + 1) C → Lv P w K mg base T F n I → Lv P w K mg base T F (n + 2) (D C I)) : ∀ n, Lv P w K mg base T F (n + 1) (callN D n) ∧ Lv P w K mg base T F n (callM D n)
  | 0 => ⟨lv_none, lv_none⟩
  | n + 1 => ⟨step n _ _ (lv_all step n).1 (lv_all step n).2, (lv_all step n).1⟩
end
end EV

/-! EvC: the end of a law. -/
namespace EV
open PySem PySem.Spec L2
/-- law's promise: at most 63 ints of at most 2^20 bits, True comes out -/
def spLaw (K : PySem.W.Frag) : Sp := fun vs H Q _ => ∃ (a : Addr) (ns : List Int), vs = [.ref a] ∧ SqZ K H a (ns.map V.int) ∧ ns.length ≤ 63 ∧ (∀ z ∈ ns, Builtin.Int.intBits z ≤ 1048576) ∧ ∀ H', Q (.bl true) H'
theorem spLaw_of {K : PySem.W.Frag} {T : Tabs} {m : List Val → M Val} (hm : ∀ ns : List Int, ns.length ≤ 63 → (∀ z ∈ ns, Builtin.Int.intBits z ≤ 1048576) → ∃ h', m [.frl (ns.map .int)] [] = some (.ok (.bl true) h'))
    (vs : List V) (H : Hp) (Q : VK) (E : XK) (h : spLaw K vs H Q E) : spOf K T 1 m vs H Q E := by
  obtain ⟨a, ns, rfl, s, hl, hb, q⟩ := h
  obtain ⟨h', e⟩ := hm ns hl hb
  refine ⟨rfl, [], [], [.frl (ns.map .int)], ⟨_, _, rfl, ⟨a, _, rfl, s, VRs.of_ints⟩, rfl⟩, ⟨rfl, List.nodup_nil, fun i o e => by simp at e⟩, ?_⟩
  rw [e]
  intro ρ' H' x r y qy
  cases qy
  exact q H'
theorem walk_law {l : PySem.W.OpenLaw} {k : Nat} {q : Program} {loose : List Str} {XP : (Str → Option Value) → Heap → Prop} {YP : World → Heap → Prop} {d : DefRec} {K : Params → PySem.W.Frag} {x : Str}
    (hn : l.most = some 63) (hdf : d.params.defaults = []) (hr : Room k callerA) (hY : ∀ (w : World) (h : Heap), YP w h → (K w.params).In h)
    (F : ∀ (w : World) (mg : Str → Option Value) (fa : Addr) (h : Heap), (K w.params).In h → h.Ns mainGlobals mg → mg d.name = some (.ref fa) →
      ∃ fd : FuncData, (∀ (s : Shared) (u : Value), BindsTo s fd ⟨[u], []⟩ [(x, u)]) ∧
        ∀ base : Heap, (K w.params).In base → base.Ns mainGlobals mg → FnOk l.prog w (K w.params) mg base (L2.CX l.prog w) k fa fd [x] (spLaw (K w.params))) :
    PySem.W.WalkO q loose XP YP l.row.toRowW d [] (fun f vs => PySem.call f vs) :=
  L2.walk_ofB (n := 63) (k := k) (x := x) (CX := fun w => L2.CX l.prog w) (sp := fun w => spLaw (K w.params)) hn (by decide) hdf hr hY F
    (fun w H a ns hl hb hO hS => ⟨a, ns, rfl, by
      rcases hS with (e | ⟨o, e⟩) | e
      · rcases hO a with z | ⟨o, xs, z⟩ <;> (rw [z] at e; cases e)
      · exact .inl ⟨o, e⟩
      · exact .inr e, hl, hb, fun _ => rfl⟩)
    fun w H s e s' h => by
      obtain ⟨_, _, _, _, _, _, _, _, _, _, _, _, z⟩ := h
      exact z.elim
theorem fn_mkD {K : PySem.W.Frag} {x qual : Str} {st : Stmt} {f : Addr} {oc kV doc pm cdv ct : Value} {od an : Option Addr} {osl : Array (Option Value)} {dT : Addr} {dvs : List V} {o : Obj} {its : List Value} {n : Nat}
    (l : K.lookup f = some ⟨oc, od, .func (PySem.W.fnOf x qual (defArgs st) (defBody st) (defScope st) (.ref dT) kV doc pm an cdv ct), osl⟩) (c : PySem.W.codeIn K cdv qual = true) (k : PySem.W.keepIn K (.ref f) = true)
    (lT : K.lookup dT = some o) (oT : o.data = .seq its.toArray n) (hne : dvs ≠ []) (r : Vals dvs its) :
    FunD K x qual (defArgs st) (defBody st) (defScope st) dvs [] f (PySem.W.fnOf x qual (defArgs st) (defBody st) (defScope st) (.ref dT) kV doc pm an cdv ct) :=
  ⟨⟨oc, od, .ref dT, kV, doc, pm, an, cdv, ct, osl, rfl, l, c, .inr ⟨hne, dT, o, its, n, rfl, lT, oT, r⟩, .inl rfl⟩, k⟩
end EV

/-! EvS: what a run of the little machine comes to, by weakest preconditions. -/
namespace EV
open PySem
abbrev XE := Nat → List Val → Mem → Prop
def WpD {α : Type} (r : Option (Res α)) (Q : α → Mem → Prop) (E : XE) : Prop := match r with
  | none => False
  | some (.ok a h) => Q a h
  | some (.ex c xs h) => E c xs h
def WsD (r : Option Out) (N : Sg → Mem → Prop) (R : Val → Mem → Prop) (E : Nat → List Val → Sg → Mem → Prop) : Prop := match r with
  | none => False
  | some (.nx σ h) => N σ h
  | some (.rt v h) => R v h
  | some (.ex c xs σ h) => E c xs σ h
/-- structures, so that no unifier looks through them -/
structure Wp {α : Type} (r : Option (Res α)) (Q : α → Mem → Prop) (E : XE) : Prop where
  mk' :: out : WpD r Q E
structure Ws (r : Option Out) (N : Sg → Mem → Prop) (R : Val → Mem → Prop) (E : Nat → List Val → Sg → Mem → Prop) : Prop where
  mk' :: out : WsD r N R E
theorem wp_def {α : Type} {r : Option (Res α)} {Q : α → Mem → Prop} {E : XE} : Wp r Q E = WpD r Q E := propext ⟨fun a => a.1, fun a => .mk' a⟩
theorem ws_def {r : Option Out} {N : Sg → Mem → Prop} {R : Val → Mem → Prop} {E : Nat → List Val → Sg → Mem → Prop} : Ws r N R E = WsD r N R E := propext ⟨fun a => a.1, fun a => .mk' a⟩
def X0 : XE := fun _ _ _ => False
def Y0 : Nat → List Val → Sg → Mem → Prop := fun _ _ _ _ => False
section
variable {α β : Type} {Q Q' : α → Mem → Prop} {E E' : XE} {h : Mem} {σ : Sg} {N N' : Sg → Mem → Prop} {R R' : Val → Mem → Prop} {F F' : Nat → List Val → Sg → Mem → Prop}
theorem Wp.mono {r : Option (Res α)} (a : Wp r Q E) (q : ∀ x h, Q x h → Q' x h) (e : ∀ c xs h, E c xs h → E' c xs h) : Wp r Q' E' := by
  rw [wp_def] at *; unfold WpD at *; split <;> simp_all
theorem Wp.imp {r : Option (Res α)} (a : Wp r Q E) (q : ∀ x h, Q x h → Q' x h) : Wp r Q' E := a.mono q fun _ _ _ x => x
theorem Wp.imp0 {r : Option (Res α)} (a : Wp r Q X0) (q : ∀ x h, Q x h → Q' x h) : Wp r Q' E := a.mono q fun _ _ _ x => x.elim
theorem Wp.ok {r : Option (Res α)} (a : Wp r Q X0) : ∃ x h, r = some (.ok x h) ∧ Q x h := by
  rw [wp_def] at a; unfold WpD at a; split at a
  · exact a.elim
  · exact ⟨_, _, rfl, a⟩
  · exact a.elim
theorem Ws.mono {r : Option Out} (a : Ws r N R F) (n : ∀ x h, N x h → N' x h) (q : ∀ x h, R x h → R' x h) (e : ∀ c xs s h, F c xs s h → F' c xs s h) : Ws r N' R' F' := by
  rw [ws_def] at *; unfold WsD at *; split <;> simp_all
@[simp] theorem wp_none : Wp (none : Option (Res α)) Q E ↔ False := ⟨fun a => a.1, fun a => .mk' a⟩
@[simp] theorem wp_ok {a : α} : Wp (some (.ok a h)) Q E ↔ Q a h := ⟨fun a => a.1, fun a => .mk' a⟩
@[simp] theorem wp_ex {c xs} : Wp (some (.ex c xs h) : Option (Res α)) Q E ↔ E c xs h := ⟨fun a => a.1, fun a => .mk' a⟩
@[simp] theorem wp_ret {a : α} : Wp (mRet a h) Q E ↔ Q a h := ⟨fun a => a.1, fun a => .mk' a⟩
@[simp] theorem wp_bad : Wp ((mBad : M α) h) Q E ↔ False := ⟨fun a => a.1, fun a => .mk' a⟩
@[simp] theorem wp_bind {β : Type} {m : M β} {k : β → M α} : Wp (mBind m k h) Q E ↔ Wp (m h) (fun b h' => Wp (k b h') Q E) E := by
  simp only [wp_def]; unfold mBind WpD; cases m h with
  | none => rfl
  | some r => cases r <;> rfl
@[simp] theorem wp_opt {o : Option α} : Wp (mOpt o h) Q E ↔ ∃ a, o = some a ∧ Q a h := by
  cases o <;> simp [mOpt]
@[simp] theorem wp_ite {c : Prop} [Decidable c] {a b : Option (Res α)} : Wp (if c then a else b) Q E ↔ if c then Wp a Q E else Wp b Q E := by split <;> rfl
@[simp] theorem wp_ite1 {c : Prop} [Decidable c] {a b : M α} : Wp ((if c then a else b) h) Q E ↔ if c then Wp (a h) Q E else Wp (b h) Q E := by split <;> rfl
@[simp] theorem ws_none : Ws none N R F ↔ False := ⟨fun a => a.1, fun a => .mk' a⟩
@[simp] theorem ws_nx : Ws (some (.nx σ h)) N R F ↔ N σ h := ⟨fun a => a.1, fun a => .mk' a⟩
@[simp] theorem ws_rt {v} : Ws (some (.rt v h)) N R F ↔ R v h := ⟨fun a => a.1, fun a => .mk' a⟩
@[simp] theorem ws_ex {c xs} : Ws (some (.ex c xs σ h)) N R F ↔ F c xs σ h := ⟨fun a => a.1, fun a => .mk' a⟩
@[simp] theorem ws_sNx : Ws (sNx σ h) N R F ↔ N σ h := ⟨fun a => a.1, fun a => .mk' a⟩
@[simp] theorem ws_sBad : Ws (sBad σ h) N R F ↔ False := ⟨fun a => a.1, fun a => .mk' a⟩
@[simp] theorem ws_sRetN : Ws (sRetN σ h) N R F ↔ R .non h := ⟨fun a => a.1, fun a => .mk' a⟩
@[simp] theorem ws_bind {m : Sg → M α} {k : α → SM} : Ws (sBind m k σ h) N R F ↔ Wp (m σ h) (fun a h' => Ws (k a σ h') N R F) (fun c xs h' => F c xs σ h') := by
  simp only [wp_def, ws_def]; unfold sBind WpD WsD; cases m σ h with
  | none => rfl
  | some r => cases r <;> rfl
@[simp] theorem ws_seq {a b : SM} : Ws (sSeq a b σ h) N R F ↔ Ws (a σ h) (fun σ' h' => Ws (b σ' h') N R F) R F := by
  simp only [ws_def]; unfold sSeq WsD; cases a σ h with
  | none => rfl
  | some r => cases r <;> rfl
@[simp] theorem ws_ite {c : Prop} [Decidable c] {a b : SM} : Ws ((if c then a else b) σ h) N R F ↔ if c then Ws (a σ h) N R F else Ws (b σ h) N R F := by split <;> rfl
@[simp] theorem ws_ite' {c : Prop} [Decidable c] {a b : Option Out} : Ws (if c then a else b) N R F ↔ if c then Ws a N R F else Ws b N R F := by split <;> rfl
@[simp] theorem ws_if {c : BM} {a b : SM} : Ws (sIf c a b σ h) N R F ↔ Wp (c σ h) (fun k h' => if k = true then Ws (a σ h') N R F else Ws (b σ h') N R F) (fun c xs h' => F c xs σ h') := by
  simp [sIf]
@[simp] theorem ws_set {i : Nat} {m : EM} : Ws (sSet i m σ h) N R F ↔ Wp (m σ h) (fun v h' => N (σ.set i (some v)) h') (fun c xs h' => F c xs σ h') := by simp [sSet]
@[simp] theorem ws_expr {m : EM} : Ws (sExpr m σ h) N R F ↔ Wp (m σ h) (fun v h' => N σ h') (fun c xs h' => F c xs σ h') := by simp [sExpr]
@[simp] theorem ws_ret {m : EM} : Ws (sRet m σ h) N R F ↔ Wp (m σ h) R (fun c xs h' => F c xs σ h') := by simp [sRet]
@[simp] theorem ws_asg {m : EM} {g : Tgt} : Ws (sAsg m g σ h) N R F ↔ Wp (m σ h) (fun v h' => ∃ σ', g v σ = some σ' ∧ N σ' h') (fun c xs h' => F c xs σ h') := by
  unfold sAsg; rw [ws_bind]; refine iff_of_eq (congrArg (fun z => Wp (m σ h) z _) ?_); funext v h'
  cases g v σ <;> simp
@[simp] theorem ws_fld {k : Nat} {mo mv : EM} : Ws (sFld k mo mv σ h) N R F ↔ Wp (mv σ h) (fun y h' => Wp (mo σ h') (fun x h'' => ∃ n c fs, x = .ref n ∧ h''[n]? = some (.ins c fs) ∧ fs.length < 900 ∧ N σ (h''.set n (.ins c (fPut k y fs)))) (fun c xs h' => F c xs σ h')) (fun c xs h' => F c xs σ h') := by
  unfold sFld; rw [ws_bind]; refine iff_of_eq (congrArg (fun z => Wp (mv σ h) z _) ?_); funext y h'
  rw [ws_bind]; refine (congrArg (fun z => Wp (mo σ h') z _) ?_); funext x h''
  cases x <;> simp [insOf]
  rename_i n
  cases e : h''[n]? with
  | none => simp
  | some o =>
    cases o <;> simp
    exact ⟨fun a => ⟨_, _, ⟨rfl, rfl⟩, a⟩, fun ⟨_, _, ⟨e1, e2⟩, a⟩ => by subst e1; subst e2; exact a⟩
@[simp] theorem ws_setIx {mo mi mv : EM} : Ws (sSetIx mo mi mv σ h) N R F ↔ Wp (mv σ h) (fun v h1 => Wp (mo σ h1) (fun o h2 => Wp (mi σ h2) (fun i h3 => ∃ h4, vSetIx h3 o i v = some h4 ∧ N σ h4) (fun c xs h' => F c xs σ h')) (fun c xs h' => F c xs σ h')) (fun c xs h' => F c xs σ h') := by
  unfold sSetIx; rw [ws_bind]; refine iff_of_eq (congrArg (fun z => Wp (mv σ h) z _) ?_); funext y h'
  rw [ws_bind]; refine (congrArg (fun z => Wp (mo σ h') z _) ?_); funext x h''
  rw [ws_bind]; refine (congrArg (fun z => Wp (mi σ h'') z _) ?_); funext i h3
  cases vSetIx h3 x i y <;> simp
@[simp] theorem wp_fn {nl np : Nat} {s : SM} {as : List Val} {Q : Val → Mem → Prop} : Wp (fnOf nl np s as h) Q E ↔ as.length = np ∧ Ws (s (as.map some ++ List.replicate (nl - as.length) none) h) (fun _ h' => Q .non h') Q (fun c xs _ h' => E c xs h') := by
  unfold fnOf
  by_cases e : as.length = np
  · rw [if_pos e]; simp only [e, true_and, wp_def, ws_def]; unfold WsD WpD
    cases s (as.map some ++ List.replicate (nl - np) none) h with
    | none => rfl
    | some r => cases r <;> rfl
  · rw [if_neg e]; simp [e]
end
section
variable {E : XE} {h : Mem} {σ : Sg}
section
variable {Q : Val → Mem → Prop}
@[simp] theorem wp_var {i : Nat} : Wp (eVar i σ h) Q E ↔ ∃ v, (σ[i]?).join = some v ∧ Q v h := by simp [eVar]
@[simp] theorem wp_c {v : Val} : Wp (eC v σ h) Q E ↔ Q v h := ⟨fun a => a.1, fun a => .mk' a⟩
@[simp] theorem wp_op1 {op : Val → M Val} {a : EM} : Wp (eOp1 op a σ h) Q E ↔ Wp (a σ h) (fun v h' => Wp (op v h') Q E) E := by simp [eOp1]
@[simp] theorem wp_op2 {op : Val → Val → M Val} {a b : EM} : Wp (eOp2 op a b σ h) Q E ↔ Wp (a σ h) (fun v h' => Wp (b σ h') (fun u h'' => Wp (op v u h'') Q E) E) E := by simp [eOp2]
@[simp] theorem wp_eAnd {a b : EM} : Wp (eAnd a b σ h) Q E ↔ Wp (a σ h) (fun v h' => ∃ c, asB v = some c ∧ if c = true then Wp (b σ h') Q E else Q (.bl false) h') E := by simp [eAnd]
@[simp] theorem wp_eOr {a b : EM} : Wp (eOr a b σ h) Q E ↔ Wp (a σ h) (fun v h' => ∃ c, asB v = some c ∧ if c = true then Q (.bl true) h' else Wp (b σ h') Q E) E := by simp [eOr]
@[simp] theorem wp_eNot {a : EM} : Wp (eNot a σ h) Q E ↔ Wp (a σ h) (fun v h' => ∃ c, asB v = some c ∧ Q (.bl (!c)) h') E := by simp [eNot]
@[simp] theorem wp_eIf {c : BM} {a b : EM} : Wp (eIf c a b σ h) Q E ↔ Wp (c σ h) (fun k h' => if k = true then Wp (a σ h') Q E else Wp (b σ h') Q E) E := by simp [eIf]
@[simp] theorem wp_new {o : Ob} : Wp (mNew o h) Q E ↔ Q (.ref h.length) (h ++ [o]) := ⟨fun a => a.1, fun a => .mk' a⟩
@[simp] theorem wp_eTup {as : AM} : Wp (eTup as σ h) Q E ↔ Wp (as σ h) (fun vs h' => vs.length ≤ 1000000 ∧ Q (.tup vs) h') E := by
  unfold eTup; rw [wp_bind]; refine iff_of_eq (congrArg (fun z => Wp (as σ h) z _) ?_); funext v h'; by_cases e : v.length ≤ 1000000 <;> simp [e]
@[simp] theorem wp_eLst {as : AM} : Wp (eLst as σ h) Q E ↔ Wp (as σ h) (fun vs h' => vs.length ≤ 1000000 ∧ Q (.ref h'.length) (h' ++ [.lst vs])) E := by
  unfold eLst; rw [wp_bind]; refine iff_of_eq (congrArg (fun z => Wp (as σ h) z _) ?_); funext v h'; by_cases e : v.length ≤ 1000000 <;> simp [e]
@[simp] theorem wp_eDct : Wp (eDct σ h) Q E ↔ Q (.ref h.length) (h ++ [.dct []]) := ⟨fun a => a.1, fun a => .mk' a⟩
@[simp] theorem wp_eFun {f : List Val → M Val} {as : AM} : Wp (eFun f as σ h) Q E ↔ Wp (as σ h) (fun vs h' => Wp (f vs h') Q E) E := by simp [eFun]
@[simp] theorem wp_eIsi {m : EM} {cs : List String} : Wp (eIsi m cs σ h) Q E ↔ Wp (m σ h) (fun v h' => ∃ b, ((tyOf h' v).bind fun t => isiB t cs) = some b ∧ Q (.bl b) h') E := by
  unfold eIsi; rw [wp_bind]; refine iff_of_eq (congrArg (fun z => Wp (m σ h) z _) ?_); funext v h'
  cases ((tyOf h' v).bind fun t => isiB t cs) <;> simp [wp_opt]
@[simp] theorem wp_oEq {v u : Val} : Wp (oEq v u h) Q E ↔ ∃ b, vEq h v u = some b ∧ Q (.bl b) h := by
  unfold oEq; cases vEq h v u <;> simp
@[simp] theorem wp_oNe {v u : Val} : Wp (oNe v u h) Q E ↔ ∃ b, vEq h v u = some b ∧ Q (.bl (!b)) h := by
  unfold oNe; cases vEq h v u <;> simp
@[simp] theorem wp_oIn {v u : Val} : Wp (oIn v u h) Q E ↔ ∃ b, vIn h v u = some b ∧ Q (.bl b) h := by
  unfold oIn; cases vIn h v u <;> simp
@[simp] theorem wp_oNotIn {v u : Val} : Wp (oNotIn v u h) Q E ↔ ∃ b, vIn h v u = some b ∧ Q (.bl (!b)) h := by
  unfold oNotIn; cases vIn h v u <;> simp
@[simp] theorem wp_oIx {v u : Val} : Wp (oIx v u h) Q E ↔ ∃ b, vIx h v u = some b ∧ Q b h := by
  unfold oIx; cases vIx h v u <;> simp
@[simp] theorem wp_oFld {k : Nat} {v : Val} : Wp (oFld k v h) Q E ↔ ∃ c fs x, insOf h v = some (c, fs) ∧ fGet k fs = some x ∧ Q x h := by
  unfold oFld; cases insOf h v with
  | none => simp
  | some p =>
    rcases p with ⟨c, fs⟩; simp
    exact ⟨fun a => ⟨_, _, ⟨rfl, rfl⟩, a⟩, fun ⟨_, _, ⟨e1, e2⟩, a⟩ => by subst e1; subst e2; exact a⟩
@[simp] theorem wp_oLen {v : Val} : Wp (oLen [v] h) Q E ↔ ∃ n : Nat, vLen h v = some n ∧ Q (.int n) h := by
  unfold oLen; cases e : vLen h v <;> simp [e]
@[simp] theorem wp_eCall {np : Nat} {fm : List Val → M Val} {dv : List Val} {ms : AM} : Wp (eCall np fm dv ms σ h) Q E ↔ Wp (ms σ h) (fun vs h' => (vs ++ dv).length = np ∧ Wp (fm (vs ++ dv) h') Q E) E := by
  unfold eCall; rw [wp_bind]; refine iff_of_eq (congrArg (fun z => Wp (ms σ h) z _) ?_); funext v h'
  by_cases e : (v ++ dv).length = np
  · rw [if_pos e]; simp only [e, true_and]
  · rw [if_neg e]; simp only [e, false_and]; exact eq_false fun a => a.1
@[simp] theorem wp_eMeth {disp : Nat → Option (Nat × (List Val → M Val) × List Val)} {mo : EM} {ms : AM} : Wp (eMeth disp mo ms σ h) Q E ↔ Wp (mo σ h) (fun v h' => ∃ c fs np fm dv, insOf h' v = some (c, fs) ∧ disp c = some (np, fm, dv) ∧ Wp (ms σ h') (fun vs h'' => (v :: (vs ++ dv)).length = np ∧ Wp (fm (v :: (vs ++ dv)) h'') Q E) E) E := by
  unfold eMeth; rw [wp_bind]; refine iff_of_eq (congrArg (fun z => Wp (mo σ h) z _) ?_); funext v h'
  cases insOf h' v with
  | none => simp
  | some p =>
    rcases p with ⟨c, fs⟩
    show Wp (match disp c with | none => none | some (np, fm, dv) => mBind (ms σ) (fun vs => if (v :: (vs ++ dv)).length = np then fm (v :: (vs ++ dv)) else mBad) h') Q E = _
    cases e : disp c with
    | none => simp [e]
    | some t =>
      rcases t with ⟨np, fm, dv⟩
      simp only [wp_bind, Option.some.injEq, Prod.mk.injEq, eq_iff_iff]
      constructor
      · intro a; refine ⟨c, fs, np, fm, dv, ⟨rfl, rfl⟩, e, a.imp fun vs h'' b => ?_⟩
        by_cases z : (v :: (vs ++ dv)).length = np
        · rw [if_pos z] at b; exact ⟨z, b⟩
        · rw [if_neg z] at b; exact b.1.elim
      · rintro ⟨_, _, _, _, _, ⟨rfl, rfl⟩, e', a⟩
        rw [e] at e'
        cases e'
        refine a.imp fun vs h'' b => ?_
        rw [if_pos b.1]; exact b.2
@[simp] theorem wp_eMake {c np : Nat} {fm : List Val → M Val} {dv : List Val} {ms : AM} : Wp (eMake c np fm dv ms σ h) Q E ↔ Wp (ms σ h) (fun vs h' => (Val.ref h'.length :: (vs ++ dv)).length = np ∧ Wp (fm (.ref h'.length :: (vs ++ dv)) (h' ++ [.ins c []])) (fun x h'' => x = .non ∧ Q (.ref h'.length) h'') E) E := by
  unfold eMake; rw [wp_bind]; refine iff_of_eq (congrArg (fun z => Wp (ms σ h) z _) ?_); funext v h'
  rw [wp_bind, wp_new]
  by_cases e : (Val.ref h'.length :: (v ++ dv)).length = np
  · rw [if_pos e, wp_bind]; simp only [e, true_and]
    refine congrArg (fun z => Wp (fm _ _) z E) ?_
    funext x h''
    cases x <;> simp
  · rw [if_neg e]; simp only [e, false_and]; exact eq_false fun a => a.1
@[simp] theorem wp_eBM {T : String} {f : Val → List Val → M Val} {mo : EM} {ms : AM} : Wp (eBM T f mo ms σ h) Q E ↔ Wp (mo σ h) (fun v h' => tyOf h' v = some T ∧ Wp (ms σ h') (fun vs h'' => Wp (f v vs h'') Q E) E) E := by
  unfold eBM; rw [wp_bind]; refine iff_of_eq (congrArg (fun z => Wp (mo σ h) z _) ?_); funext v h'
  by_cases e : tyOf h' v = some T <;> simp [e]
end
@[simp] theorem wp_bV {a : EM} {Q : Bool → Mem → Prop} : Wp (bV a σ h) Q E ↔ Wp (a σ h) (fun v h' => ∃ b, asB v = some b ∧ Q b h') E := by simp [bV]
@[simp] theorem wp_bNot {a : BM} {Q : Bool → Mem → Prop} : Wp (bNot a σ h) Q E ↔ Wp (a σ h) (fun b h' => Q (!b) h') E := by simp [bNot]
@[simp] theorem wp_bAnd {a b : BM} {Q : Bool → Mem → Prop} : Wp (bAnd a b σ h) Q E ↔ Wp (a σ h) (fun c h' => if c = true then Wp (b σ h') Q E else Q false h') E := by simp [bAnd]
@[simp] theorem wp_bOr {a b : BM} {Q : Bool → Mem → Prop} : Wp (bOr a b σ h) Q E ↔ Wp (a σ h) (fun c h' => if c = true then Q true h' else Wp (b σ h') Q E) E := by simp [bOr]
@[simp] theorem wp_bYes {Q : Bool → Mem → Prop} : Wp (bYes σ h) Q E ↔ Q true h := ⟨fun a => a.1, fun a => .mk' a⟩
@[simp] theorem wp_aNil {Q : List Val → Mem → Prop} : Wp (aNil σ h) Q E ↔ Q [] h := ⟨fun a => a.1, fun a => .mk' a⟩
@[simp] theorem wp_aCons {a : EM} {r : AM} {Q : List Val → Mem → Prop} : Wp (aCons a r σ h) Q E ↔ Wp (a σ h) (fun v h' => Wp (r σ h') (fun vs h'' => Q (v :: vs) h'') E) E := by simp [aCons]
@[simp] theorem asB_bl {b : Bool} : asB (.bl b) = some b := rfl
@[simp] theorem callM_succ' {D : Calls → Calls → Calls} {n : Nat} : callM D (n + 1) = callN D n := rfl
end
/-! ### loops -/
section
variable {E : XE} {h : Mem} {σ : Sg} {N : Sg → Mem → Prop} {R : Val → Mem → Prop} {F : Nat → List Val → Sg → Mem → Prop}
@[simp] theorem ws_for' {src : Sg → M Src} {g : Tgt} {body : SM} : Ws (sFor src g body σ h) N R F ↔ Wp (src σ h) (fun s h' => Ws (forL g body s.chk s.items σ h') N R F) (fun c xs h' => F c xs σ h') := by simp [sFor]
theorem ws_forL {g : Tgt} {body : SM} {chk : Mem → Bool} {items : List Val} (I : Nat → Sg → Mem → Prop) (h0 : I 0 σ h) (hchk : ∀ i σ h, I i σ h → chk h = true)
    (step : ∀ i v σ h, items[i]? = some v → I i σ h → ∃ σ1, g v σ = some σ1 ∧ Ws (body σ1 h) (I (i + 1)) R F) (fin : ∀ σ h, I items.length σ h → N σ h) : Ws (forL g body chk items σ h) N R F := by
  suffices H : ∀ (vs : List Val) (i : Nat) (σ : Sg) (h : Mem), items.drop i = vs → i ≤ items.length → I i σ h → Ws (forL g body chk vs σ h) N R F from H items 0 σ h rfl (Nat.zero_le _) h0
  intro vs
  induction vs with
  | nil =>
    intro i σ h e l a
    have : items.length ≤ i := by simpa using e
    have : i = items.length := by omega
    subst this
    simp only [forL, hchk _ _ _ a, if_true, ws_nx]
    exact fin _ _ a
  | cons v vs ih =>
    intro i σ h e l a
    have hv : items[i]? = some v := by
      have := congrArg (fun z : List Val => z[0]?) e
      simpa using this
    obtain ⟨σ1, e1, b⟩ := step i v σ h hv a
    have hl : i < items.length := by
      rcases Nat.lt_or_ge i items.length with z | z
      · exact z
      · rw [List.getElem?_eq_none z] at hv; cases hv
    simp only [forL, hchk _ _ _ a, if_true, e1]
    rw [ws_def] at b ⊢
    unfold WsD at b ⊢
    revert b
    cases body σ1 h with
    | none => exact id
    | some r =>
      cases r with
      | nx σ2 h2 =>
        intro b
        exact (ih (i + 1) σ2 h2 (by rw [← List.drop_drop, e]; rfl) hl b).1
      | rt v h => exact id
      | ex c xs s h => exact id
@[simp] theorem wp_noEx {α : Type} {m : M α} {Q : α → Mem → Prop} : Wp (noEx m h) Q E ↔ Wp (m h) Q X0 := by
  simp only [wp_def]; unfold noEx WpD; cases m h with
  | none => rfl
  | some r => cases r <;> simp [X0]
@[simp] theorem wp_eLc {ix : List Nat} {src : Sg → M Src} {g : Tgt} {cond : BM} {elt : EM} {Q : Val → Mem → Prop} : Wp (eLc ix src g cond elt σ h) Q E ↔ Wp (src σ h) (fun s h' => s.items.length ≤ 1000000 ∧ Wp (lcL g cond elt s.chk (wipeS σ ix) s.items h') (fun ys h'' => Q (.ref h''.length) (h'' ++ [.lst ys])) E) E := by
  unfold eLc; rw [wp_bind]; refine iff_of_eq (congrArg (fun z => Wp (src σ h) z _) ?_); funext v h'; by_cases e : v.items.length ≤ 1000000 <;> simp [e]
theorem wp_lcL {g : Tgt} {cond : BM} {elt : EM} {chk : Mem → Bool} {items : List Val} {Q : List Val → Mem → Prop} (I : Nat → List Val → Mem → Prop) (h0 : I 0 [] h) (hchk : ∀ i ys h, I i ys h → chk h = true)
    (step : ∀ i v ys h, items[i]? = some v → I i ys h → ∃ σ1, g v σ = some σ1 ∧ Wp (cond σ1 h) (fun b h' => if b = true then Wp (elt σ1 h') (fun y h'' => I (i + 1) (ys ++ [y]) h'') X0 else I (i + 1) ys h') X0)
    (fin : ∀ ys h, I items.length ys h → Q ys h) : Wp (lcL g cond elt chk σ items h) Q E := by
  suffices H : ∀ (vs : List Val) (i : Nat) (ys : List Val) (h : Mem), items.drop i = vs → i ≤ items.length → I i ys h → Wp (lcL g cond elt chk σ vs h) (fun zs h' => Q (ys ++ zs) h') E from H items 0 [] h rfl (Nat.zero_le _) h0
  intro vs
  induction vs with
  | nil =>
    intro i ys h e l a
    have : items.length ≤ i := by simpa using e
    have : i = items.length := by omega
    subst this
    simp only [lcL, hchk _ _ _ a, if_true, wp_ok, List.append_nil]
    exact fin _ _ a
  | cons v vs ih =>
    intro i ys h e l a
    have hv : items[i]? = some v := by
      have := congrArg (fun z : List Val => z[0]?) e
      simpa using this
    obtain ⟨σ1, e1, b⟩ := step i v ys h hv a
    have hl : i < items.length := by
      rcases Nat.lt_or_ge i items.length with z | z
      · exact z
      · rw [List.getElem?_eq_none z] at hv; cases hv
    simp only [lcL, hchk _ _ _ a, if_true, e1]
    rw [wp_bind, wp_noEx]
    refine b.imp fun c h' x => ?_
    cases c with
    | true =>
      simp only [if_true] at x ⊢
      rw [wp_bind, wp_noEx]
      refine x.imp fun y h'' z => ?_
      rw [wp_bind]
      refine (ih (i + 1) (ys ++ [y]) h'' (by rw [← List.drop_drop, e]; rfl) hl z).imp fun zs h3 w => ?_
      rw [wp_ret]; simpa using w
    | false =>
      simp only [Bool.false_eq_true, if_false] at x ⊢
      exact ih (i + 1) ys h' (by rw [← List.drop_drop, e]; rfl) hl x
theorem ws_while' {c : BM} {b : SM} (I : Nat → Sg → Mem → Prop) (step : ∀ m σ h, I m σ h → Wp (c σ h) (fun k h' => if k = true then Ws (b σ h') (fun σ' h'' => ∃ m', m' < m ∧ I m' σ' h'') R F else N σ h') (fun c xs h' => F c xs σ h')) (m : Nat) (a : I m σ h) : Ws (sWhile c b σ h) N R F := by
  induction m using Nat.strongRecOn generalizing σ h with
  | _ m ih =>
    have s := (step m σ h a).1
    refine .mk' ?_
    unfold sWhile
    rw [whileGo]
    revert s
    cases c σ h with
    | none => exact fun z => z.elim
    | some r =>
      cases r with
      | ex k xs h' => exact id
      | ok t h' =>
        cases t with
        | false => exact id
        | true =>
          intro s
          have s : Ws (b σ h') (fun σ' h'' => ∃ m', m' < m ∧ I m' σ' h'') R F := s
          have s := s.1
          show WsD (b σ h' >>= _) N R F
          revert s
          cases b σ h' with
          | none => exact fun z => z.elim
          | some o =>
            cases o with
            | nx σ' h'' => rintro ⟨m', l, a'⟩; exact (ih m' l a').1
            | rt v h'' => exact id
            | ex c xs σ' h'' => exact id
end
/-! ### isinstance -/
@[simp] theorem isi_NoneType_0 : isiB "NoneType" ["int"] = some false := rfl
@[simp] theorem isi_NoneType_1 : isiB "NoneType" ["bool"] = some false := rfl
@[simp] theorem isi_NoneType_2 : isiB "NoneType" ["str"] = some false := rfl
@[simp] theorem isi_NoneType_3 : isiB "NoneType" ["tuple"] = some false := rfl
@[simp] theorem isi_NoneType_4 : isiB "NoneType" ["list"] = some false := rfl
@[simp] theorem isi_NoneType_5 : isiB "NoneType" ["dict"] = some false := rfl
@[simp] theorem isi_NoneType_6 : isiB "NoneType" ["list", "tuple"] = some false := rfl
@[simp] theorem isi_bool_0 : isiB "bool" ["int"] = some true := rfl
@[simp] theorem isi_bool_1 : isiB "bool" ["bool"] = some true := rfl
@[simp] theorem isi_bool_2 : isiB "bool" ["str"] = some false := rfl
@[simp] theorem isi_bool_3 : isiB "bool" ["tuple"] = some false := rfl
@[simp] theorem isi_bool_4 : isiB "bool" ["list"] = some false := rfl
@[simp] theorem isi_bool_5 : isiB "bool" ["dict"] = some false := rfl
@[simp] theorem isi_bool_6 : isiB "bool" ["list", "tuple"] = some false := rfl
@[simp] theorem isi_int_0 : isiB "int" ["int"] = some true := rfl
@[simp] theorem isi_int_1 : isiB "int" ["bool"] = some false := rfl
@[simp] theorem isi_int_2 : isiB "int" ["str"] = some false := rfl
@[simp] theorem isi_int_3 : isiB "int" ["tuple"] = some false := rfl
@[simp] theorem isi_int_4 : isiB "int" ["list"] = some false := rfl
@[simp] theorem isi_int_5 : isiB "int" ["dict"] = some false := rfl
@[simp] theorem isi_int_6 : isiB "int" ["list", "tuple"] = some false := rfl
@[simp] theorem isi_str_0 : isiB "str" ["int"] = some false := rfl
@[simp] theorem isi_str_1 : isiB "str" ["bool"] = some false := rfl
@[simp] theorem isi_str_2 : isiB "str" ["str"] = some true := rfl
@[simp] theorem isi_str_3 : isiB "str" ["tuple"] = some false := rfl
@[simp] theorem isi_str_4 : isiB "str" ["list"] = some false := rfl
@[simp] theorem isi_str_5 : isiB "str" ["dict"] = some false := rfl
@[simp] theorem isi_str_6 : isiB "str" ["list", "tuple"] = some false := rfl
@[simp] theorem isi_tuple_0 : isiB "tuple" ["int"] = some false := rfl
@[simp] theorem isi_tuple_1 : isiB "tuple" ["bool"] = some false := rfl
@[simp] theorem isi_tuple_2 : isiB "tuple" ["str"] = some false := rfl
@[simp] theorem isi_tuple_3 : isiB "tuple" ["tuple"] = some true := rfl
@[simp] theorem isi_tuple_4 : isiB "tuple" ["list"] = some false := rfl
@[simp] theorem isi_tuple_5 : isiB "tuple" ["dict"] = some false := rfl
@[simp] theorem isi_tuple_6 : isiB "tuple" ["list", "tuple"] = some true := rfl
@[simp] theorem isi_list_0 : isiB "list" ["int"] = some false := rfl
@[simp] theorem isi_list_1 : isiB "list" ["bool"] = some false := rfl
@[simp] theorem isi_list_2 : isiB "list" ["str"] = some false := rfl
@[simp] theorem isi_list_3 : isiB "list" ["tuple"] = some false := rfl
@[simp] theorem isi_list_4 : isiB "list" ["list"] = some true := rfl
@[simp] theorem isi_list_5 : isiB "list" ["dict"] = some false := rfl
@[simp] theorem isi_list_6 : isiB "list" ["list", "tuple"] = some true := rfl
@[simp] theorem isi_dict_0 : isiB "dict" ["int"] = some false := rfl
@[simp] theorem isi_dict_1 : isiB "dict" ["bool"] = some false := rfl
@[simp] theorem isi_dict_2 : isiB "dict" ["str"] = some false := rfl
@[simp] theorem isi_dict_3 : isiB "dict" ["tuple"] = some false := rfl
@[simp] theorem isi_dict_4 : isiB "dict" ["list"] = some false := rfl
@[simp] theorem isi_dict_5 : isiB "dict" ["dict"] = some true := rfl
@[simp] theorem isi_dict_6 : isiB "dict" ["list", "tuple"] = some false := rfl
/-! ### what stays of the memory -/
def Keep (W : Nat → Prop) (h h' : Mem) : Prop := h.length ≤ h'.length ∧ ∀ i, i < h.length → ¬ W i → h'[i]? = h[i]?
abbrev K0 (h h' : Mem) : Prop := Keep (fun _ => False) h h'
section
variable {W W' : Nat → Prop} {h h' h'' : Mem}
theorem Keep.refl : Keep W h h := ⟨Nat.le_refl _, fun _ _ _ => rfl⟩
theorem Keep.trans (a : Keep W h h') (b : Keep W h' h'') : Keep W h h'' := ⟨Nat.le_trans a.1 b.1, fun i l n => (b.2 i (Nat.lt_of_lt_of_le l a.1) n).trans (a.2 i l n)⟩
theorem Keep.mono (a : Keep W h h') (w : ∀ i, i < h.length → W i → W' i) : Keep W' h h' := ⟨a.1, fun i l n => a.2 i l fun x => n (w i l x)⟩
theorem Keep.of0 (a : K0 h h') : Keep W h h' := a.mono fun _ _ x => x.elim
/-- what was new may be written -/
theorem Keep.trans' (a : Keep W h h') (b : Keep W' h' h'') (w : ∀ i, i < h.length → W' i → W i) : Keep W h h'' :=
  ⟨Nat.le_trans a.1 b.1, fun i l n => (b.2 i (Nat.lt_of_lt_of_le l a.1) fun x => n (w i l x)).trans (a.2 i l n)⟩
theorem Keep.app (a : Keep W h h') {t : List Ob} : Keep W h (h' ++ t) := ⟨by have := a.1; simp only [List.length_append]; omega, fun i l n => by rw [List.getElem?_append_left (Nat.lt_of_lt_of_le l a.1)]; exact a.2 i l n⟩
theorem Keep.set (a : Keep W h h') {n : Nat} {o : Ob} (w : n < h.length → W n) : Keep W h (h'.set n o) := ⟨by have := a.1; simpa using this, fun i l x => by
  rw [List.getElem?_set_ne (by rintro rfl; exact x (w l))]; exact a.2 i l x⟩
theorem lt_of_get {n : Nat} {o : Ob} (e : h[n]? = some o) : n < h.length := by
  rcases Nat.lt_or_ge n h.length with z | z
  · exact z
  · rw [List.getElem?_eq_none z] at e; cases e
theorem Keep.get (a : Keep W h h') {n : Nat} {o : Ob} (e : h[n]? = some o) (w : ¬ W n) : h'[n]? = some o := (a.2 n (lt_of_get e) w).trans e
theorem Keep.get0 (a : K0 h h') {n : Nat} {o : Ob} (e : h[n]? = some o) : h'[n]? = some o := a.get e id
theorem get_app {n : Nat} {o : Ob} {t : List Ob} (e : h[n]? = some o) : (h ++ t)[n]? = some o := by rw [List.getElem?_append_left (lt_of_get e)]; exact e
theorem get_new {o : Ob} : (h ++ [o])[h.length]? = some o := by simp
theorem get_set {n : Nat} {o o' : Ob} (e : h[n]? = some o) : (h.set n o')[n]? = some o' := by simp [lt_of_get e]
theorem get_set_ne {n m : Nat} {o o' : Ob} (e : h[m]? = some o) (d : n ≠ m) : (h.set n o')[m]? = some o := by rw [List.getElem?_set_ne d]; exact e
end
/-! ### trees -/
inductive Tr where
  | non
  | bl (b : Bool)
  | int (i : Int)
  | str (s : Str)
  | tup (ts : List Tr)
  | lst (ts : List Tr)
def isLst (h : Mem) (v : Val) (xs : List Val) : Prop := v = .frl xs ∨ ∃ n, v = .ref n ∧ h[n]? = some (.lst xs)
mutual
def Rep (h : Mem) : Tr → Val → Prop
  | .non, v => v = .non
  | .bl b, v => v = .bl b
  | .int i, v => v = .int i
  | .str s, v => v = .str s
  | .tup ts, v => ∃ xs, v = .tup xs ∧ xs.length ≤ 1000000 ∧ Reps h ts xs
  | .lst ts, v => ∃ xs, isLst h v xs ∧ xs.length ≤ 1000000 ∧ Reps h ts xs
def Reps (h : Mem) : List Tr → List Val → Prop
  | [], xs => xs = []
  | t :: ts, xs => ∃ y ys, xs = y :: ys ∧ Rep h t y ∧ Reps h ts ys
end
mutual
def Tr.dep : Tr → Nat
  | .tup ts => 1 + deps ts
  | .lst ts => 1 + deps ts
  | _ => 1
def deps : List Tr → Nat
  | [] => 0
  | t :: ts => max t.dep (deps ts)
end

mutual
theorem Rep.keep {W : Nat → Prop} {h h' : Mem} (k : Keep W h h') (w : ∀ n xs, h[n]? = some (.lst xs) → ¬ W n) : ∀ (t : Tr) (v : Val), Rep h t v → Rep h' t v
  | .non, v, r => r
  | .bl b, v, r => r
  | .int i, v, r => r
  | .str s, v, r => r
  | .tup ts, v, r => by
    unfold Rep at r ⊢
    obtain ⟨xs, e, l, r⟩ := r
    exact ⟨xs, e, l, Reps.keep k w ts xs r⟩
  | .lst ts, v, r => by
    unfold Rep at r ⊢
    obtain ⟨xs, e, l, r⟩ := r
    refine ⟨xs, ?_, l, Reps.keep k w ts xs r⟩
    rcases e with e | ⟨n, e, g⟩
    · exact .inl e
    · exact .inr ⟨n, e, k.get g (w _ _ g)⟩
theorem Reps.keep {W : Nat → Prop} {h h' : Mem} (k : Keep W h h') (w : ∀ n xs, h[n]? = some (.lst xs) → ¬ W n) : ∀ (t : List Tr) (v : List Val), Reps h t v → Reps h' t v
  | [], v, r => by unfold Reps at r ⊢; exact r
  | t :: ts, v, r => by
    unfold Reps at r ⊢
    obtain ⟨y, ys, e, r1, r2⟩ := r
    exact ⟨y, ys, e, Rep.keep k w t y r1, Reps.keep k w ts ys r2⟩
end
theorem Rep.keep0 {h h' : Mem} (k : K0 h h') {t : Tr} {v : Val} (r : Rep h t v) : Rep h' t v := Rep.keep k (fun _ _ _ => id) t v r
theorem Reps.keep0 {h h' : Mem} (k : K0 h h') {t : List Tr} {v : List Val} (r : Reps h t v) : Reps h' t v := Reps.keep k (fun _ _ _ => id) t v r
theorem Reps.len {h : Mem} : ∀ {ts : List Tr} {xs : List Val}, Reps h ts xs → xs.length = ts.length
  | [], _, r => by unfold Reps at r; rw [r]; rfl
  | t :: ts, _, r => by unfold Reps at r; obtain ⟨y, ys, rfl, _, r⟩ := r; simp [r.len]
theorem Reps.get {h : Mem} : ∀ {ts : List Tr} {xs : List Val} {i : Nat} {v : Val}, Reps h ts xs → xs[i]? = some v → ∃ t, ts[i]? = some t ∧ Rep h t v ∧ t.dep ≤ deps ts
  | [], _, i, v, r, e => by unfold Reps at r; rw [r] at e; simp at e
  | t :: ts, _, 0, v, r, e => by
    unfold Reps at r; obtain ⟨y, ys, rfl, r1, _⟩ := r
    simp at e; subst e
    exact ⟨t, rfl, r1, by rw [deps]; omega⟩
  | t :: ts, _, i + 1, v, r, e => by
    unfold Reps at r; obtain ⟨y, ys, rfl, _, r⟩ := r
    obtain ⟨t', a, b, c⟩ := r.get (i := i) (v := v) (by simpa using e)
    exact ⟨t', by simpa using a, b, by rw [deps]; omega⟩
theorem pairUp_get1 : ∀ {xs ys : List Val} {i : Nat} {v : Val}, (pairUp xs ys)[i]? = some v → ∃ a b, xs[i]? = some a ∧ ys[i]? = some b ∧ v = .tup [a, b]
  | [], ys, i, v, e => by simp [pairUp] at e
  | x :: xs, [], i, v, e => by simp [pairUp] at e
  | x :: xs, y :: ys, 0, v, e => by simp [pairUp] at e; exact ⟨x, y, rfl, rfl, e.symm⟩
  | x :: xs, y :: ys, i + 1, v, e => by simp [pairUp] at e; simpa using pairUp_get1 e
theorem pairUp_len1 : ∀ {xs ys : List Val}, xs.length = ys.length → (pairUp xs ys).length = xs.length
  | [], ys, e => rfl
  | x :: xs, [], e => by simp at e
  | x :: xs, y :: ys, e => by simp at e; simp [pairUp, pairUp_len1 e]
theorem blsOf_rep : ∀ n : Nat, blsOf (List.replicate n (.bl true)) = some (List.replicate n true)
  | 0 => rfl
  | n + 1 => by rw [List.replicate_succ, blsOf, blsOf_rep n]; rfl
theorem replicate_snoc {α : Type} {n : Nat} {a : α} : List.replicate n a ++ [a] = List.replicate (n + 1) a := by
  rw [List.replicate_succ']
end EV

/-! EvT: rules of a step each, by their heads. -/
namespace EV
open PySem
section
variable {E : XE} {h : Mem} {σ : Sg} {Q : Val → Mem → Prop}
theorem w_add {i j : Int} (q : Q (.int (i + j)) h) : Wp (oAddA (.int i) (.int j) h) Q E := .mk' q
theorem w_adds {i j : Str} (l : i.length + j.length ≤ 1000000) (q : Q (.str (i ++ j)) h) : Wp (oAddA (.str i) (.str j) h) Q E := by
  refine .mk' ?_; show WpD ((if _ then _ else _ : M Val) h) Q E; rw [if_pos l]; exact q
theorem w_addt {i j : List Val} (l : i.length + j.length ≤ 1000000) (q : Q (.tup (i ++ j)) h) : Wp (oAddA (.tup i) (.tup j) h) Q E := by
  refine .mk' ?_; show WpD ((if _ then _ else _ : M Val) h) Q E; rw [if_pos l]; exact q
theorem w_addl {n k : Nat} {xs ys : List Val} (e1 : h[n]? = some (.lst xs)) (e2 : h[k]? = some (.lst ys)) (l : xs.length + ys.length ≤ 1000000) (q : Q (.ref h.length) (h ++ [.lst (xs ++ ys)])) : Wp (oAddA (.ref n) (.ref k) h) Q E := by
  simp [oAddA, onL, e1, e2, l]; exact q
theorem w_sub {i j : Int} (q : Q (.int (i - j)) h) : Wp (oSub (.int i) (.int j) h) Q E := .mk' q
theorem w_mul {i j : Int} (c : cMul i j = true) (q : Q (.int (i * j)) h) : Wp (oMul (.int i) (.int j) h) Q E := by
  simp [oMul, oII, c]; exact q
theorem cmul_small {i k : Int} (h0 : 0 ≤ k) (h1 : k < 2 ^ 64) : cMul i k = true := by
  unfold cMul; exact decide_eq_true (.inr (.inl ⟨by omega, h1⟩))
theorem cmul_smallL {i k : Int} (h0 : 0 ≤ i) (h1 : i < 2 ^ 64) : cMul i k = true := by
  unfold cMul; exact decide_eq_true (.inl ⟨by omega, h1⟩)
theorem w_div {i j : Int} (c : 0 < j ∧ j < 18446744073709551616) (q : Q (.int (i / j)) h) : Wp (oDiv (.int i) (.int j) h) Q E := by
  simp [oDiv, oII, cDiv, c]; exact q
theorem w_mod {i j : Int} (c : 0 < j) (q : Q (.int (i % j)) h) : Wp (oMod (.int i) (.int j) h) Q E := by
  simp [oMod, oII, cMod, c]; exact q
theorem w_pow {i j : Int} (c : cPow i j = true) (q : Q (.int (i ^ j.toNat)) h) : Wp (oPow (.int i) (.int j) h) Q E := by
  simp [oPow, oII, c]; exact q
theorem w_neg {i : Int} (q : Q (.int (-i)) h) : Wp (oNeg (.int i) h) Q E := .mk' q
theorem w_lt {i j : Int} (q : Q (.bl (decide (i < j))) h) : Wp (oLt (.int i) (.int j) h) Q E := .mk' q
theorem w_le {i j : Int} (q : Q (.bl (decide (i ≤ j))) h) : Wp (oLe (.int i) (.int j) h) Q E := .mk' q
theorem w_gt {i j : Int} (q : Q (.bl (decide (j < i))) h) : Wp (oGt (.int i) (.int j) h) Q E := .mk' q
theorem w_ge {i j : Int} (q : Q (.bl (decide (j ≤ i))) h) : Wp (oGe (.int i) (.int j) h) Q E := .mk' q
theorem w_isN {v : Val} (q : Q (.bl (decide (v = .non))) h) : Wp (oIsN v h) Q E := .mk' q
theorem w_notN {v : Val} (q : Q (.bl (!decide (v = .non))) h) : Wp (oNotN v h) Q E := .mk' q
theorem w_fld {k n c : Nat} {fs : List (Nat × Val)} {x : Val} (e : h[n]? = some (.ins c fs)) (g : fGet k fs = some x) (q : Q x h) : Wp (oFld k (.ref n) h) Q E := by
  refine wp_oFld.mpr ⟨c, fs, x, ?_, g, q⟩; simp [insOf, e]
theorem w_putf {k n c : Nat} {mo mv : EM} {N : Sg → Mem → Prop} {R : Val → Mem → Prop} {F : Nat → List Val → Sg → Mem → Prop}
    (a : Wp (mv σ h) (fun y h' => Wp (mo σ h') (fun x h'' => ∃ n c fs, x = .ref n ∧ h''[n]? = some (.ins c fs) ∧ fs.length < 900 ∧ N σ (h''.set n (.ins c (fPut k y fs)))) (fun c xs h' => F c xs σ h')) (fun c xs h' => F c xs σ h')) : Ws (sFld k mo mv σ h) N R F := ws_fld.mpr a
theorem w_list {n : Nat} {xs : List Val} (e : h[n]? = some (.lst xs)) (q : Q (.ref h.length) (h ++ [.lst xs])) : Wp (oList [.ref n] h) Q E := by
  simp [oList, seqOf, e]; exact q
theorem w_listf {xs : List Val} (q : Q (.ref h.length) (h ++ [.lst xs])) : Wp (oList [.frl xs] h) Q E := .mk' q
theorem w_listt {xs : List Val} (q : Q (.ref h.length) (h ++ [.lst xs])) : Wp (oList [.tup xs] h) Q E := .mk' q
theorem w_lenl {n : Nat} {xs : List Val} (e : h[n]? = some (.lst xs)) (q : Q (.int xs.length) h) : Wp (oLen [.ref n] h) Q E :=
  wp_oLen.mpr ⟨xs.length, by simp [vLen, e], q⟩
theorem w_lend {n : Nat} {xs : List (Key × Val)} (e : h[n]? = some (.dct xs)) (q : Q (.int xs.length) h) : Wp (oLen [.ref n] h) Q E :=
  wp_oLen.mpr ⟨xs.length, by simp [vLen, e], q⟩
theorem w_lens {s : Str} (l : s.length ≤ 1000000) (q : Q (.int s.length) h) : Wp (oLen [.str s] h) Q E :=
  wp_oLen.mpr ⟨s.length, by simp [vLen, l], q⟩
theorem w_lent {xs : List Val} (q : Q (.int xs.length) h) : Wp (oLen [.tup xs] h) Q E := .mk' q
theorem w_lenf {xs : List Val} (q : Q (.int xs.length) h) : Wp (oLen [.frl xs] h) Q E := .mk' q
theorem w_max {i j : Int} (q : Q (.int (if j > i then j else i)) h) : Wp (oMax [.int i, .int j] h) Q E := .mk' q
theorem w_min {i j : Int} (q : Q (.int (if j < i then j else i)) h) : Wp (oMin [.int i, .int j] h) Q E := .mk' q
theorem w_int {i : Int} (q : Q (.int i) h) : Wp (oInt [.int i] h) Q E := .mk' q
theorem w_intb {b : Bool} (q : Q (.int (if b then 1 else 0)) h) : Wp (oInt [.bl b] h) Q E := .mk' q
theorem w_app {n : Nat} {xs : List Val} {y : Val} (e : h[n]? = some (.lst xs)) (l : xs.length < 1000000) (q : Q .non (h.set n (.lst (xs ++ [y])))) : Wp (oAppend (.ref n) [y] h) Q E := by
  simp [oAppend, on1, onL, e, l, mSet]; exact q
theorem w_tyl {n : Nat} {xs : List Val} (e : h[n]? = some (.lst xs)) : tyOf h (.ref n) = some "list" := by simp [tyOf, e]
theorem w_tyd {n : Nat} {xs : List (Key × Val)} (e : h[n]? = some (.dct xs)) : tyOf h (.ref n) = some "dict" := by simp [tyOf, e]
theorem w_bm {T : String} {f : Val → List Val → M Val} {mo : EM} {ms : AM} (a : Wp (mo σ h) (fun v h' => tyOf h' v = some T ∧ Wp (ms σ h') (fun vs h'' => Wp (f v vs h'') Q E) E) E) : Wp (eBM T f mo ms σ h) Q E := wp_eBM.mpr a
theorem w_asB {b : Bool} {P : Bool → Prop} (p : P b) : ∃ c, asB (.bl b) = some c ∧ P c := ⟨b, rfl, p⟩
theorem w_ixl {n : Nat} {xs : List Val} {i : Int} {x : Val} (e : h[n]? = some (.lst xs)) (g : L2.atI xs i = some x) (q : Q x h) : Wp (oIx (.ref n) (.int i) h) Q E := by
  refine wp_oIx.mpr ⟨x, ?_, q⟩; simp [vIx, e, g]
theorem w_ixf {xs : List Val} {i : Int} {x : Val} (g : L2.atI xs i = some x) (q : Q x h) : Wp (oIx (.frl xs) (.int i) h) Q E := by
  refine wp_oIx.mpr ⟨x, ?_, q⟩; simp [vIx, seqOf, g]
theorem w_ixt {xs : List Val} {i : Int} {x : Val} (g : L2.atI xs i = some x) (q : Q x h) : Wp (oIx (.tup xs) (.int i) h) Q E := by
  refine wp_oIx.mpr ⟨x, ?_, q⟩; simp [vIx, seqOf, g]
theorem w_ixd {n : Nat} {kvs : List (Key × Val)} {i : Int} {x : Val} (e : h[n]? = some (.dct kvs)) (g : dGet kvs (.inl i) = some x) (q : Q x h) : Wp (oIx (.ref n) (.int i) h) Q E := by
  refine wp_oIx.mpr ⟨x, ?_, q⟩; simp [vIx, e, keyOf, g]
def SrcOf (h : Mem) (v : Val) (P : Src → Mem → Prop) : Prop := match v with
  | .tup xs => P ⟨xs, yes⟩ h
  | .frl xs => P ⟨xs, yes⟩ h
  | .ref n => ∃ xs, h[n]? = some (.lst xs) ∧ P ⟨xs, fun h'' => decide (h''[n]? = some (.lst xs))⟩ h
  | _ => False
theorem w_seqr {m : EM} {P : Src → Mem → Prop} (a : Wp (m σ h) (fun v h' => SrcOf h' v P) E) : Wp (srcSeq m σ h) P E := by
  refine wp_bind.mpr (a.imp fun v h' b => ?_)
  unfold SrcOf at b
  cases v with
  | tup xs => exact .mk' b
  | frl xs => exact .mk' b
  | ref n => obtain ⟨xs, e, p⟩ := b; simp [e]; exact p
  | _ => exact b.elim
theorem w_srcT {xs : List Val} {P : Src → Mem → Prop} (p : P ⟨xs, yes⟩ h) : SrcOf h (.tup xs) P := p
theorem w_srcF {xs : List Val} {P : Src → Mem → Prop} (p : P ⟨xs, yes⟩ h) : SrcOf h (.frl xs) P := p
theorem w_srcL {n : Nat} {xs : List Val} {P : Src → Mem → Prop} (e : h[n]? = some (.lst xs)) (p : P ⟨xs, fun h'' => decide (h''[n]? = some (.lst xs))⟩ h) : SrcOf h (.ref n) P := ⟨xs, e, p⟩
theorem w_r1 {m : EM} {P : Src → Mem → Prop} (a : Wp (m σ h) (fun v h' => ∃ j, v = .int j ∧ smallI j = true ∧ P ⟨rngV 0 j.toNat, yes⟩ h') E) : Wp (srcR1 m σ h) P E := by
  refine wp_bind.mpr (a.imp fun v h' b => ?_)
  obtain ⟨j, rfl, s, p⟩ := b
  simp [s]; exact p
theorem w_bfalse {P P' : Prop} (p : P') : (if false = true then P else P') := by simpa using p
theorem w_btrue {P P' : Prop} (p : P) : (if true = true then P else P') := by simpa using p
theorem w_dec {c : Prop} [Decidable c] {P P' : Prop} (p : c → P) (q : ¬c → P') : (if decide c = true then P else P') := by
  by_cases e : c
  · simpa [e] using p e
  · simpa [e] using q e
theorem w_ndec {c : Prop} [Decidable c] {P P' : Prop} (p : ¬c → P) (q : c → P') : (if (!decide c) = true then P else P') := by
  by_cases e : c
  · simpa [e] using q e
  · simpa [e] using p e
theorem w_put {n c : Nat} {fs : List (Nat × Val)} {P : Nat → Nat → List (Nat × Val) → Prop} (e : h[n]? = some (.ins c fs)) (l : Nat.ble (fs.length + 1) 900 = true) (p : P n c fs) :
    ∃ n' c fs, Val.ref n = .ref n' ∧ h[n']? = some (.ins c fs) ∧ fs.length < 900 ∧ P n' c fs := ⟨n, c, fs, rfl, e, Nat.le_of_ble_eq_true l, p⟩
theorem w_len {xs : List Val} {P : Prop} (c : Nat.ble xs.length 1000000 = true) (p : P) : xs.length ≤ 1000000 ∧ P := ⟨Nat.le_of_ble_eq_true c, p⟩
theorem w_call {vs dv : List Val} {np : Nat} {P : Prop} (c : (vs ++ dv).length = np) (p : P) : (vs ++ dv).length = np ∧ P := ⟨c, p⟩
theorem w_callc {v : Val} {vs dv : List Val} {np : Nat} {P : Prop} (c : (v :: (vs ++ dv)).length = np) (p : P) : (v :: (vs ++ dv)).length = np ∧ P := ⟨c, p⟩
theorem w_meth {disp : Nat → Option (Nat × (List Val → M Val) × List Val)} {n c np : Nat} {fs : List (Nat × Val)} {fm : List Val → M Val} {dv : List Val} {P : Nat → (List Val → M Val) → List Val → Prop}
    (e : h[n]? = some (.ins c fs)) (d : disp c = some (np, fm, dv)) (p : P np fm dv) : ∃ c fs np fm dv, insOf h (.ref n) = some (c, fs) ∧ disp c = some (np, fm, dv) ∧ P np fm dv := ⟨c, fs, np, fm, dv, by simp [insOf, e], d, p⟩
theorem w_tyL {n : Nat} {xs : List Val} {P : Prop} (e : h[n]? = some (.lst xs)) (p : P) : tyOf h (.ref n) = some "list" ∧ P := ⟨w_tyl e, p⟩
theorem w_tyS {s : Str} {P : Prop} (p : P) : tyOf h (.str s) = some "str" ∧ P := ⟨rfl, p⟩
theorem w_isi {v : Val} {t : String} {cs : List String} {b : Bool} {P : Bool → Prop} (e : tyOf h v = some t) (i : isiB t cs = some b) (p : P b) : ∃ b, ((tyOf h v).bind fun t => isiB t cs) = some b ∧ P b := ⟨b, by rw [e]; exact i, p⟩
theorem w_iff {b : Bool} {P P' : Prop} (e : b = false) (p : P') : (if b = true then P else P') := by rw [e]; simpa using p
theorem w_ift {b : Bool} {P P' : Prop} (e : b = true) (p : P) : (if b = true then P else P') := by rw [e]; simpa using p
theorem w_setd {n : Nat} {kvs : List (Key × Val)} {i : Int} {v : Val} {P : Mem → Prop} (e : h[n]? = some (.dct kvs)) (l : kvs.length < 1000000) (p : P (h.set n (.dct (dPut kvs (.inl i) v)))) : ∃ h4, vSetIx h (.ref n) (.int i) v = some h4 ∧ P h4 :=
  ⟨_, by simp [vSetIx, e, keyOf, l], p⟩
theorem w_dget1 {mo mk : EM} (a : Wp (mo σ h) (fun v h' => ∃ n kvs, v = .ref n ∧ h'[n]? = some (.dct kvs) ∧ Wp (mk σ h') (fun k h'' => ∃ kvs' ky, h''[n]? = some (.dct kvs') ∧ keyOf k = some ky ∧ Q ((dGet kvs' ky).getD .non) h'') E) E) : Wp (eDGet1 mo mk σ h) Q E := by
  refine wp_bind.mpr (a.imp fun v h' b => ?_)
  obtain ⟨n, kvs, rfl, e, b⟩ := b
  simp only [isDct, dctOf, e, Option.isSome_some, if_true, wp_bind]
  refine b.imp fun k h'' c => ?_
  obtain ⟨kvs', ky, e', ek, q⟩ := c
  simp [e', ek]; exact q
theorem w_dref {n : Nat} {kvs : List (Key × Val)} {P : Nat → List (Key × Val) → Prop} (e : h[n]? = some (.dct kvs)) (p : P n kvs) : ∃ n' kvs, Val.ref n = .ref n' ∧ h[n']? = some (.dct kvs) ∧ P n' kvs := ⟨n, kvs, rfl, e, p⟩
theorem w_dkey {n : Nat} {kvs : List (Key × Val)} {i : Int} {P : List (Key × Val) → Key → Prop} (e : h[n]? = some (.dct kvs)) (p : P kvs (.inl i)) : ∃ kvs ky, h[n]? = some (.dct kvs) ∧ keyOf (.int i) = some ky ∧ P kvs ky := ⟨kvs, .inl i, e, rfl, p⟩
theorem rngV_get {m i : Nat} {v : Val} (hv : (rngV 0 m)[i]? = some v) : i < m ∧ v = .int i := by
  simp only [rngV, List.getElem?_map, Option.map_eq_some_iff] at hv
  obtain ⟨k, e, rfl⟩ := hv
  have l : i < m := by
    rcases Nat.lt_or_ge i m with z | z
    · exact z
    · rw [List.getElem?_eq_none (by simpa using z)] at e; cases e
  rw [List.getElem?_range l] at e
  cases e
  exact ⟨l, by simp⟩
theorem strsOf_map : ∀ l : List Str, strsOf (l.map Val.str) = some l
  | [] => rfl
  | a :: l => by rw [List.map_cons, strsOf, strsOf_map l]; rfl
theorem intsOf_map : ∀ l : List Int, intsOf (l.map Val.int) = some l
  | [] => rfl
  | a :: l => by rw [List.map_cons, intsOf, intsOf_map l]; rfl
theorem w_join {n : Nat} {a : Str} {ys : List Str} (e : h[n]? = some (.lst (ys.map Val.str))) (l : (ys.map (·.length)).sum + ys.length * a.length ≤ 16777216) (q : Q (.str (Txt.join a ys)) h) : Wp (oJoin (.str a) [.ref n] h) Q E := by
  simp only [oJoin, seqOf, e, Option.bind_some, strsOf_map, l, if_true]; exact .mk' q
theorem w_eSl {m : EM} {lo hi : OM} (a : Wp (m σ h) (fun v h1 => Wp (lo σ h1) (fun l h2 => Wp (hi σ h2) (fun u h3 => Wp (oSl v l u h3) Q E) E) E) E) : Wp (eSl m lo hi σ h) Q E := by simp [eSl]; exact a
theorem w_pNo {P : Option Int → Mem → Prop} (q : P none h) : Wp (pNo σ h) P E := .mk' q
theorem w_pSome {m : EM} {P : Option Int → Mem → Prop} (a : Wp (m σ h) (fun v h' => ∃ i, v = .int i ∧ P (some i) h') E) : Wp (pSome m σ h) P E := by
  refine wp_bind.mpr (a.imp fun v h' b => ?_)
  obtain ⟨i, rfl, p⟩ := b
  exact .mk' p
theorem w_slS {s : Str} {lo hi : Option Int} (l : s.length ≤ 1000000) (q : Q (.str (L2.cutS s lo hi)) h) : Wp (oSl (.str s) lo hi h) Q E := by
  simp only [oSl, l, if_true]; exact .mk' q
theorem w_slF {xs : List Val} {lo hi : Option Int} (q : Q (.ref h.length) (h ++ [.lst (cutL xs lo hi)])) : Wp (oSl (.frl xs) lo hi h) Q E := by
  simp only [oSl, seqOf]; exact .mk' q
theorem w_slL {n : Nat} {xs : List Val} {lo hi : Option Int} (e : h[n]? = some (.lst xs)) (q : Q (.ref h.length) (h ++ [.lst (cutL xs lo hi)])) : Wp (oSl (.ref n) lo hi h) Q E := by
  simp only [oSl, seqOf, e]; exact .mk' q
theorem w_eqi {i : Int} {P : Int → Prop} (p : P i) : ∃ j, Val.int i = .int j ∧ P j := ⟨i, rfl, p⟩
theorem w_sumI {n : Nat} {xs : List Int} (e : h[n]? = some (.lst (xs.map Val.int))) (q : Q (.int xs.sum) h) : Wp (oSum [.ref n] h) Q E := by
  simp only [oSum, onR, seqOf, e, Option.bind_some, intsOf_map, Option.map_some]; exact .mk' q
theorem w_eqI {i j : Int} (q : Q (.bl (decide (i = j))) h) : Wp (oEq (.int i) (.int j) h) Q E := wp_oEq.mpr ⟨_, rfl, q⟩
theorem w_neI {i j : Int} (q : Q (.bl (!decide (i = j))) h) : Wp (oNe (.int i) (.int j) h) Q E := wp_oNe.mpr ⟨_, rfl, q⟩
theorem w_eqS {i j : Str} (q : Q (.bl (decide (i = j))) h) : Wp (oEq (.str i) (.str j) h) Q E := wp_oEq.mpr ⟨_, rfl, q⟩
theorem w_neS {i j : Str} (q : Q (.bl (!decide (i = j))) h) : Wp (oNe (.str i) (.str j) h) Q E := wp_oNe.mpr ⟨_, rfl, q⟩
theorem w_eqB {i j : Bool} (q : Q (.bl (decide (i = j))) h) : Wp (oEq (.bl i) (.bl j) h) Q E := wp_oEq.mpr ⟨_, rfl, q⟩
theorem w_neB {i j : Bool} (q : Q (.bl (!decide (i = j))) h) : Wp (oNe (.bl i) (.bl j) h) Q E := wp_oNe.mpr ⟨_, rfl, q⟩
theorem w_pow10 {j : Int} (hj : 0 ≤ j ∧ j ≤ 1000) (q : Q (.int (10 ^ j.toNat)) h) : Wp (oPow (.int 10) (.int j) h) Q E := w_pow (by unfold cPow; exact decide_eq_true ⟨hj.1, by omega, by decide⟩) q
theorem w_sortD {n : Nat} {kvs : List (Key × Val)} {ns : List Int} (e : h[n]? = some (.dct kvs)) (ki : keyInts kvs = some ns) (l : ns.length < 64) (q : Q (.ref h.length) (h ++ [.lst ((sortI ns).map .int)])) : Wp (oSorted [.ref n] h) Q E := by
  simp only [oSorted, onR, e, ki, l, if_true]; exact .mk' q
theorem insI_ge {i : Int} : ∀ {l : List Int}, (∀ j ∈ l, i ≤ j) → insI i l = i :: l
  | [], _ => rfl
  | j :: r, h => by rw [insI, if_pos (h j (List.mem_cons_self ..))]
theorem sortI_id : ∀ {l : List Int}, l.Pairwise (· ≤ ·) → sortI l = l
  | [], _ => rfl
  | a :: l, h => by
    have h := List.pairwise_cons.mp h
    show insI a (sortI l) = _
    rw [sortI_id h.2, insI_ge h.1]
theorem w_zip {m m2 : EM} {P : Src → Mem → Prop} (a : Wp (m σ h) (fun v h' => Wp (m2 σ h') (fun u h'' => ∃ s, zipV h'' v u = some s ∧ P s h'') E) E) : Wp (srcZip m m2 σ h) P E := by
  refine wp_bind.mpr (a.imp fun v h' b => wp_bind.mpr (b.imp fun u h'' c => ?_))
  exact wp_opt.mpr c
theorem w_allT {n k : Nat} (e : h[n]? = some (.lst (List.replicate k (.bl true)))) (q : Q (.bl true) h) : Wp (oAll [.ref n] h) Q E := by
  simp only [oAll, onR, seqOf, e, Option.bind_some, blsOf_rep, Option.map_some]
  refine .mk' ?_
  have : (List.replicate k true).all id = true := by simp
  show Q (.bl ((List.replicate k true).all id)) h
  rw [this]; exact q
end
/-! ### == of trees -/
mutual
def datT : Tr → PyData
  | .non => .none
  | .bl b => .bool b
  | .int i => .int i
  | .str s => .str s
  | .tup ts => .tuple (datTs ts)
  | .lst ts => .list (datTs ts)
def datTs : List Tr → List PyData
  | [] => []
  | t :: ts => datT t :: datTs ts
end
mutual
def Tr.sz : Tr → Nat
  | .tup ts => 1 + szs ts
  | .lst ts => 1 + szs ts
  | _ => 1
def szs : List Tr → Nat
  | [] => 1
  | t :: ts => 1 + max t.sz (szs ts)
end
def Tr.lay (t : Tr) : Prop := (datT t).canLay0 = true
theorem lays_of : ∀ {ts : List Tr}, (∀ t ∈ ts, t.lay) → PyData.canLayAll0 (datTs ts) = true
  | [], _ => rfl
  | t :: ts, h => by
    have a : (datT t).canLay0 = true := h t (List.mem_cons_self ..)
    rw [datTs, PyData.canLayAll0, a, lays_of fun t ht => h t (List.mem_cons_of_mem _ ht)]; rfl
theorem lay_tup {ts : List Tr} (h : ∀ t ∈ ts, t.lay) : (Tr.tup ts).lay := lays_of h
theorem lay_lst {ts : List Tr} (h : ∀ t ∈ ts, t.lay) : (Tr.lst ts).lay := lays_of h
def SOk (s : Str) : Prop := ∀ c ∈ s.cps.toList, c < 1114112
theorem lay_str {s : Str} (h : SOk s) : (Tr.str s).lay := by
  show PyData.strOk s = true
  unfold PyData.strOk
  rw [← Array.all_toList, List.all_eq_true]
  intro c hc
  exact decide_eq_true (h c hc)
theorem SOk.app {a b : Str} (ha : SOk a) (hb : SOk b) : SOk (a ++ b) := by
  intro c hc
  rw [show (a ++ b).cps.toList = a.cps.toList ++ b.cps.toList from TL.tl_append a b] at hc
  rcases List.mem_append.mp hc with hc | hc
  · exact ha c hc
  · exact hb c hc
theorem SOk.cut {a : Str} (ha : SOk a) (lo hi : Option Int) : SOk (L2.cutS a lo hi) := by
  intro c hc
  refine ha c ?_
  have : c ∈ (a.cps.toList.drop (HT.sIx a.length 0 lo)).take (HT.sIx a.length a.length hi - HT.sIx a.length 0 lo) := by simpa [L2.cutS] using hc
  exact List.mem_of_mem_drop (List.mem_of_mem_take this)
theorem SOk.join {l : List Str} (h : ∀ a ∈ l, SOk a) : SOk (Txt.join "" l) := by
  have e : Txt.join "" l = Str.join "" l := PySem.StrLaws.glued_eq_join _ _
  rw [e]
  clear e
  induction l with
  | nil => intro c hc; exact absurd hc (by decide +revert)
  | cons x r ih =>
    have ih := ih fun a ha => h a (List.mem_cons_of_mem _ ha)
    cases r with
    | nil => exact h x (List.mem_cons_self ..)
    | cons z r =>
      rw [show Str.join "" (x :: z :: r) = x ++ "" ++ Str.join "" (z :: r) from rfl]
      refine (SOk.app (SOk.app (h x (List.mem_cons_self ..)) ?_) ih)
      intro c hc; exact absurd hc (by decide +revert)
mutual
theorem datT_dep : ∀ t : Tr, (datT t).depth ≤ t.dep
  | .non => Nat.zero_le _
  | .bl b => Nat.zero_le _
  | .int i => Nat.zero_le _
  | .str s => Nat.zero_le _
  | .tup ts => by have := datTs_dep ts; rw [datT, Tr.dep, PyData.depth]; omega
  | .lst ts => by have := datTs_dep ts; rw [datT, Tr.dep, PyData.depth]; omega
theorem datTs_dep : ∀ t : List Tr, PyData.depthAll (datTs t) ≤ deps t
  | [] => Nat.zero_le _
  | t :: ts => by have := datT_dep t; have := datTs_dep ts; rw [datTs, deps, PyData.depthAll]; omega
end
mutual
theorem dat_rep {h : Mem} : ∀ (t : Tr) (v : Val) (n : Nat), Rep h t v → t.sz ≤ n → dat h n v = some (datT t)
  | .non, v, n, r, l => by
    unfold Rep at r; subst r; have l : 1 ≤ n := by simpa [Tr.sz] using l
    obtain ⟨m, rfl⟩ : ∃ m, n = m + 1 := ⟨n - 1, by omega⟩
    rfl
  | .bl _, v, n, r, l => by
    unfold Rep at r; subst r; have l : 1 ≤ n := by simpa [Tr.sz] using l
    obtain ⟨m, rfl⟩ : ∃ m, n = m + 1 := ⟨n - 1, by omega⟩
    rfl
  | .int _, v, n, r, l => by
    unfold Rep at r; subst r; have l : 1 ≤ n := by simpa [Tr.sz] using l
    obtain ⟨m, rfl⟩ : ∃ m, n = m + 1 := ⟨n - 1, by omega⟩
    rfl
  | .str _, v, n, r, l => by
    unfold Rep at r; subst r; have l : 1 ≤ n := by simpa [Tr.sz] using l
    obtain ⟨m, rfl⟩ : ∃ m, n = m + 1 := ⟨n - 1, by omega⟩
    rfl
  | .tup ts, v, n, r, l => by
    unfold Rep at r; obtain ⟨xs, rfl, _, r⟩ := r; rw [Tr.sz] at l
    obtain ⟨m, rfl⟩ : ∃ m, n = m + 1 := ⟨n - 1, by omega⟩
    rw [dat, dats_rep ts xs m r (by omega), datT]; rfl
  | .lst ts, v, n, r, l => by
    unfold Rep at r; obtain ⟨xs, e, _, r⟩ := r; rw [Tr.sz] at l
    obtain ⟨m, rfl⟩ : ∃ m, n = m + 1 := ⟨n - 1, by omega⟩
    rcases e with rfl | ⟨k, rfl, g⟩
    · rw [dat, dats_rep ts xs m r (by omega), datT]; rfl
    · rw [dat, g]; dsimp only; rw [dats_rep ts xs m r (by omega), datT]; rfl
theorem dats_rep {h : Mem} : ∀ (t : List Tr) (v : List Val) (n : Nat), Reps h t v → szs t ≤ n → dats h n v = some (datTs t)
  | [], v, n, r, l => by
    unfold Reps at r; subst r; rw [szs] at l
    obtain ⟨m, rfl⟩ : ∃ m, n = m + 1 := ⟨n - 1, by omega⟩
    rfl
  | t :: ts, v, n, r, l => by
    unfold Reps at r; obtain ⟨y, ys, rfl, r1, r2⟩ := r; rw [szs] at l
    obtain ⟨m, rfl⟩ : ∃ m, n = m + 1 := ⟨n - 1, by omega⟩
    rw [dats, dat_rep t y m r1 (by omega), datTs]; dsimp only; rw [dats_rep ts ys m r2 (by omega)]; rfl
end
theorem vEq_rep {h : Mem} {t : Tr} {v u : Val} (r1 : Rep h t v) (r2 : Rep h t u) (l : t.sz ≤ 1000) (d : t.dep ≤ 64) (ly : t.lay) : vEq h v u = some true := by
  have big : dEq h v u = some true := by
    unfold dEq
    have s : SeqAt.shaped (datT t) = true := by
      have := datT_dep t
      simp only [SeqAt.shaped, show (datT t).canLay0 = true from ly, Bool.true_and, decide_eq_true_eq]
      omega
    rw [dat_rep t v 1000 r1 l, dat_rep t u 1000 r2 l]
    dsimp only
    rw [s, Bool.true_and, if_pos rfl, SeqAt.eqv_refl _ ly]
  unfold vEq
  cases t with
  | non => unfold Rep at r1 r2; subst r1; subst r2; rfl
  | bl b => unfold Rep at r1 r2; subst r1; subst r2; simp [sEq]
  | int b => unfold Rep at r1 r2; subst r1; subst r2; simp [sEq]
  | str b => unfold Rep at r1 r2; subst r1; subst r2; simp [sEq]
  | tup ts =>
    unfold Rep at r1 r2
    obtain ⟨xs, rfl, _, _⟩ := r1
    obtain ⟨ys, rfl, _, _⟩ := r2
    exact big
  | lst ts =>
    unfold Rep at r1 r2
    obtain ⟨xs, e1, _, _⟩ := r1
    obtain ⟨ys, e2, _, _⟩ := r2
    rcases e1 with rfl | ⟨_, rfl, _⟩ <;> rcases e2 with rfl | ⟨_, rfl, _⟩ <;> exact big
theorem vEq_nil {h : Mem} {q r : Nat} {t : Tr} {ts : List Tr} {xs : List Val} (g : h[q]? = some (.lst xs)) (g' : h[r]? = some (.lst [])) (rx : Reps h (t :: ts) xs) (l : (Tr.lst (t :: ts)).sz ≤ 1000) (d : (Tr.lst (t :: ts)).dep ≤ 64) (ly : (Tr.lst (t :: ts)).lay) (lx : xs.length ≤ 1000000) :
    vEq h (.ref q) (.ref r) = some false := by
  have s : SeqAt.shaped (datT (.lst (t :: ts))) = true := by
    have := datT_dep (.lst (t :: ts))
    simp only [SeqAt.shaped, show (datT (.lst (t :: ts))).canLay0 = true from ly, Bool.true_and, decide_eq_true_eq]
    omega
  have r1 : Rep h (.lst (t :: ts)) (.ref q) := by unfold Rep; exact ⟨xs, .inr ⟨q, rfl, g⟩, lx, rx⟩
  show dEq h (.ref q) (.ref r) = _
  unfold dEq
  rw [dat_rep _ _ 1000 r1 l]
  have e2 : dat h 1000 (.ref r) = some (.list []) := by
    rw [dat, g']; rfl
  rw [e2]
  dsimp only
  rw [s, Bool.true_and, if_pos (by decide)]
  rfl
theorem ws_forL_nil {g : Tgt} {body : SM} {chk : Mem → Bool} {σ : Sg} {h : Mem} {N : Sg → Mem → Prop} {R : Val → Mem → Prop} {F : Nat → List Val → Sg → Mem → Prop} (c : chk h = true) (n : N σ h) : Ws (forL g body chk [] σ h) N R F := by
  rw [forL, if_pos c]; exact .mk' n
theorem ws_forL_cons {g : Tgt} {body : SM} {chk : Mem → Bool} {v : Val} {vs : List Val} {σ σ1 : Sg} {h : Mem} {N : Sg → Mem → Prop} {R : Val → Mem → Prop} {F : Nat → List Val → Sg → Mem → Prop} (c : chk h = true) (e : g v σ = some σ1)
    (a : Ws (body σ1 h) (fun σ2 h2 => Ws (forL g body chk vs σ2 h2) N R F) R F) : Ws (forL g body chk (v :: vs) σ h) N R F := by
  rw [forL, if_pos c, e]
  refine .mk' ?_
  have a := a.1
  revert a
  unfold WsD
  dsimp only
  cases body σ1 h with
  | none => exact id
  | some r =>
    cases r with
    | nx σ2 h2 => exact fun a => a.1
    | rt v h => exact id
    | ex c xs s h => exact id
end EV

/-! the defs of the text as the machine runs them (printed by gen.py) -/
namespace K70
open PySem EV
def dp_box_of_1 (C : Calls) (c : Nat) : Option (Nat × (List Val → M Val) × List Val) := match c with
  | 1 => some (2, C 2, [])
  | _ => none
def dp_boxes_0 (C : Calls) (c : Nat) : Option (Nat × (List Val → M Val) × List Val) := match c with
  | 1 => some (1, C 13, [])
  | _ => none
def dp_keeping_0 (C : Calls) (c : Nat) : Option (Nat × (List Val → M Val) × List Val) := match c with
  | 1 => some (1, C 14, [])
  | _ => none
def dp_look_1 (C : Calls) (c : Nat) : Option (Nat × (List Val → M Val) × List Val) := match c with
  | 1 => some (2, C 9, [])
  | _ => none
def dp_make_2 (C : Calls) (c : Nat) : Option (Nat × (List Val → M Val) × List Val) := match c with
  | 1 => some (4, C 3, [.non])
  | _ => none
def dp_see_to_room_0 (C : Calls) (c : Nat) : Option (Nat × (List Val → M Val) × List Val) := match c with
  | 1 => some (1, C 4, [])
  | _ => none
def dp_waits_0 (C : Calls) (c : Nat) : Option (Nat × (List Val → M Val) × List Val) := match c with
  | 1 => some (1, C 15, [])
  | _ => none
def dp_work_1 (C : Calls) (c : Nat) : Option (Nat × (List Val → M Val) × List Val) := match c with
  | 1 => some (2, C 12, [])
  | _ => none
/-- 0: Box.__init__(self, tag, parts); slots 0:self 1:tag 2:parts -/
def b_Box_init (C I : Calls) : SM :=
  (sSeq (sFld 0 (eVar 0) (eVar 1))
  (sSeq (sFld 1 (eVar 0) (eVar 2))
  (sFld 2 (eVar 0) (eC (.int 1)))))
/-- 1: Heap.__init__(self, size); slots 0:self 1:size -/
def b_Heap_init (C I : Calls) : SM :=
  (sSeq (sFld 3 (eVar 0) (eVar 1))
  (sSeq (sFld 4 (eVar 0) (eC (.int 0)))
  (sSeq (sFld 5 (eVar 0) (eC (.int 0)))
  (sSeq (sFld 6 (eVar 0) (eC (.int 0)))
  (sSeq (sFld 7 (eVar 0) eDct)
  (sFld 8 (eVar 0) eDct))))))
/-- 2: Heap.box_of(self, value); slots 0:self 1:value 2:box -/
def b_Heap_box_of (C I : Calls) : SM :=
  (sSeq (sIf (bNot (bV (eIsi (eVar 1) ["tuple"]))) (sRet (eC .non)) sNx)
  (sSeq (sSet 2 (eDGet1 (eOp1 (oFld 7) (eVar 0)) (eOp2 oIx (eVar 1) (eC (.int 1)))))
  (sSeq (sIf (bOr (bV (eOp1 oIsN (eVar 2))) (bV (eOp2 oEq (eOp1 (oFld 2) (eVar 2)) (eC (.int 0))))) sBad sNx)
  (sRet (eVar 2)))))
/-- 3: Heap.make(self, tag, parts, kept); slots 0:self 1:tag 2:parts 3:kept 4:at -/
def b_Heap_make (C I : Calls) : SM :=
  (sSeq (sIf (bV (eOp2 oEq (eFun oLen (aCons (eVar 2) aNil)) (eC (.int 0)))) (sRet (eVar 1)) sNx)
  (sSeq (sIf (bAnd (bV (eOp1 oNotN (eVar 3))) (bV (eOp2 oIn (eVar 3) (eOp1 (oFld 8) (eVar 0))))) (sSeq (sExpr (ePop1 (eOp1 (oFld 8) (eVar 0)) (eVar 3)))
  (sSeq (sFld 5 (eVar 0) (eOp2 oAddA (eOp1 (oFld 5) (eVar 0)) (eC (.int 1))))
  (sSet 4 (eVar 3)))) (sSeq (sExpr (eMeth (dp_see_to_room_0 C) (eVar 0) aNil))
  (sSeq (sSet 4 (eOp1 (oFld 4) (eVar 0)))
  (sFld 4 (eVar 0) (eOp2 oAddA (eOp1 (oFld 4) (eVar 0)) (eC (.int 1)))))))
  (sSeq (sSetIx (eOp1 (oFld 7) (eVar 0)) (eVar 4) (eMake 0 3 (I 0) [] (aCons (eVar 1) (aCons (eFun oList (aCons (eVar 2) aNil)) aNil))))
  (sSeq (sFld 6 (eVar 0) (eFun oMax (aCons (eOp1 (oFld 6) (eVar 0)) (aCons (eFun oLen (aCons (eOp1 (oFld 7) (eVar 0)) aNil)) aNil))))
  (sRet (eTup (aCons (eC (.str "box")) (aCons (eVar 4) aNil))))))))
/-- 4: Heap.see_to_room(self); slots 0:self -/
def b_Heap_see_to_room (C I : Calls) : SM :=
  (sSeq (sIf (bV (eOp2 oLt (eOp2 oAddA (eFun oLen (aCons (eOp1 (oFld 7) (eVar 0)) aNil)) (eFun oLen (aCons (eOp1 (oFld 8) (eVar 0)) aNil))) (eOp1 (oFld 3) (eVar 0)))) sRetN sNx)
  (sSeq (sIf (bV (eOp2 oEq (eMeth (dp_work_1 C) (eVar 0) (aCons (eC (.int 1)) aNil)) (eC (.int 1)))) sRetN sNx)
  (sSeq (sIf (bV (eOp2 oEq (eFun oLen (aCons (eOp1 (oFld 8) (eVar 0)) aNil)) (eC (.int 0)))) sBad sNx)
  (sExpr (ePop1 (eOp1 (oFld 8) (eVar 0)) (eFun oMin (aCons (eOp1 (oFld 8) (eVar 0)) aNil)))))))
/-- 9: Heap.look(self, value); slots 0:self 1:value 2:box -/
def b_Heap_look (C I : Calls) : SM :=
  (sSeq (sIf (bV (eIsi (eVar 1) ["str"])) (sRet (eTup (aCons (eVar 1) (aCons (eLst aNil) aNil)))) sNx)
  (sSeq (sSet 2 (eMeth (dp_box_of_1 C) (eVar 0) (aCons (eVar 1) aNil)))
  (sSeq (sIf (bV (eOp1 oIsN (eVar 2))) (sRet (eTup (aCons (eC (.str "")) (aCons (eLst aNil) aNil)))) sNx)
  (sRet (eTup (aCons (eOp1 (oFld 0) (eVar 2)) (aCons (eFun oList (aCons (eOp1 (oFld 1) (eVar 2)) aNil)) aNil)))))))
/-- 12: Heap.work(self, many); slots 0:self 1:many -/
def b_Heap_work (C I : Calls) : SM :=
  (sRet (eC (.int 0)))
/-- 13: Heap.boxes(self); slots 0:self 1:rows 2:at 3:box -/
def b_Heap_boxes (C I : Calls) : SM :=
  (sSeq (sSet 1 (eLst aNil))
  (sSeq (sFor (srcSeq (eFun oSorted (aCons (eOp1 (oFld 7) (eVar 0)) aNil))) (gN 2) (sSeq (sSet 3 (eOp2 oIx (eOp1 (oFld 7) (eVar 0)) (eVar 2)))
  (sExpr (eBM "list" oAppend (eVar 1) (aCons (eTup (aCons (eVar 2) (aCons (eOp1 (oFld 0) (eVar 3)) (aCons (eFun oList (aCons (eOp1 (oFld 1) (eVar 3)) aNil)) (aCons (eOp1 (oFld 2) (eVar 3)) aNil))))) aNil)))))
  (sRet (eVar 1))))
/-- 14: Heap.keeping(self); slots 0:self -/
def b_Heap_keeping (C I : Calls) : SM :=
  (sRet (eFun oSorted (aCons (eOp1 (oFld 8) (eVar 0)) aNil)))
/-- 15: Heap.waits(self); slots 0:self -/
def b_Heap_waits (C I : Calls) : SM :=
  (sRet (eLst aNil))
/-- 200: _law_alike(_law_found, _law_due); slots 0:_law_found 1:_law_due 2:_law_one 3:_law_other -/
def b_law_alike (C I : Calls) : SM :=
  (sSeq (sIf (bV (eIsi (eVar 1) ["list", "tuple"])) (sSeq (sIf (bOr (bV (eOp2 oNe (eIsi (eVar 0) ["list"]) (eIsi (eVar 1) ["list"]))) (bV (eOp2 oNe (eIsi (eVar 0) ["tuple"]) (eIsi (eVar 1) ["tuple"])))) (sRet (eC (.bl false))) sNx)
  (sRet (eAnd (eOp2 oEq (eFun oLen (aCons (eVar 0) aNil)) (eFun oLen (aCons (eVar 1) aNil))) (eFun oAll (aCons (eLc [2, 3] (srcZip (eVar 0) (eVar 1)) (ctT (.t [2, 3])) bYes (eCall 2 (C 200) [] (aCons (eVar 2) (aCons (eVar 3) aNil)))) aNil))))) sNx)
  (sSeq (sIf (bOr (bV (eOp2 oNe (eIsi (eVar 0) ["int"]) (eIsi (eVar 1) ["int"]))) (bV (eOp2 oNe (eIsi (eVar 0) ["bool"]) (eIsi (eVar 1) ["bool"])))) (sRet (eC (.bl false))) sNx)
  (sRet (eAnd (eOp2 oEq (eIsi (eVar 0) ["str"]) (eIsi (eVar 1) ["str"])) (eOp2 oEq (eVar 0) (eVar 1))))))
/-- 201: _law_name(_law_cell); slots 0:_law_cell 1:_law_letters 2:_law_found 3:_law_at 4:_law_k -/
def b_law_name (C I : Calls) : SM :=
  (sSeq (sSet 1 (eC (.str "abcdefghijklmnopqrstuvwxyz")))
  (sSeq (sSet 2 (eBM "str" oJoin (eC (.str "")) (aCons (eLc [4] (srcR1 (eOp2 oMod (eVar 0) (eC (.int 12)))) (ctT (.n 4)) bYes (eOp2 oIx (eVar 1) (eOp2 oMod (eOp2 oAddA (eOp2 oDiv (eVar 0) (eOp2 oAddA (eVar 4) (eC (.int 2)))) (eOp2 oMul (eVar 4) (eVar 4))) (eC (.int 26))))) aNil)))
  (sSeq (sSet 3 (eOp2 oMod (eOp2 oDiv (eVar 0) (eC (.int 12))) (eOp2 oAddA (eFun oLen (aCons (eVar 2) aNil)) (eC (.int 1)))))
  (sRet (eOp2 oAddA (eOp2 oAddA (eSl (eVar 2) pNo (pSome (eVar 3))) (eC (.str "z"))) (eSl (eVar 2) (pSome (eVar 3)) pNo))))))
/-- 202: _law_parts(_law_cell, _law_many_here); slots 0:_law_cell 1:_law_many_here 2:_law_parts_here 3:_law_k 4:_law_one -/
def b_law_parts (C I : Calls) : SM :=
  (sSeq (sSet 2 (eLst aNil))
  (sSeq (sFor (srcR1 (eVar 1)) (gN 3) (sSeq (sSet 4 (eOp2 oSub (eOp2 oMod (eOp2 oMul (eVar 0) (eOp2 oAddA (eC (.int 48271)) (eVar 3))) (eOp2 oSub (eOp2 oMul (eC (.int 2)) (eOp2 oPow (eC (.int 10)) (eC (.int 30)))) (eC (.int 1)))) (eOp2 oSub (eOp2 oPow (eC (.int 10)) (eC (.int 30))) (eC (.int 1)))))
  (sSeq (sIf (bV (eOp2 oEq (eOp2 oMod (eOp2 oAddA (eVar 0) (eVar 3)) (eC (.int 5))) (eC (.int 3)))) (sSet 4 (eCall 1 (C 201) [] (aCons (eOp2 oAddA (eOp2 oDiv (eVar 0) (eC (.int 5))) (eVar 3)) aNil))) sNx)
  (sExpr (eBM "list" oAppend (eVar 2) (aCons (eVar 4) aNil))))))
  (sRet (eVar 2))))
/-- 203: _law_many(_law_cell); slots 0:_law_cell -/
def b_law_many (C I : Calls) : SM :=
  (sRet (eOp2 oMod (eOp2 oDiv (eVar 0) (eC (.int 12))) (eC (.int 10))))
/-- 204: _law_made(_law_heap, _law_cell, _law_number); slots 0:_law_heap 1:_law_cell 2:_law_number 3:_law_tag 4:_law_parts_here 5:_law_handed 6:_law_found -/
def b_law_made (C I : Calls) : SM :=
  (sSeq (sSet 3 (eCall 1 (C 201) [] (aCons (eVar 1) aNil)))
  (sSeq (sSet 4 (eCall 2 (C 202) [] (aCons (eVar 1) (aCons (eCall 1 (C 203) [] (aCons (eVar 1) aNil)) aNil))))
  (sSeq (sSet 5 (eFun oList (aCons (eVar 4) aNil)))
  (sSeq (sSet 6 (eMeth (dp_make_2 C) (eVar 0) (aCons (eVar 3) (aCons (eVar 5) aNil))))
  (sSeq (sIf (bV (eOp2 oNe (eVar 5) (eVar 4))) (sRet (eC (.bl false))) sNx)
  (sSeq (sExpr (eBM "list" oAppend (eVar 5) (aCons (eC (.int 7)) aNil)))
  (sSeq (sIf (bV (eOp2 oEq (eVar 4) (eLst aNil))) (sRet (eAnd (eCall 2 (C 200) [] (aCons (eVar 6) (aCons (eVar 3) aNil))) (eCall 2 (C 200) [] (aCons (eMeth (dp_look_1 C) (eVar 0) (aCons (eVar 6) aNil)) (aCons (eTup (aCons (eVar 3) (aCons (eLst aNil) aNil))) aNil))))) sNx)
  (sRet (eCall 2 (C 200) [] (aCons (eVar 6) (aCons (eTup (aCons (eC (.str "box")) (aCons (eVar 2) aNil))) aNil)))))))))))
/-- 205: _law_told(_law_heap, _law_rows, _law_size); slots 0:_law_heap 1:_law_rows 2:_law_size 3:_law_found 4:_law_row 5:_law_seen 6:_law_fields -/
def b_law_told (C I : Calls) : SM :=
  (sSeq (sSet 3 (eMeth (dp_boxes_0 C) (eVar 0) aNil))
  (sSeq (sIf (bNot (bV (eCall 2 (C 200) [] (aCons (eVar 3) (aCons (eVar 1) aNil))))) (sRet (eC (.bl false))) sNx)
  (sSeq (sFor (srcSeq (eVar 3)) (gN 4) (sSeq (sSet 5 (eMeth (dp_look_1 C) (eVar 0) (aCons (eTup (aCons (eC (.str "box")) (aCons (eOp2 oIx (eVar 4) (eC (.int 0))) aNil))) aNil)))
  (sSeq (sIf (bNot (bV (eCall 2 (C 200) [] (aCons (eVar 5) (aCons (eTup (aCons (eOp2 oIx (eVar 4) (eC (.int 1))) (aCons (eOp2 oIx (eVar 4) (eC (.int 2))) aNil))) aNil))))) (sRet (eC (.bl false))) sNx)
  (sSeq (sExpr (eBM "list" oAppend (eOp2 oIx (eVar 5) (eC (.int 1))) (aCons (eC (.int 1)) aNil)))
  (sExpr (eBM "list" oAppend (eOp2 oIx (eVar 4) (eC (.int 2))) (aCons (eOp1 oNeg (eC (.int 1))) aNil)))))))
  (sSeq (sExpr (eBM "list" oAppend (eVar 3) (aCons (eC (.int 0)) aNil)))
  (sSeq (sExpr (eBM "list" oAppend (eMeth (dp_keeping_0 C) (eVar 0) aNil) (aCons (eC (.int 0)) aNil)))
  (sSeq (sExpr (eBM "list" oAppend (eMeth (dp_waits_0 C) (eVar 0) aNil) (aCons (eC (.int 0)) aNil)))
  (sSeq (sSet 6 (eLst (aCons (eOp1 (oFld 3) (eVar 0)) (aCons (eOp1 (oFld 4) (eVar 0)) (aCons (eOp1 (oFld 6) (eVar 0)) (aCons (eOp1 (oFld 5) (eVar 0)) (aCons (eMeth (dp_keeping_0 C) (eVar 0) aNil) (aCons (eMeth (dp_waits_0 C) (eVar 0) aNil) (aCons (eMeth (dp_work_1 C) (eVar 0) (aCons (eC (.int 5)) aNil)) aNil)))))))))
  (sRet (eAnd (eCall 2 (C 200) [] (aCons (eVar 6) (aCons (eLst (aCons (eVar 2) (aCons (eFun oLen (aCons (eVar 1) aNil)) (aCons (eFun oLen (aCons (eVar 1) aNil)) (aCons (eC (.int 0)) (aCons (eLst aNil) (aCons (eLst aNil) (aCons (eC (.int 0)) aNil)))))))) aNil))) (eCall 2 (C 200) [] (aCons (eMeth (dp_boxes_0 C) (eVar 0) aNil) (aCons (eVar 1) aNil))))))))))))
/-- 206: law(_law_script); slots 0:_law_script 1:_law_cells 2:_law_rows 3:_law_cell 4:_law_size 5:_law_heaps 6:_law_number 7:_law_heap -/
def b_law (C I : Calls) : SM :=
  (sSeq (sSet 1 (eSl (eVar 0) pNo (pSome (eC (.int 63)))))
  (sSeq (sSet 2 (eLst aNil))
  (sSeq (sFor (srcSeq (eVar 1)) (gN 3) (sIf (bV (eOp2 oGt (eCall 1 (C 203) [] (aCons (eVar 3) aNil)) (eC (.int 0)))) (sExpr (eBM "list" oAppend (eVar 2) (aCons (eTup (aCons (eFun oLen (aCons (eVar 2) aNil)) (aCons (eCall 1 (C 201) [] (aCons (eVar 3) aNil)) (aCons (eCall 2 (C 202) [] (aCons (eVar 3) (aCons (eCall 1 (C 203) [] (aCons (eVar 3) aNil)) aNil))) (aCons (eC (.int 1)) aNil))))) aNil))) sNx))
  (sSeq (sSet 4 (eOp2 oIx (eLst (aCons (eOp2 oPow (eC (.int 10)) (eC (.int 18))) (aCons (eFun oLen (aCons (eVar 2) aNil)) aNil))) (eOp2 oMod (eFun oSum (aCons (eVar 1) aNil)) (eC (.int 2)))))
  (sSeq (sSet 5 (eLst (aCons (eMake 1 2 (I 1) [] (aCons (eOp2 oPow (eC (.int 10)) (eC (.int 18))) aNil)) (aCons (eMake 1 2 (I 1) [] (aCons (eVar 4) aNil)) aNil))))
  (sSeq (sSet 6 (eC (.int 0)))
  (sSeq (sFor (srcSeq (eVar 1)) (gN 3) (sSeq (sFor (srcSeq (eVar 5)) (gN 7) (sIf (bNot (bV (eCall 3 (C 204) [] (aCons (eVar 7) (aCons (eVar 3) (aCons (eVar 6) aNil)))))) (sRet (eC (.bl false))) sNx))
  (sSet 6 (eOp2 oAddA (eVar 6) (eFun oInt (aCons (eOp2 oGt (eCall 1 (C 203) [] (aCons (eVar 3) aNil)) (eC (.int 0))) aNil))))))
  (sRet (eAnd (eCall 3 (C 205) [] (aCons (eOp2 oIx (eVar 5) (eC (.int 0))) (aCons (eVar 2) (aCons (eOp2 oPow (eC (.int 10)) (eC (.int 18))) aNil)))) (eCall 3 (C 205) [] (aCons (eOp2 oIx (eVar 5) (eC (.int 1))) (aCons (eVar 2) (aCons (eVar 4) aNil)))))))))))))
def D (C I : Calls) : Calls := fun i => match i with
  | 0 => fnOf 3 3 (b_Box_init C I)
  | 1 => fnOf 2 2 (b_Heap_init C I)
  | 2 => fnOf 3 2 (b_Heap_box_of C I)
  | 3 => fnOf 5 4 (b_Heap_make C I)
  | 4 => fnOf 1 1 (b_Heap_see_to_room C I)
  | 9 => fnOf 3 2 (b_Heap_look C I)
  | 12 => fnOf 2 2 (b_Heap_work C I)
  | 13 => fnOf 4 1 (b_Heap_boxes C I)
  | 14 => fnOf 1 1 (b_Heap_keeping C I)
  | 15 => fnOf 1 1 (b_Heap_waits C I)
  | 200 => fnOf 4 2 (b_law_alike C I)
  | 201 => fnOf 5 1 (b_law_name C I)
  | 202 => fnOf 5 2 (b_law_parts C I)
  | 203 => fnOf 1 1 (b_law_many C I)
  | 204 => fnOf 7 3 (b_law_made C I)
  | 205 => fnOf 7 3 (b_law_told C I)
  | 206 => fnOf 8 1 (b_law C I)
  | _ => fun _ => mBad
theorem c_Box_init (n : Nat) (as : List Val) : callN D (n + 1) 0 as = fnOf 3 3 (b_Box_init (callN D n) (callM D n)) as := rfl
theorem c_Heap_init (n : Nat) (as : List Val) : callN D (n + 1) 1 as = fnOf 2 2 (b_Heap_init (callN D n) (callM D n)) as := rfl
theorem c_Heap_box_of (n : Nat) (as : List Val) : callN D (n + 1) 2 as = fnOf 3 2 (b_Heap_box_of (callN D n) (callM D n)) as := rfl
theorem c_Heap_make (n : Nat) (as : List Val) : callN D (n + 1) 3 as = fnOf 5 4 (b_Heap_make (callN D n) (callM D n)) as := rfl
theorem c_Heap_see_to_room (n : Nat) (as : List Val) : callN D (n + 1) 4 as = fnOf 1 1 (b_Heap_see_to_room (callN D n) (callM D n)) as := rfl
theorem c_Heap_look (n : Nat) (as : List Val) : callN D (n + 1) 9 as = fnOf 3 2 (b_Heap_look (callN D n) (callM D n)) as := rfl
theorem c_Heap_work (n : Nat) (as : List Val) : callN D (n + 1) 12 as = fnOf 2 2 (b_Heap_work (callN D n) (callM D n)) as := rfl
theorem c_Heap_boxes (n : Nat) (as : List Val) : callN D (n + 1) 13 as = fnOf 4 1 (b_Heap_boxes (callN D n) (callM D n)) as := rfl
theorem c_Heap_keeping (n : Nat) (as : List Val) : callN D (n + 1) 14 as = fnOf 1 1 (b_Heap_keeping (callN D n) (callM D n)) as := rfl
theorem c_Heap_waits (n : Nat) (as : List Val) : callN D (n + 1) 15 as = fnOf 1 1 (b_Heap_waits (callN D n) (callM D n)) as := rfl
theorem c_law_alike (n : Nat) (as : List Val) : callN D (n + 1) 200 as = fnOf 4 2 (b_law_alike (callN D n) (callM D n)) as := rfl
theorem c_law_name (n : Nat) (as : List Val) : callN D (n + 1) 201 as = fnOf 5 1 (b_law_name (callN D n) (callM D n)) as := rfl
theorem c_law_parts (n : Nat) (as : List Val) : callN D (n + 1) 202 as = fnOf 5 2 (b_law_parts (callN D n) (callM D n)) as := rfl
theorem c_law_many (n : Nat) (as : List Val) : callN D (n + 1) 203 as = fnOf 1 1 (b_law_many (callN D n) (callM D n)) as := rfl
theorem c_law_made (n : Nat) (as : List Val) : callN D (n + 1) 204 as = fnOf 7 3 (b_law_made (callN D n) (callM D n)) as := rfl
theorem c_law_told (n : Nat) (as : List Val) : callN D (n + 1) 205 as = fnOf 7 3 (b_law_told (callN D n) (callM D n)) as := rfl
theorem c_law (n : Nat) (as : List Val) : callN D (n + 1) 206 as = fnOf 8 1 (b_law (callN D n) (callM D n)) as := rfl
end K70

set_option maxHeartbeats 4000000
/-! the derivations (printed by gen.py) -/
namespace K70
open PySem PySem.Spec L2 EV
def top (i : Nat) : Stmt := PySem.Challenge.pw_reusewise_k70_boxes_made.main.body.getD i (.Pass ⟨0, 0, 0, 0⟩)
abbrev st_0 : Stmt := inClass (top 6) 0
abbrev N_0 : List Str := ["self", "tag", "parts"]
theorem sc_0 : FnScope N_0 ["self", "tag", "parts"] (defScope st_0) := ⟨rfl, rfl, rfl, by decide +kernel, rfl, by decide +kernel, by decide +kernel⟩
abbrev st_1 : Stmt := inClass (top 7) 0
abbrev N_1 : List Str := ["self", "size"]
theorem sc_1 : FnScope N_1 ["self", "size"] (defScope st_1) := ⟨rfl, rfl, rfl, by decide +kernel, rfl, by decide +kernel, by decide +kernel⟩
abbrev st_2 : Stmt := inClass (top 7) 1
abbrev N_2 : List Str := ["self", "value", "box"]
theorem sc_2 : FnScope N_2 ["self", "value"] (defScope st_2) := ⟨rfl, rfl, rfl, by decide +kernel, rfl, by decide +kernel, by decide +kernel⟩
abbrev st_3 : Stmt := inClass (top 7) 2
abbrev N_3 : List Str := ["self", "tag", "parts", "kept", "at"]
theorem sc_3 : FnScope N_3 ["self", "tag", "parts", "kept"] (defScope st_3) := ⟨rfl, rfl, rfl, by decide +kernel, rfl, by decide +kernel, by decide +kernel⟩
abbrev st_4 : Stmt := inClass (top 7) 3
abbrev N_4 : List Str := ["self"]
theorem sc_4 : FnScope N_4 ["self"] (defScope st_4) := ⟨rfl, rfl, rfl, by decide +kernel, rfl, by decide +kernel, by decide +kernel⟩
abbrev st_9 : Stmt := inClass (top 7) 8
abbrev N_9 : List Str := ["self", "value", "box"]
theorem sc_9 : FnScope N_9 ["self", "value"] (defScope st_9) := ⟨rfl, rfl, rfl, by decide +kernel, rfl, by decide +kernel, by decide +kernel⟩
abbrev st_12 : Stmt := inClass (top 7) 11
abbrev N_12 : List Str := ["self", "many"]
theorem sc_12 : FnScope N_12 ["self", "many"] (defScope st_12) := ⟨rfl, rfl, rfl, by decide +kernel, rfl, by decide +kernel, by decide +kernel⟩
abbrev st_13 : Stmt := inClass (top 7) 12
abbrev N_13 : List Str := ["self", "rows", "at", "box"]
theorem sc_13 : FnScope N_13 ["self"] (defScope st_13) := ⟨rfl, rfl, rfl, by decide +kernel, rfl, by decide +kernel, by decide +kernel⟩
abbrev st_14 : Stmt := inClass (top 7) 13
abbrev N_14 : List Str := ["self"]
theorem sc_14 : FnScope N_14 ["self"] (defScope st_14) := ⟨rfl, rfl, rfl, by decide +kernel, rfl, by decide +kernel, by decide +kernel⟩
abbrev st_15 : Stmt := inClass (top 7) 14
abbrev N_15 : List Str := ["self"]
theorem sc_15 : FnScope N_15 ["self"] (defScope st_15) := ⟨rfl, rfl, rfl, by decide +kernel, rfl, by decide +kernel, by decide +kernel⟩
abbrev st_200 : Stmt := top 9
abbrev N_200 : List Str := ["_law_found", "_law_due", "_law_one", "_law_other"]
theorem sc_200 : FnScope N_200 ["_law_found", "_law_due"] (defScope st_200) := ⟨rfl, rfl, rfl, by decide +kernel, rfl, by decide +kernel, by decide +kernel⟩
abbrev st_201 : Stmt := top 10
abbrev N_201 : List Str := ["_law_cell", "_law_letters", "_law_found", "_law_at", "_law_k"]
theorem sc_201 : FnScope N_201 ["_law_cell"] (defScope st_201) := ⟨rfl, rfl, rfl, by decide +kernel, rfl, by decide +kernel, by decide +kernel⟩
abbrev st_202 : Stmt := top 11
abbrev N_202 : List Str := ["_law_cell", "_law_many_here", "_law_parts_here", "_law_k", "_law_one"]
theorem sc_202 : FnScope N_202 ["_law_cell", "_law_many_here"] (defScope st_202) := ⟨rfl, rfl, rfl, by decide +kernel, rfl, by decide +kernel, by decide +kernel⟩
abbrev st_203 : Stmt := top 12
abbrev N_203 : List Str := ["_law_cell"]
theorem sc_203 : FnScope N_203 ["_law_cell"] (defScope st_203) := ⟨rfl, rfl, rfl, by decide +kernel, rfl, by decide +kernel, by decide +kernel⟩
abbrev st_204 : Stmt := top 13
abbrev N_204 : List Str := ["_law_heap", "_law_cell", "_law_number", "_law_tag", "_law_parts_here", "_law_handed", "_law_found"]
theorem sc_204 : FnScope N_204 ["_law_heap", "_law_cell", "_law_number"] (defScope st_204) := ⟨rfl, rfl, rfl, by decide +kernel, rfl, by decide +kernel, by decide +kernel⟩
abbrev st_205 : Stmt := top 14
abbrev N_205 : List Str := ["_law_heap", "_law_rows", "_law_size", "_law_found", "_law_row", "_law_seen", "_law_fields"]
theorem sc_205 : FnScope N_205 ["_law_heap", "_law_rows", "_law_size"] (defScope st_205) := ⟨rfl, rfl, rfl, by decide +kernel, rfl, by decide +kernel, by decide +kernel⟩
abbrev st_206 : Stmt := top 15
abbrev N_206 : List Str := ["_law_script", "_law_cells", "_law_rows", "_law_cell", "_law_size", "_law_heaps", "_law_number", "_law_heap"]
theorem sc_206 : FnScope N_206 ["_law_script"] (defScope st_206) := ⟨rfl, rfl, rfl, by decide +kernel, rfl, by decide +kernel, by decide +kernel⟩
def fnmL : List Str := ["tag", "parts", "count", "size", "fresh", "anew", "peak", "there", "kept"]
def fnmF (i : Nat) : Str := fnmL.getD i "tag"
def psT (i : Nat) : List Str := match i with
  | 0 => (["self", "tag", "parts"] : List Str)
  | 1 => (["self", "size"] : List Str)
  | 2 => (["self", "value"] : List Str)
  | 3 => (["self", "tag", "parts", "kept"] : List Str)
  | 4 => (["self"] : List Str)
  | 9 => (["self", "value"] : List Str)
  | 12 => (["self", "many"] : List Str)
  | 13 => (["self"] : List Str)
  | 14 => (["self"] : List Str)
  | 15 => (["self"] : List Str)
  | 200 => (["_law_found", "_law_due"] : List Str)
  | 201 => (["_law_cell"] : List Str)
  | 202 => (["_law_cell", "_law_many_here"] : List Str)
  | 203 => (["_law_cell"] : List Str)
  | 204 => (["_law_heap", "_law_cell", "_law_number"] : List Str)
  | 205 => (["_law_heap", "_law_rows", "_law_size"] : List Str)
  | 206 => (["_law_script"] : List Str)
  | _ => []
structure Tx (K : PySem.W.Frag) (mg : Str → Option Value) (T : Tabs) (F : Fns) : Prop where
  cf : CF K T
  fn : T.fnm = fnmF
  nf : T.nf = fnmL.length
  ps : F.ps = psT
  z_all : mg "all" = none
  z_bool : mg "bool" = none
  z_int : mg "int" = none
  z_isinstance : mg "isinstance" = none
  z_len : mg "len" = none
  z_list : mg "list" = none
  z_max : mg "max" = none
  z_min : mg "min" = none
  z_range : mg "range" = none
  z_sorted : mg "sorted" = none
  z_str : mg "str" = none
  z_sum : mg "sum" = none
  z_tuple : mg "tuple" = none
  z_zip : mg "zip" = none
  f_0 : Fun K "__init__" "Box.__init__" st_0 (F.fa 0) (F.fd 0)
  b_0 : Binds K (F.fd 0) (F.ps 0) []
  f_1 : Fun K "__init__" "Heap.__init__" st_1 (F.fa 1) (F.fd 1)
  b_1 : Binds K (F.fd 1) (F.ps 1) []
  f_2 : Fun K "box_of" "Heap.box_of" st_2 (F.fa 2) (F.fd 2)
  b_2 : Binds K (F.fd 2) (F.ps 2) []
  f_3 : FunD K "make" "Heap.make" (defArgs st_3) (defBody st_3) (defScope st_3) [V.non] [] (F.fa 3) (F.fd 3)
  b_3 : Binds K (F.fd 3) (F.ps 3) []
  bd_3_1 : ∃ ds, Vals [V.non] ds ∧ Binds K (F.fd 3) (F.ps 3) ds
  f_4 : Fun K "see_to_room" "Heap.see_to_room" st_4 (F.fa 4) (F.fd 4)
  b_4 : Binds K (F.fd 4) (F.ps 4) []
  f_9 : Fun K "look" "Heap.look" st_9 (F.fa 9) (F.fd 9)
  b_9 : Binds K (F.fd 9) (F.ps 9) []
  f_12 : Fun K "work" "Heap.work" st_12 (F.fa 12) (F.fd 12)
  b_12 : Binds K (F.fd 12) (F.ps 12) []
  f_13 : Fun K "boxes" "Heap.boxes" st_13 (F.fa 13) (F.fd 13)
  b_13 : Binds K (F.fd 13) (F.ps 13) []
  f_14 : Fun K "keeping" "Heap.keeping" st_14 (F.fa 14) (F.fd 14)
  b_14 : Binds K (F.fd 14) (F.ps 14) []
  f_15 : Fun K "waits" "Heap.waits" st_15 (F.fa 15) (F.fd 15)
  b_15 : Binds K (F.fd 15) (F.ps 15) []
  f_200 : Fun K "_law_alike" "_law_alike" st_200 (F.fa 200) (F.fd 200)
  b_200 : Binds K (F.fd 200) (F.ps 200) []
  m_200 : mg "_law_alike" = some (.ref (F.fa 200))
  k_200 : PySem.W.keepIn K (.ref (F.fa 200)) = true
  f_201 : Fun K "_law_name" "_law_name" st_201 (F.fa 201) (F.fd 201)
  b_201 : Binds K (F.fd 201) (F.ps 201) []
  m_201 : mg "_law_name" = some (.ref (F.fa 201))
  k_201 : PySem.W.keepIn K (.ref (F.fa 201)) = true
  f_202 : Fun K "_law_parts" "_law_parts" st_202 (F.fa 202) (F.fd 202)
  b_202 : Binds K (F.fd 202) (F.ps 202) []
  m_202 : mg "_law_parts" = some (.ref (F.fa 202))
  k_202 : PySem.W.keepIn K (.ref (F.fa 202)) = true
  f_203 : Fun K "_law_many" "_law_many" st_203 (F.fa 203) (F.fd 203)
  b_203 : Binds K (F.fd 203) (F.ps 203) []
  m_203 : mg "_law_many" = some (.ref (F.fa 203))
  k_203 : PySem.W.keepIn K (.ref (F.fa 203)) = true
  f_204 : Fun K "_law_made" "_law_made" st_204 (F.fa 204) (F.fd 204)
  b_204 : Binds K (F.fd 204) (F.ps 204) []
  m_204 : mg "_law_made" = some (.ref (F.fa 204))
  k_204 : PySem.W.keepIn K (.ref (F.fa 204)) = true
  f_205 : Fun K "_law_told" "_law_told" st_205 (F.fa 205) (F.fd 205)
  b_205 : Binds K (F.fd 205) (F.ps 205) []
  m_205 : mg "_law_told" = some (.ref (F.fa 205))
  k_205 : PySem.W.keepIn K (.ref (F.fa 205)) = true
  f_206 : Fun K "law" "law" st_206 (F.fa 206) (F.fd 206)
  b_206 : Binds K (F.fd 206) (F.ps 206) []
  m_206 : mg "law" = some (.ref (F.fa 206))
  k_206 : PySem.W.keepIn K (.ref (F.fa 206)) = true
  g_Box : mg "Box" = some (.ref (T.cls 0))
  mk_Box : Mk K (T.cls 0) (F.fa 0)
  g_Heap : mg "Heap" = some (.ref (T.cls 1))
  mk_Heap : Mk K (T.cls 1) (F.fa 1)
  me_Heap_box_of : Meth K (T.cls 1) "box_of" (F.fa 2)
  me_Heap_boxes : Meth K (T.cls 1) "boxes" (F.fa 13)
  me_Heap_keeping : Meth K (T.cls 1) "keeping" (F.fa 14)
  me_Heap_look : Meth K (T.cls 1) "look" (F.fa 9)
  me_Heap_make : Meth K (T.cls 1) "make" (F.fa 3)
  me_Heap_see_to_room : Meth K (T.cls 1) "see_to_room" (F.fa 4)
  me_Heap_waits : Meth K (T.cls 1) "waits" (F.fa 15)
  me_Heap_work : Meth K (T.cls 1) "work" (F.fa 12)
theorem Tx.no_box_of {K : PySem.W.Frag} {mg : Str → Option Value} {T : Tabs} {F : Fns} (t : Tx K mg T F) : ∀ j, j < T.nf → T.fnm j ≠ ("box_of" : Str) := by rw [t.fn, t.nf]; exact getD_all (l := fnmL) (p := fun x => x ≠ ("box_of" : Str)) (by decide +kernel)
theorem Tx.no_boxes {K : PySem.W.Frag} {mg : Str → Option Value} {T : Tabs} {F : Fns} (t : Tx K mg T F) : ∀ j, j < T.nf → T.fnm j ≠ ("boxes" : Str) := by rw [t.fn, t.nf]; exact getD_all (l := fnmL) (p := fun x => x ≠ ("boxes" : Str)) (by decide +kernel)
theorem Tx.no_keeping {K : PySem.W.Frag} {mg : Str → Option Value} {T : Tabs} {F : Fns} (t : Tx K mg T F) : ∀ j, j < T.nf → T.fnm j ≠ ("keeping" : Str) := by rw [t.fn, t.nf]; exact getD_all (l := fnmL) (p := fun x => x ≠ ("keeping" : Str)) (by decide +kernel)
theorem Tx.no_look {K : PySem.W.Frag} {mg : Str → Option Value} {T : Tabs} {F : Fns} (t : Tx K mg T F) : ∀ j, j < T.nf → T.fnm j ≠ ("look" : Str) := by rw [t.fn, t.nf]; exact getD_all (l := fnmL) (p := fun x => x ≠ ("look" : Str)) (by decide +kernel)
theorem Tx.no_make {K : PySem.W.Frag} {mg : Str → Option Value} {T : Tabs} {F : Fns} (t : Tx K mg T F) : ∀ j, j < T.nf → T.fnm j ≠ ("make" : Str) := by rw [t.fn, t.nf]; exact getD_all (l := fnmL) (p := fun x => x ≠ ("make" : Str)) (by decide +kernel)
theorem Tx.no_see_to_room {K : PySem.W.Frag} {mg : Str → Option Value} {T : Tabs} {F : Fns} (t : Tx K mg T F) : ∀ j, j < T.nf → T.fnm j ≠ ("see_to_room" : Str) := by rw [t.fn, t.nf]; exact getD_all (l := fnmL) (p := fun x => x ≠ ("see_to_room" : Str)) (by decide +kernel)
theorem Tx.no_waits {K : PySem.W.Frag} {mg : Str → Option Value} {T : Tabs} {F : Fns} (t : Tx K mg T F) : ∀ j, j < T.nf → T.fnm j ≠ ("waits" : Str) := by rw [t.fn, t.nf]; exact getD_all (l := fnmL) (p := fun x => x ≠ ("waits" : Str)) (by decide +kernel)
theorem Tx.no_work {K : PySem.W.Frag} {mg : Str → Option Value} {T : Tabs} {F : Fns} (t : Tx K mg T F) : ∀ j, j < T.nf → T.fnm j ≠ ("work" : Str) := by rw [t.fn, t.nf]; exact getD_all (l := fnmL) (p := fun x => x ≠ ("work" : Str)) (by decide +kernel)
theorem Tx.n_tag {K : PySem.W.Frag} {mg : Str → Option Value} {T : Tabs} {F : Fns} (t : Tx K mg T F) : T.fnm 0 = "tag" := by rw [t.fn]; rfl
theorem Tx.lt_tag {K : PySem.W.Frag} {mg : Str → Option Value} {T : Tabs} {F : Fns} (t : Tx K mg T F) : 0 < T.nf := by rw [t.nf]; decide
theorem Tx.n_parts {K : PySem.W.Frag} {mg : Str → Option Value} {T : Tabs} {F : Fns} (t : Tx K mg T F) : T.fnm 1 = "parts" := by rw [t.fn]; rfl
theorem Tx.lt_parts {K : PySem.W.Frag} {mg : Str → Option Value} {T : Tabs} {F : Fns} (t : Tx K mg T F) : 1 < T.nf := by rw [t.nf]; decide
theorem Tx.n_count {K : PySem.W.Frag} {mg : Str → Option Value} {T : Tabs} {F : Fns} (t : Tx K mg T F) : T.fnm 2 = "count" := by rw [t.fn]; rfl
theorem Tx.lt_count {K : PySem.W.Frag} {mg : Str → Option Value} {T : Tabs} {F : Fns} (t : Tx K mg T F) : 2 < T.nf := by rw [t.nf]; decide
theorem Tx.n_size {K : PySem.W.Frag} {mg : Str → Option Value} {T : Tabs} {F : Fns} (t : Tx K mg T F) : T.fnm 3 = "size" := by rw [t.fn]; rfl
theorem Tx.lt_size {K : PySem.W.Frag} {mg : Str → Option Value} {T : Tabs} {F : Fns} (t : Tx K mg T F) : 3 < T.nf := by rw [t.nf]; decide
theorem Tx.n_fresh {K : PySem.W.Frag} {mg : Str → Option Value} {T : Tabs} {F : Fns} (t : Tx K mg T F) : T.fnm 4 = "fresh" := by rw [t.fn]; rfl
theorem Tx.lt_fresh {K : PySem.W.Frag} {mg : Str → Option Value} {T : Tabs} {F : Fns} (t : Tx K mg T F) : 4 < T.nf := by rw [t.nf]; decide
theorem Tx.n_anew {K : PySem.W.Frag} {mg : Str → Option Value} {T : Tabs} {F : Fns} (t : Tx K mg T F) : T.fnm 5 = "anew" := by rw [t.fn]; rfl
theorem Tx.lt_anew {K : PySem.W.Frag} {mg : Str → Option Value} {T : Tabs} {F : Fns} (t : Tx K mg T F) : 5 < T.nf := by rw [t.nf]; decide
theorem Tx.n_peak {K : PySem.W.Frag} {mg : Str → Option Value} {T : Tabs} {F : Fns} (t : Tx K mg T F) : T.fnm 6 = "peak" := by rw [t.fn]; rfl
theorem Tx.lt_peak {K : PySem.W.Frag} {mg : Str → Option Value} {T : Tabs} {F : Fns} (t : Tx K mg T F) : 6 < T.nf := by rw [t.nf]; decide
theorem Tx.n_there {K : PySem.W.Frag} {mg : Str → Option Value} {T : Tabs} {F : Fns} (t : Tx K mg T F) : T.fnm 7 = "there" := by rw [t.fn]; rfl
theorem Tx.lt_there {K : PySem.W.Frag} {mg : Str → Option Value} {T : Tabs} {F : Fns} (t : Tx K mg T F) : 7 < T.nf := by rw [t.nf]; decide
theorem Tx.n_kept {K : PySem.W.Frag} {mg : Str → Option Value} {T : Tabs} {F : Fns} (t : Tx K mg T F) : T.fnm 8 = "kept" := by rw [t.fn]; rfl
theorem Tx.lt_kept {K : PySem.W.Frag} {mg : Str → Option Value} {T : Tabs} {F : Fns} (t : Tx K mg T F) : 8 < T.nf := by rw [t.nf]; decide
theorem Tx.np_0 {K : PySem.W.Frag} {mg : Str → Option Value} {T : Tabs} {F : Fns} (t : Tx K mg T F) : (F.ps 0).length = 3 := by rw [t.ps]; rfl
theorem Tx.np_1 {K : PySem.W.Frag} {mg : Str → Option Value} {T : Tabs} {F : Fns} (t : Tx K mg T F) : (F.ps 1).length = 2 := by rw [t.ps]; rfl
theorem Tx.np_2 {K : PySem.W.Frag} {mg : Str → Option Value} {T : Tabs} {F : Fns} (t : Tx K mg T F) : (F.ps 2).length = 2 := by rw [t.ps]; rfl
theorem Tx.np_3 {K : PySem.W.Frag} {mg : Str → Option Value} {T : Tabs} {F : Fns} (t : Tx K mg T F) : (F.ps 3).length = 4 := by rw [t.ps]; rfl
theorem Tx.np_4 {K : PySem.W.Frag} {mg : Str → Option Value} {T : Tabs} {F : Fns} (t : Tx K mg T F) : (F.ps 4).length = 1 := by rw [t.ps]; rfl
theorem Tx.np_9 {K : PySem.W.Frag} {mg : Str → Option Value} {T : Tabs} {F : Fns} (t : Tx K mg T F) : (F.ps 9).length = 2 := by rw [t.ps]; rfl
theorem Tx.np_12 {K : PySem.W.Frag} {mg : Str → Option Value} {T : Tabs} {F : Fns} (t : Tx K mg T F) : (F.ps 12).length = 2 := by rw [t.ps]; rfl
theorem Tx.np_13 {K : PySem.W.Frag} {mg : Str → Option Value} {T : Tabs} {F : Fns} (t : Tx K mg T F) : (F.ps 13).length = 1 := by rw [t.ps]; rfl
theorem Tx.np_14 {K : PySem.W.Frag} {mg : Str → Option Value} {T : Tabs} {F : Fns} (t : Tx K mg T F) : (F.ps 14).length = 1 := by rw [t.ps]; rfl
theorem Tx.np_15 {K : PySem.W.Frag} {mg : Str → Option Value} {T : Tabs} {F : Fns} (t : Tx K mg T F) : (F.ps 15).length = 1 := by rw [t.ps]; rfl
theorem Tx.np_200 {K : PySem.W.Frag} {mg : Str → Option Value} {T : Tabs} {F : Fns} (t : Tx K mg T F) : (F.ps 200).length = 2 := by rw [t.ps]; rfl
theorem Tx.np_201 {K : PySem.W.Frag} {mg : Str → Option Value} {T : Tabs} {F : Fns} (t : Tx K mg T F) : (F.ps 201).length = 1 := by rw [t.ps]; rfl
theorem Tx.np_202 {K : PySem.W.Frag} {mg : Str → Option Value} {T : Tabs} {F : Fns} (t : Tx K mg T F) : (F.ps 202).length = 2 := by rw [t.ps]; rfl
theorem Tx.np_203 {K : PySem.W.Frag} {mg : Str → Option Value} {T : Tabs} {F : Fns} (t : Tx K mg T F) : (F.ps 203).length = 1 := by rw [t.ps]; rfl
theorem Tx.np_204 {K : PySem.W.Frag} {mg : Str → Option Value} {T : Tabs} {F : Fns} (t : Tx K mg T F) : (F.ps 204).length = 3 := by rw [t.ps]; rfl
theorem Tx.np_205 {K : PySem.W.Frag} {mg : Str → Option Value} {T : Tabs} {F : Fns} (t : Tx K mg T F) : (F.ps 205).length = 3 := by rw [t.ps]; rfl
theorem Tx.np_206 {K : PySem.W.Frag} {mg : Str → Option Value} {T : Tabs} {F : Fns} (t : Tx K mg T F) : (F.ps 206).length = 1 := by rw [t.ps]; rfl
theorem dvs_3_1 {K : PySem.W.Frag} {ρ : List Addr} {H : Hp} : VRs K ρ H [.non] [V.non] := ⟨_, _, rfl, rfl, rfl⟩
section
variable {P : Program} {w : World} {K : PySem.W.Frag} {mg : Str → Option Value} {base : Heap} {T : Tabs} {F : Fns} {k : Nat} {C I : Calls}
theorem mo_box_of_1 (t : Tx K mg T F) (A : Lv P w K mg base T F k C) : ∀ c np fm dv, dp_box_of_1 C c = some (np, fm, dv) → MOk P w K mg base T k "box_of" c np fm dv := by
  intro c np fm dv e
  unfold dp_box_of_1 at e
  split at e
  · cases e; exact ⟨F.fa 2, F.fd 2, F.ps 2, _, _, t.me_Heap_box_of, A.at 2 t.np_2, t.b_2, .nil, fun _ _ => rfl⟩
  · cases e
theorem mo_boxes_0 (t : Tx K mg T F) (A : Lv P w K mg base T F k C) : ∀ c np fm dv, dp_boxes_0 C c = some (np, fm, dv) → MOk P w K mg base T k "boxes" c np fm dv := by
  intro c np fm dv e
  unfold dp_boxes_0 at e
  split at e
  · cases e; exact ⟨F.fa 13, F.fd 13, F.ps 13, _, _, t.me_Heap_boxes, A.at 13 t.np_13, t.b_13, .nil, fun _ _ => rfl⟩
  · cases e
theorem mo_keeping_0 (t : Tx K mg T F) (A : Lv P w K mg base T F k C) : ∀ c np fm dv, dp_keeping_0 C c = some (np, fm, dv) → MOk P w K mg base T k "keeping" c np fm dv := by
  intro c np fm dv e
  unfold dp_keeping_0 at e
  split at e
  · cases e; exact ⟨F.fa 14, F.fd 14, F.ps 14, _, _, t.me_Heap_keeping, A.at 14 t.np_14, t.b_14, .nil, fun _ _ => rfl⟩
  · cases e
theorem mo_look_1 (t : Tx K mg T F) (A : Lv P w K mg base T F k C) : ∀ c np fm dv, dp_look_1 C c = some (np, fm, dv) → MOk P w K mg base T k "look" c np fm dv := by
  intro c np fm dv e
  unfold dp_look_1 at e
  split at e
  · cases e; exact ⟨F.fa 9, F.fd 9, F.ps 9, _, _, t.me_Heap_look, A.at 9 t.np_9, t.b_9, .nil, fun _ _ => rfl⟩
  · cases e
theorem mo_make_2 (t : Tx K mg T F) (A : Lv P w K mg base T F k C) : ∀ c np fm dv, dp_make_2 C c = some (np, fm, dv) → MOk P w K mg base T k "make" c np fm dv := by
  intro c np fm dv e
  unfold dp_make_2 at e
  split at e
  · cases e; exact ⟨F.fa 3, F.fd 3, F.ps 3, _, _, t.me_Heap_make, A.at 3 t.np_3, (t.bd_3_1).choose_spec.2, (t.bd_3_1).choose_spec.1, fun _ _ => dvs_3_1⟩
  · cases e
theorem mo_see_to_room_0 (t : Tx K mg T F) (A : Lv P w K mg base T F k C) : ∀ c np fm dv, dp_see_to_room_0 C c = some (np, fm, dv) → MOk P w K mg base T k "see_to_room" c np fm dv := by
  intro c np fm dv e
  unfold dp_see_to_room_0 at e
  split at e
  · cases e; exact ⟨F.fa 4, F.fd 4, F.ps 4, _, _, t.me_Heap_see_to_room, A.at 4 t.np_4, t.b_4, .nil, fun _ _ => rfl⟩
  · cases e
theorem mo_waits_0 (t : Tx K mg T F) (A : Lv P w K mg base T F k C) : ∀ c np fm dv, dp_waits_0 C c = some (np, fm, dv) → MOk P w K mg base T k "waits" c np fm dv := by
  intro c np fm dv e
  unfold dp_waits_0 at e
  split at e
  · cases e; exact ⟨F.fa 15, F.fd 15, F.ps 15, _, _, t.me_Heap_waits, A.at 15 t.np_15, t.b_15, .nil, fun _ _ => rfl⟩
  · cases e
theorem mo_work_1 (t : Tx K mg T F) (A : Lv P w K mg base T F k C) : ∀ c np fm dv, dp_work_1 C c = some (np, fm, dv) → MOk P w K mg base T k "work" c np fm dv := by
  intro c np fm dv e
  unfold dp_work_1 at e
  split at e
  · cases e; exact ⟨F.fa 12, F.fd 12, F.ps 12, _, _, t.me_Heap_work, A.at 12 t.np_12, t.b_12, .nil, fun _ _ => rfl⟩
  · cases e
theorem ok_0 (t : Tx K mg T F) (A : Lv P w K mg base T F (k + 1) C) (B : Lv P w K mg base T F k I) : FnOk P w K mg base (L2.CX P w) (k + 2) (F.fa 0) (F.fd 0) (F.ps 0) (spOf K T (F.ps 0).length (fnOf 3 3 (b_Box_init C I))) := by
  rw [show F.ps 0 = (["self", "tag", "parts"] : List Str) by rw [t.ps]; rfl]
  exact fn_ok t.f_0 sc_0 fun cdv Ar outer s0 H E o =>
  (sss_cons (ss_fld 0 t.cf t.n_tag (se_var 0) (se_var 1) t.lt_tag)
  (sss_cons (ss_fld 1 t.cf t.n_parts (se_var 0) (se_var 2) t.lt_parts)
  (sss_one (ss_fld 2 t.cf t.n_count (se_var 0) se_int t.lt_count))))
theorem ok_1 (t : Tx K mg T F) (A : Lv P w K mg base T F (k + 1) C) (B : Lv P w K mg base T F k I) : FnOk P w K mg base (L2.CX P w) (k + 2) (F.fa 1) (F.fd 1) (F.ps 1) (spOf K T (F.ps 1).length (fnOf 2 2 (b_Heap_init C I))) := by
  rw [show F.ps 1 = (["self", "size"] : List Str) by rw [t.ps]; rfl]
  exact fn_ok t.f_1 sc_1 fun cdv Ar outer s0 H E o =>
  (sss_cons (ss_fld 3 t.cf t.n_size (se_var 0) (se_var 1) t.lt_size)
  (sss_cons (ss_fld 4 t.cf t.n_fresh (se_var 0) se_int t.lt_fresh)
  (sss_cons (ss_fld 5 t.cf t.n_anew (se_var 0) se_int t.lt_anew)
  (sss_cons (ss_fld 6 t.cf t.n_peak (se_var 0) se_int t.lt_peak)
  (sss_cons (ss_fld 7 t.cf t.n_there (se_var 0) se_dct t.lt_there)
  (sss_one (ss_fld 8 t.cf t.n_kept (se_var 0) se_dct t.lt_kept)))))))
theorem ok_2 (t : Tx K mg T F) (A : Lv P w K mg base T F (k + 1) C) (B : Lv P w K mg base T F k I) : FnOk P w K mg base (L2.CX P w) (k + 2) (F.fa 2) (F.fd 2) (F.ps 2) (spOf K T (F.ps 2).length (fnOf 3 2 (b_Heap_box_of C I))) := by
  rw [show F.ps 2 = (["self", "value"] : List Str) by rw [t.ps]; rfl]
  exact fn_ok t.f_2 sc_2 fun cdv Ar outer s0 H E o =>
  (sss_cons (ss_if (st_not (st_val (se_isi rfl t.z_isinstance (se_var 1) rfl t.z_tuple (by decide +kernel)))) (sss_one (ss_ret se_non)) sss_nil)
  (sss_cons (ss_set 2 o.nd (se_dget1 o.room (se_fld 7 t.cf (se_var 0) t.n_there t.lt_there) (se_ix o.room (se_var 1) se_int)))
  (sss_cons (ss_if (st_of (sw_or (st_isN (se_var 2)) (sw_or1 (st_eq o.room (se_fld 2 t.cf (se_var 2) t.n_count t.lt_count) se_int)))) (sss_one ss_bad) sss_nil)
  (sss_one (ss_ret (se_var 2))))))
theorem ok_3 (t : Tx K mg T F) (A : Lv P w K mg base T F (k + 1) C) (B : Lv P w K mg base T F k I) : FnOk P w K mg base (L2.CX P w) (k + 2) (F.fa 3) (F.fd 3) (F.ps 3) (spOf K T (F.ps 3).length (fnOf 5 4 (b_Heap_make C I))) := by
  rw [show F.ps 3 = (["self", "tag", "parts", "kept"] : List Str) by rw [t.ps]; rfl]
  exact fn_okD t.f_3 sc_3 fun cdv Ar outer s0 H E o =>
  (sss_cons (ss_if (st_eq o.room (se_len rfl t.z_len (sa_cons (se_var 2) sa_nil)) se_int) (sss_one (ss_ret (se_var 1))) sss_nil)
  (sss_cons (ss_if (st_of (sw_and (st_notN (se_var 3)) (sw_and1 (st_in o.room (se_var 3) (se_fld 8 t.cf (se_var 0) t.n_kept t.lt_kept))))) (sss_cons (ss_expr (se_pop1 (se_fld 8 t.cf (se_var 0) t.n_kept t.lt_kept) (se_var 3)))
  (sss_cons (ss_fld 5 t.cf t.n_anew (se_var 0) (se_addA (se_fld 5 t.cf (se_var 0) t.n_anew t.lt_anew) se_int) t.lt_anew)
  (sss_one (ss_set 4 o.nd (se_var 3))))) (sss_cons (ss_expr (se_meth0 t.cf (mo_see_to_room_0 t A) t.no_see_to_room o.room o.tk (se_var 0)))
  (sss_cons (ss_set 4 o.nd (se_fld 4 t.cf (se_var 0) t.n_fresh t.lt_fresh))
  (sss_one (ss_fld 4 t.cf t.n_fresh (se_var 0) (se_addA (se_fld 4 t.cf (se_var 0) t.n_fresh t.lt_fresh) se_int) t.lt_fresh)))))
  (sss_cons (ss_setIx o.room (se_fld 7 t.cf (se_var 0) t.n_there t.lt_there) (se_var 4) (se_make rfl t.mk_Box (B.at 0 t.np_0) o.room o.tk rfl t.g_Box t.b_0 .nil (fun _ _ => rfl) (sa_cons (se_var 1) (sa_cons (se_list rfl rfl t.z_list (sa_cons (se_var 2) sa_nil)) sa_nil))))
  (sss_cons (ss_fld 6 t.cf t.n_peak (se_var 0) (se_max rfl rfl t.z_max (sa_cons (se_fld 6 t.cf (se_var 0) t.n_peak t.lt_peak) (sa_cons (se_len rfl t.z_len (sa_cons (se_fld 7 t.cf (se_var 0) t.n_there t.lt_there) sa_nil)) sa_nil))) t.lt_peak)
  (sss_one (ss_ret (se_tup (sa_cons se_str (sa_cons (se_var 4) sa_nil)))))))))
theorem ok_4 (t : Tx K mg T F) (A : Lv P w K mg base T F (k + 1) C) (B : Lv P w K mg base T F k I) : FnOk P w K mg base (L2.CX P w) (k + 2) (F.fa 4) (F.fd 4) (F.ps 4) (spOf K T (F.ps 4).length (fnOf 1 1 (b_Heap_see_to_room C I))) := by
  rw [show F.ps 4 = (["self"] : List Str) by rw [t.ps]; rfl]
  exact fn_ok t.f_4 sc_4 fun cdv Ar outer s0 H E o =>
  (sss_cons (ss_if (st_lt (se_addA (se_len rfl t.z_len (sa_cons (se_fld 7 t.cf (se_var 0) t.n_there t.lt_there) sa_nil)) (se_len rfl t.z_len (sa_cons (se_fld 8 t.cf (se_var 0) t.n_kept t.lt_kept) sa_nil))) (se_fld 3 t.cf (se_var 0) t.n_size t.lt_size)) (sss_one ss_retN) sss_nil)
  (sss_cons (ss_if (st_eq o.room (se_meth t.cf (mo_work_1 t A) t.no_work o.room o.tk (se_var 0) (sa_cons se_int sa_nil)) se_int) (sss_one ss_retN) sss_nil)
  (sss_cons (ss_if (st_eq o.room (se_len rfl t.z_len (sa_cons (se_fld 8 t.cf (se_var 0) t.n_kept t.lt_kept) sa_nil)) se_int) (sss_one ss_bad) sss_nil)
  (sss_one (ss_expr (se_pop1 (se_fld 8 t.cf (se_var 0) t.n_kept t.lt_kept) (se_min rfl rfl t.z_min (sa_cons (se_fld 8 t.cf (se_var 0) t.n_kept t.lt_kept) sa_nil))))))))
theorem ok_9 (t : Tx K mg T F) (A : Lv P w K mg base T F (k + 1) C) (B : Lv P w K mg base T F k I) : FnOk P w K mg base (L2.CX P w) (k + 2) (F.fa 9) (F.fd 9) (F.ps 9) (spOf K T (F.ps 9).length (fnOf 3 2 (b_Heap_look C I))) := by
  rw [show F.ps 9 = (["self", "value"] : List Str) by rw [t.ps]; rfl]
  exact fn_ok t.f_9 sc_9 fun cdv Ar outer s0 H E o =>
  (sss_cons (ss_if (st_val (se_isi rfl t.z_isinstance (se_var 1) rfl t.z_str (by decide +kernel))) (sss_one (ss_ret (se_tup (sa_cons (se_var 1) (sa_cons (se_lst sa_nil) sa_nil))))) sss_nil)
  (sss_cons (ss_set 2 o.nd (se_meth t.cf (mo_box_of_1 t A) t.no_box_of o.room o.tk (se_var 0) (sa_cons (se_var 1) sa_nil)))
  (sss_cons (ss_if (st_isN (se_var 2)) (sss_one (ss_ret (se_tup (sa_cons se_str (sa_cons (se_lst sa_nil) sa_nil))))) sss_nil)
  (sss_one (ss_ret (se_tup (sa_cons (se_fld 0 t.cf (se_var 2) t.n_tag t.lt_tag) (sa_cons (se_list rfl rfl t.z_list (sa_cons (se_fld 1 t.cf (se_var 2) t.n_parts t.lt_parts) sa_nil)) sa_nil))))))))
theorem ok_12 (t : Tx K mg T F) (A : Lv P w K mg base T F (k + 1) C) (B : Lv P w K mg base T F k I) : FnOk P w K mg base (L2.CX P w) (k + 2) (F.fa 12) (F.fd 12) (F.ps 12) (spOf K T (F.ps 12).length (fnOf 2 2 (b_Heap_work C I))) := by
  rw [show F.ps 12 = (["self", "many"] : List Str) by rw [t.ps]; rfl]
  exact fn_ok t.f_12 sc_12 fun cdv Ar outer s0 H E o =>
  (sss_one (ss_ret se_int))
theorem ok_13 (t : Tx K mg T F) (A : Lv P w K mg base T F (k + 1) C) (B : Lv P w K mg base T F k I) : FnOk P w K mg base (L2.CX P w) (k + 2) (F.fa 13) (F.fd 13) (F.ps 13) (spOf K T (F.ps 13).length (fnOf 4 1 (b_Heap_boxes C I))) := by
  rw [show F.ps 13 = (["self"] : List Str) by rw [t.ps]; rfl]
  exact fn_ok t.f_13 sc_13 fun cdv Ar outer s0 H E o =>
  (sss_cons (ss_set 1 o.nd (se_lst sa_nil))
  (sss_cons (ss_for o.own rfl (si_seq (se_sorted rfl rfl t.z_sorted (sa_cons (se_fld 7 t.cf (se_var 0) t.n_there t.lt_there) sa_nil))) (sg_n 2 o.nd) (sss_cons (ss_set 3 o.nd (se_ix o.room (se_fld 7 t.cf (se_var 0) t.n_there t.lt_there) (se_var 2)))
  (sss_one (ss_expr (se_append (se_var 1) (sa_cons (se_tup (sa_cons (se_var 2) (sa_cons (se_fld 0 t.cf (se_var 3) t.n_tag t.lt_tag) (sa_cons (se_list rfl rfl t.z_list (sa_cons (se_fld 1 t.cf (se_var 3) t.n_parts t.lt_parts) sa_nil)) (sa_cons (se_fld 2 t.cf (se_var 3) t.n_count t.lt_count) sa_nil))))) sa_nil))))))
  (sss_one (ss_ret (se_var 1)))))
theorem ok_14 (t : Tx K mg T F) (A : Lv P w K mg base T F (k + 1) C) (B : Lv P w K mg base T F k I) : FnOk P w K mg base (L2.CX P w) (k + 2) (F.fa 14) (F.fd 14) (F.ps 14) (spOf K T (F.ps 14).length (fnOf 1 1 (b_Heap_keeping C I))) := by
  rw [show F.ps 14 = (["self"] : List Str) by rw [t.ps]; rfl]
  exact fn_ok t.f_14 sc_14 fun cdv Ar outer s0 H E o =>
  (sss_one (ss_ret (se_sorted rfl rfl t.z_sorted (sa_cons (se_fld 8 t.cf (se_var 0) t.n_kept t.lt_kept) sa_nil))))
theorem ok_15 (t : Tx K mg T F) (A : Lv P w K mg base T F (k + 1) C) (B : Lv P w K mg base T F k I) : FnOk P w K mg base (L2.CX P w) (k + 2) (F.fa 15) (F.fd 15) (F.ps 15) (spOf K T (F.ps 15).length (fnOf 1 1 (b_Heap_waits C I))) := by
  rw [show F.ps 15 = (["self"] : List Str) by rw [t.ps]; rfl]
  exact fn_ok t.f_15 sc_15 fun cdv Ar outer s0 H E o =>
  (sss_one (ss_ret (se_lst sa_nil)))
theorem ok_200 (t : Tx K mg T F) (A : Lv P w K mg base T F (k + 1) C) (B : Lv P w K mg base T F k I) : FnOk P w K mg base (L2.CX P w) (k + 2) (F.fa 200) (F.fd 200) (F.ps 200) (spOf K T (F.ps 200).length (fnOf 4 2 (b_law_alike C I))) := by
  rw [show F.ps 200 = (["_law_found", "_law_due"] : List Str) by rw [t.ps]; rfl]
  exact fn_ok t.f_200 sc_200 fun cdv Ar outer s0 H E o =>
  (sss_cons (ss_if (st_val (se_isi2 rfl t.z_isinstance (se_var 1) rfl t.z_list (by decide +kernel) rfl t.z_tuple (by decide +kernel))) (sss_cons (ss_if (st_of (sw_or (st_ne o.room (se_isi rfl t.z_isinstance (se_var 0) rfl t.z_list (by decide +kernel)) (se_isi rfl t.z_isinstance (se_var 1) rfl t.z_list (by decide +kernel))) (sw_or1 (st_ne o.room (se_isi rfl t.z_isinstance (se_var 0) rfl t.z_tuple (by decide +kernel)) (se_isi rfl t.z_isinstance (se_var 1) rfl t.z_tuple (by decide +kernel)))))) (sss_one (ss_ret se_bl)) sss_nil)
  (sss_one (ss_ret (se_and (se_eq o.room (se_len rfl t.z_len (sa_cons (se_var 0) sa_nil)) (se_len rfl t.z_len (sa_cons (se_var 1) sa_nil))) (se_one (se_all rfl rfl t.z_all (sa_cons (se_lc (.t [2, 3]) rfl o.nd (si_zip rfl t.z_zip (se_var 0) (se_var 1)) (blkOk_by (own := [("_law_one", 2), ("_law_other", 3)]) (N := N_200) (sc := defScope st_200) (by decide +kernel)) (fun _ _ _ _ _ => pg_tup rfl (pgs_cons (pg_name (i := 2) o.nd rfl (Or.inl rfl)) (pgs_cons (pg_name (i := 3) o.nd rfl (Or.inl rfl)) pgs_nil))) (fun _ _ _ _ _ => pts_yes) (fun _ _ _ _ _ => (se_call (A.at 200 t.np_200) o.room takesW0 rfl t.m_200 t.k_200 t.b_200 .nil (fun _ _ => rfl) (sa_cons (se_var 2) (sa_cons (se_var 3) sa_nil))))) sa_nil))))))) sss_nil)
  (sss_cons (ss_if (st_of (sw_or (st_ne o.room (se_isi rfl t.z_isinstance (se_var 0) rfl t.z_int (by decide +kernel)) (se_isi rfl t.z_isinstance (se_var 1) rfl t.z_int (by decide +kernel))) (sw_or1 (st_ne o.room (se_isi rfl t.z_isinstance (se_var 0) rfl t.z_bool (by decide +kernel)) (se_isi rfl t.z_isinstance (se_var 1) rfl t.z_bool (by decide +kernel)))))) (sss_one (ss_ret se_bl)) sss_nil)
  (sss_one (ss_ret (se_and (se_eq o.room (se_isi rfl t.z_isinstance (se_var 0) rfl t.z_str (by decide +kernel)) (se_isi rfl t.z_isinstance (se_var 1) rfl t.z_str (by decide +kernel))) (se_one (se_eq o.room (se_var 0) (se_var 1))))))))
theorem ok_201 (t : Tx K mg T F) (A : Lv P w K mg base T F (k + 1) C) (B : Lv P w K mg base T F k I) : FnOk P w K mg base (L2.CX P w) (k + 2) (F.fa 201) (F.fd 201) (F.ps 201) (spOf K T (F.ps 201).length (fnOf 5 1 (b_law_name C I))) := by
  rw [show F.ps 201 = (["_law_cell"] : List Str) by rw [t.ps]; rfl]
  exact fn_ok t.f_201 sc_201 fun cdv Ar outer s0 H E o =>
  (sss_cons (ss_set 1 o.nd se_str)
  (sss_cons (ss_set 2 o.nd (se_join se_str (sa_cons (se_lc (.n 4) rfl o.nd (si_r1 rfl t.z_range (se_mod (se_var 0) se_int)) (blkOk_by (own := [("_law_k", 4)]) (N := N_201) (sc := defScope st_201) (by decide +kernel)) (fun _ _ _ _ _ => pg_name (i := 4) o.nd rfl (Or.inl rfl)) (fun _ _ _ _ _ => pts_yes) (fun _ _ _ _ _ => (se_ix o.room (se_var 1) (se_mod (se_addA (se_div (se_var 0) (se_addA (se_var 4) se_int)) (se_mul (se_var 4) (se_var 4))) se_int)))) sa_nil)))
  (sss_cons (ss_set 3 o.nd (se_mod (se_div (se_var 0) se_int) (se_addA (se_len rfl t.z_len (sa_cons (se_var 2) sa_nil)) se_int)))
  (sss_one (ss_ret (se_addA (se_addA (se_sl (se_var 2) so_no (so_some (se_var 3))) se_str) (se_sl (se_var 2) (so_some (se_var 3)) so_no)))))))
theorem ok_202 (t : Tx K mg T F) (A : Lv P w K mg base T F (k + 1) C) (B : Lv P w K mg base T F k I) : FnOk P w K mg base (L2.CX P w) (k + 2) (F.fa 202) (F.fd 202) (F.ps 202) (spOf K T (F.ps 202).length (fnOf 5 2 (b_law_parts C I))) := by
  rw [show F.ps 202 = (["_law_cell", "_law_many_here"] : List Str) by rw [t.ps]; rfl]
  exact fn_ok t.f_202 sc_202 fun cdv Ar outer s0 H E o =>
  (sss_cons (ss_set 2 o.nd (se_lst sa_nil))
  (sss_cons (ss_for o.own rfl (si_r1 rfl t.z_range (se_var 1)) (sg_n 3 o.nd) (sss_cons (ss_set 4 o.nd (se_sub (se_mod (se_mul (se_var 0) (se_addA se_int (se_var 3))) (se_sub (se_mul se_int (se_pow se_int se_int)) se_int)) (se_sub (se_pow se_int se_int) se_int)))
  (sss_cons (ss_if (st_eq o.room (se_mod (se_addA (se_var 0) (se_var 3)) se_int) se_int) (sss_one (ss_set 4 o.nd (se_call (A.at 201 t.np_201) o.room o.tk rfl t.m_201 t.k_201 t.b_201 .nil (fun _ _ => rfl) (sa_cons (se_addA (se_div (se_var 0) se_int) (se_var 3)) sa_nil)))) sss_nil)
  (sss_one (ss_expr (se_append (se_var 2) (sa_cons (se_var 4) sa_nil)))))))
  (sss_one (ss_ret (se_var 2)))))
theorem ok_203 (t : Tx K mg T F) (A : Lv P w K mg base T F (k + 1) C) (B : Lv P w K mg base T F k I) : FnOk P w K mg base (L2.CX P w) (k + 2) (F.fa 203) (F.fd 203) (F.ps 203) (spOf K T (F.ps 203).length (fnOf 1 1 (b_law_many C I))) := by
  rw [show F.ps 203 = (["_law_cell"] : List Str) by rw [t.ps]; rfl]
  exact fn_ok t.f_203 sc_203 fun cdv Ar outer s0 H E o =>
  (sss_one (ss_ret (se_mod (se_div (se_var 0) se_int) se_int)))
theorem ok_204 (t : Tx K mg T F) (A : Lv P w K mg base T F (k + 1) C) (B : Lv P w K mg base T F k I) : FnOk P w K mg base (L2.CX P w) (k + 2) (F.fa 204) (F.fd 204) (F.ps 204) (spOf K T (F.ps 204).length (fnOf 7 3 (b_law_made C I))) := by
  rw [show F.ps 204 = (["_law_heap", "_law_cell", "_law_number"] : List Str) by rw [t.ps]; rfl]
  exact fn_ok t.f_204 sc_204 fun cdv Ar outer s0 H E o =>
  (sss_cons (ss_set 3 o.nd (se_call (A.at 201 t.np_201) o.room o.tk rfl t.m_201 t.k_201 t.b_201 .nil (fun _ _ => rfl) (sa_cons (se_var 1) sa_nil)))
  (sss_cons (ss_set 4 o.nd (se_call (A.at 202 t.np_202) o.room o.tk rfl t.m_202 t.k_202 t.b_202 .nil (fun _ _ => rfl) (sa_cons (se_var 1) (sa_cons (se_call (A.at 203 t.np_203) o.room o.tk rfl t.m_203 t.k_203 t.b_203 .nil (fun _ _ => rfl) (sa_cons (se_var 1) sa_nil)) sa_nil))))
  (sss_cons (ss_set 5 o.nd (se_list rfl rfl t.z_list (sa_cons (se_var 4) sa_nil)))
  (sss_cons (ss_set 6 o.nd (se_meth t.cf (mo_make_2 t A) t.no_make o.room o.tk (se_var 0) (sa_cons (se_var 3) (sa_cons (se_var 5) sa_nil))))
  (sss_cons (ss_if (st_ne o.room (se_var 5) (se_var 4)) (sss_one (ss_ret se_bl)) sss_nil)
  (sss_cons (ss_expr (se_append (se_var 5) (sa_cons se_int sa_nil)))
  (sss_cons (ss_if (st_eq o.room (se_var 4) (se_lst sa_nil)) (sss_one (ss_ret (se_and (se_call (A.at 200 t.np_200) o.room o.tk rfl t.m_200 t.k_200 t.b_200 .nil (fun _ _ => rfl) (sa_cons (se_var 6) (sa_cons (se_var 3) sa_nil))) (se_one (se_call (A.at 200 t.np_200) o.room o.tk rfl t.m_200 t.k_200 t.b_200 .nil (fun _ _ => rfl) (sa_cons (se_meth t.cf (mo_look_1 t A) t.no_look o.room o.tk (se_var 0) (sa_cons (se_var 6) sa_nil)) (sa_cons (se_tup (sa_cons (se_var 3) (sa_cons (se_lst sa_nil) sa_nil))) sa_nil))))))) sss_nil)
  (sss_one (ss_ret (se_call (A.at 200 t.np_200) o.room o.tk rfl t.m_200 t.k_200 t.b_200 .nil (fun _ _ => rfl) (sa_cons (se_var 6) (sa_cons (se_tup (sa_cons se_str (sa_cons (se_var 2) sa_nil))) sa_nil))))))))))))
theorem ok_205 (t : Tx K mg T F) (A : Lv P w K mg base T F (k + 1) C) (B : Lv P w K mg base T F k I) : FnOk P w K mg base (L2.CX P w) (k + 2) (F.fa 205) (F.fd 205) (F.ps 205) (spOf K T (F.ps 205).length (fnOf 7 3 (b_law_told C I))) := by
  rw [show F.ps 205 = (["_law_heap", "_law_rows", "_law_size"] : List Str) by rw [t.ps]; rfl]
  exact fn_ok t.f_205 sc_205 fun cdv Ar outer s0 H E o =>
  (sss_cons (ss_set 3 o.nd (se_meth0 t.cf (mo_boxes_0 t A) t.no_boxes o.room o.tk (se_var 0)))
  (sss_cons (ss_if (st_not (st_val (se_call (A.at 200 t.np_200) o.room o.tk rfl t.m_200 t.k_200 t.b_200 .nil (fun _ _ => rfl) (sa_cons (se_var 3) (sa_cons (se_var 1) sa_nil))))) (sss_one (ss_ret se_bl)) sss_nil)
  (sss_cons (ss_for o.own rfl (si_seq (se_var 3)) (sg_n 4 o.nd) (sss_cons (ss_set 5 o.nd (se_meth t.cf (mo_look_1 t A) t.no_look o.room o.tk (se_var 0) (sa_cons (se_tup (sa_cons se_str (sa_cons (se_ix o.room (se_var 4) se_int) sa_nil))) sa_nil)))
  (sss_cons (ss_if (st_not (st_val (se_call (A.at 200 t.np_200) o.room o.tk rfl t.m_200 t.k_200 t.b_200 .nil (fun _ _ => rfl) (sa_cons (se_var 5) (sa_cons (se_tup (sa_cons (se_ix o.room (se_var 4) se_int) (sa_cons (se_ix o.room (se_var 4) se_int) sa_nil))) sa_nil))))) (sss_one (ss_ret se_bl)) sss_nil)
  (sss_cons (ss_expr (se_append (se_ix o.room (se_var 5) se_int) (sa_cons se_int sa_nil)))
  (sss_one (ss_expr (se_append (se_ix o.room (se_var 4) se_int) (sa_cons (se_neg se_int) sa_nil))))))))
  (sss_cons (ss_expr (se_append (se_var 3) (sa_cons se_int sa_nil)))
  (sss_cons (ss_expr (se_append (se_meth0 t.cf (mo_keeping_0 t A) t.no_keeping o.room o.tk (se_var 0)) (sa_cons se_int sa_nil)))
  (sss_cons (ss_expr (se_append (se_meth0 t.cf (mo_waits_0 t A) t.no_waits o.room o.tk (se_var 0)) (sa_cons se_int sa_nil)))
  (sss_cons (ss_set 6 o.nd (se_lst (sa_cons (se_fld 3 t.cf (se_var 0) t.n_size t.lt_size) (sa_cons (se_fld 4 t.cf (se_var 0) t.n_fresh t.lt_fresh) (sa_cons (se_fld 6 t.cf (se_var 0) t.n_peak t.lt_peak) (sa_cons (se_fld 5 t.cf (se_var 0) t.n_anew t.lt_anew) (sa_cons (se_meth0 t.cf (mo_keeping_0 t A) t.no_keeping o.room o.tk (se_var 0)) (sa_cons (se_meth0 t.cf (mo_waits_0 t A) t.no_waits o.room o.tk (se_var 0)) (sa_cons (se_meth t.cf (mo_work_1 t A) t.no_work o.room o.tk (se_var 0) (sa_cons se_int sa_nil)) sa_nil)))))))))
  (sss_one (ss_ret (se_and (se_call (A.at 200 t.np_200) o.room o.tk rfl t.m_200 t.k_200 t.b_200 .nil (fun _ _ => rfl) (sa_cons (se_var 6) (sa_cons (se_lst (sa_cons (se_var 2) (sa_cons (se_len rfl t.z_len (sa_cons (se_var 1) sa_nil)) (sa_cons (se_len rfl t.z_len (sa_cons (se_var 1) sa_nil)) (sa_cons se_int (sa_cons (se_lst sa_nil) (sa_cons (se_lst sa_nil) (sa_cons se_int sa_nil)))))))) sa_nil))) (se_one (se_call (A.at 200 t.np_200) o.room o.tk rfl t.m_200 t.k_200 t.b_200 .nil (fun _ _ => rfl) (sa_cons (se_meth0 t.cf (mo_boxes_0 t A) t.no_boxes o.room o.tk (se_var 0)) (sa_cons (se_var 1) sa_nil))))))))))))))
theorem ok_206 (t : Tx K mg T F) (A : Lv P w K mg base T F (k + 1) C) (B : Lv P w K mg base T F k I) : FnOk P w K mg base (L2.CX P w) (k + 2) (F.fa 206) (F.fd 206) (F.ps 206) (spOf K T (F.ps 206).length (fnOf 8 1 (b_law C I))) := by
  rw [show F.ps 206 = (["_law_script"] : List Str) by rw [t.ps]; rfl]
  exact fn_ok t.f_206 sc_206 fun cdv Ar outer s0 H E o =>
  (sss_cons (ss_set 1 o.nd (se_sl (se_var 0) so_no (so_some se_int)))
  (sss_cons (ss_set 2 o.nd (se_lst sa_nil))
  (sss_cons (ss_for o.own rfl (si_seq (se_var 1)) (sg_n 3 o.nd) (sss_one (ss_if (st_gt (se_call (A.at 203 t.np_203) o.room o.tk rfl t.m_203 t.k_203 t.b_203 .nil (fun _ _ => rfl) (sa_cons (se_var 3) sa_nil)) se_int) (sss_one (ss_expr (se_append (se_var 2) (sa_cons (se_tup (sa_cons (se_len rfl t.z_len (sa_cons (se_var 2) sa_nil)) (sa_cons (se_call (A.at 201 t.np_201) o.room o.tk rfl t.m_201 t.k_201 t.b_201 .nil (fun _ _ => rfl) (sa_cons (se_var 3) sa_nil)) (sa_cons (se_call (A.at 202 t.np_202) o.room o.tk rfl t.m_202 t.k_202 t.b_202 .nil (fun _ _ => rfl) (sa_cons (se_var 3) (sa_cons (se_call (A.at 203 t.np_203) o.room o.tk rfl t.m_203 t.k_203 t.b_203 .nil (fun _ _ => rfl) (sa_cons (se_var 3) sa_nil)) sa_nil))) (sa_cons se_int sa_nil))))) sa_nil)))) sss_nil)))
  (sss_cons (ss_set 4 o.nd (se_ix o.room (se_lst (sa_cons (se_pow se_int se_int) (sa_cons (se_len rfl t.z_len (sa_cons (se_var 2) sa_nil)) sa_nil))) (se_mod (se_sum rfl rfl t.z_sum (sa_cons (se_var 1) sa_nil)) se_int)))
  (sss_cons (ss_set 5 o.nd (se_lst (sa_cons (se_make rfl t.mk_Heap (B.at 1 t.np_1) o.room o.tk rfl t.g_Heap t.b_1 .nil (fun _ _ => rfl) (sa_cons (se_pow se_int se_int) sa_nil)) (sa_cons (se_make rfl t.mk_Heap (B.at 1 t.np_1) o.room o.tk rfl t.g_Heap t.b_1 .nil (fun _ _ => rfl) (sa_cons (se_var 4) sa_nil)) sa_nil))))
  (sss_cons (ss_set 6 o.nd se_int)
  (sss_cons (ss_for o.own rfl (si_seq (se_var 1)) (sg_n 3 o.nd) (sss_cons (ss_for o.own rfl (si_seq (se_var 5)) (sg_n 7 o.nd) (sss_one (ss_if (st_not (st_val (se_call (A.at 204 t.np_204) o.room o.tk rfl t.m_204 t.k_204 t.b_204 .nil (fun _ _ => rfl) (sa_cons (se_var 7) (sa_cons (se_var 3) (sa_cons (se_var 6) sa_nil)))))) (sss_one (ss_ret se_bl)) sss_nil)))
  (sss_one (ss_set 6 o.nd (se_addA (se_var 6) (se_intc rfl t.z_int (sa_cons (se_gt (se_call (A.at 203 t.np_203) o.room o.tk rfl t.m_203 t.k_203 t.b_203 .nil (fun _ _ => rfl) (sa_cons (se_var 3) sa_nil)) se_int) sa_nil)))))))
  (sss_one (ss_ret (se_and (se_call (A.at 205 t.np_205) o.room o.tk rfl t.m_205 t.k_205 t.b_205 .nil (fun _ _ => rfl) (sa_cons (se_ix o.room (se_var 5) se_int) (sa_cons (se_var 2) (sa_cons (se_pow se_int se_int) sa_nil)))) (se_one (se_call (A.at 205 t.np_205) o.room o.tk rfl t.m_205 t.k_205 t.b_205 .nil (fun _ _ => rfl) (sa_cons (se_ix o.room (se_var 5) se_int) (sa_cons (se_var 2) (sa_cons (se_var 4) sa_nil)))))))))))))))
theorem step (t : Tx K mg T F) (n : Nat) (C I : Calls) (A : Lv P w K mg base T F (n + 1) C) (B : Lv P w K mg base T F n I) : Lv P w K mg base T F (n + 2) (D C I) := by
  intro i
  unfold D
  split
  · exact ok_0 t A B
  · exact ok_1 t A B
  · exact ok_2 t A B
  · exact ok_3 t A B
  · exact ok_4 t A B
  · exact ok_9 t A B
  · exact ok_12 t A B
  · exact ok_13 t A B
  · exact ok_14 t A B
  · exact ok_15 t A B
  · exact ok_200 t A B
  · exact ok_201 t A B
  · exact ok_202 t A B
  · exact ok_203 t A B
  · exact ok_204 t A B
  · exact ok_205 t A B
  · exact ok_206 t A B
  · exact fnok_bad (fun _ _ => rfl) rfl
end
end K70

section
set_option maxHeartbeats 1000000
namespace K70
open PySem EV
/-! one step by the head of what is wanted (array_mem_dec), the memory's facts (array_get_dec), as many steps as go (and_intros) -/
local macro_rules | `(tactic| array_get_dec) => `(tactic| first
  | assumption
  | with_reducible apply get_new
  | ((with_reducible apply get_set); array_get_dec)
  | ((with_reducible apply get_app); array_get_dec)
  | ((with_reducible apply get_set_ne); array_get_dec; first | assumption | omega))
local macro_rules | `(tactic| array_mem_dec) => `(tactic| first
  | with_reducible refine ws_seq.mpr ?_
  | with_reducible refine ws_if.mpr ?_
  | with_reducible refine ws_set.mpr ?_
  | with_reducible refine ws_expr.mpr ?_
  | with_reducible refine ws_ret.mpr ?_
  | with_reducible refine ws_sNx.mpr ?_
  | with_reducible refine ws_sRetN.mpr ?_
  | with_reducible refine wp_bV.mpr ?_
  | with_reducible refine wp_bNot.mpr ?_
  | with_reducible refine wp_bAnd.mpr ?_
  | with_reducible refine wp_bOr.mpr ?_
  | with_reducible refine w_asB ?_
  | with_reducible refine wp_c.mpr ?_
  | with_reducible refine wp_op1.mpr ?_
  | with_reducible refine wp_op2.mpr ?_
  | with_reducible refine wp_aCons.mpr ?_
  | with_reducible refine wp_aNil.mpr ?_
  | with_reducible refine wp_eFun.mpr ?_
  | with_reducible refine wp_eAnd.mpr ?_
  | with_reducible refine wp_eOr.mpr ?_
  | with_reducible refine wp_eNot.mpr ?_
  | with_reducible refine wp_eIf.mpr ?_
  | with_reducible refine w_bfalse ?_
  | with_reducible refine w_btrue ?_
  | ((with_reducible refine wp_var.mpr ?_); refine ⟨_, rfl, ?_⟩)
  | ((with_reducible apply w_fld); array_get_dec; rfl)
  | with_reducible refine w_add ?_
  | with_reducible refine w_sub ?_
  | with_reducible refine w_lt ?_
  | with_reducible refine w_le ?_
  | with_reducible refine w_gt ?_
  | with_reducible refine w_ge ?_
  | with_reducible refine w_isN ?_
  | with_reducible refine w_notN ?_
  | with_reducible refine w_max ?_
  | with_reducible refine w_min ?_
  | with_reducible refine w_int ?_
  | with_reducible refine w_intb ?_
  | with_reducible refine w_neg ?_
  | ((with_reducible apply w_mod); first | omega | (focus (simp; done)))
  | ((with_reducible apply w_div); first | omega | (focus (simp; done)))
  | ((with_reducible apply w_mul); first | (apply cmul_smallL <;> omega) | (apply cmul_small <;> omega))
  | ((with_reducible apply w_pow10); omega)
  | ((with_reducible apply w_list); array_get_dec)
  | ((with_reducible apply w_lenl); array_get_dec)
  | ((with_reducible apply w_lend); array_get_dec)
  | with_reducible refine w_lent ?_
  | (with_reducible refine ws_fld.mpr ?_)
  | (with_reducible refine w_bm ?_)
  | (with_reducible refine wp_eTup.mpr ?_)
  | (with_reducible refine wp_eLst.mpr ?_)
  | (with_reducible refine wp_eDct.mpr ?_)
  | (with_reducible refine wp_eCall.mpr ?_)
  | (with_reducible refine ws_setIx.mpr ?_)
  | with_reducible refine w_eqI ?_
  | with_reducible refine w_neI ?_
  | with_reducible refine w_eqS ?_
  | with_reducible refine w_neS ?_
  | with_reducible refine w_eqB ?_
  | with_reducible refine w_neB ?_
  | ((with_reducible refine wp_oEq.mpr ?_); refine ⟨_, rfl, ?_⟩)
  | ((with_reducible refine wp_oNe.mpr ?_); refine ⟨_, rfl, ?_⟩)
  | (with_reducible refine wp_eIsi.mpr ?_)
  | ((with_reducible apply w_put); array_get_dec; rfl)
  | ((with_reducible apply w_len); rfl)
  | ((with_reducible apply w_call); rfl)
  | ((with_reducible apply w_callc); rfl)
  | ((with_reducible refine wp_eMeth.mpr ?_))
  | ((with_reducible apply w_meth); array_get_dec; rfl)
  | ((with_reducible refine wp_eMake.mpr ?_))
  | ((with_reducible apply w_tyL); array_get_dec)
  | ((with_reducible refine w_tyS ?_))
  | ((with_reducible apply w_isi); (first | rfl | (apply w_tyl; array_get_dec) | (apply w_tyd; array_get_dec)); rfl)
  | ((with_reducible apply w_iff); rfl)
  | ((with_reducible apply w_ift); rfl)
  | ((with_reducible refine w_dget1 ?_))
  | ((with_reducible apply w_dref); array_get_dec)
  | ((with_reducible apply w_dkey); array_get_dec)
  | ((with_reducible apply w_app); array_get_dec; first | omega | (focus (simp; done)) | (simp; omega))
  | ((with_reducible apply w_setd); array_get_dec; first | omega | (focus (simp; done)) | (simp; omega))
  | ((with_reducible apply w_ixt); with_reducible_and_instances rfl)
  | ((with_reducible apply w_ixt); rfl)
  | ((with_reducible apply w_ixl); array_get_dec; rfl)
  | ((with_reducible refine w_eSl ?_))
  | ((with_reducible refine w_pNo ?_))
  | ((with_reducible refine w_pSome ?_))
  | ((with_reducible refine w_eqi ?_))
  | ((with_reducible apply w_slL); array_get_dec)
  | ((with_reducible refine w_slF ?_))
  | ((with_reducible refine ws_for'.mpr ?_))
  | ((with_reducible refine wp_eLc.mpr ?_))
  | ((with_reducible refine w_seqr ?_))
  | ((with_reducible refine w_zip ?_))
  | with_reducible refine w_lenf ?_
  | ((with_reducible refine w_r1 ?_))
  | ((with_reducible refine w_srcT ?_))
  | ((with_reducible refine w_srcF ?_))
  | ((with_reducible apply w_srcL); array_get_dec)
  | fail)
local macro_rules | `(tactic| and_intros) => `(tactic| ((repeat array_mem_dec); try dsimp only))
theorem join_small : ∀ l : List Str, (∀ a ∈ l, a.length ≤ 1) → (Txt.join "" l).length ≤ l.length := by
  intro l
  have e : Txt.join "" l = Str.join "" l := PySem.StrLaws.glued_eq_join _ _
  rw [e]
  clear e
  induction l with
  | nil => intro _; decide
  | cons x r ih =>
    intro h
    have hx := h x (List.mem_cons_self ..)
    have ih := ih fun a ha => h a (List.mem_cons_of_mem _ ha)
    cases r with
    | nil => simpa [Str.join] using hx
    | cons z r =>
      have z0 : Str.length "" = 0 := by decide
      rw [show Str.join "" (x :: z :: r) = x ++ "" ++ Str.join "" (z :: r) from rfl, Str.length_append, Str.length_append, z0, List.length_cons]
      omega
def letters : Str := "abcdefghijklmnopqrstuvwxyz"
def letterAt (i : Int) : Str := match L2.atI letters.cps.toList i with
  | some c => ⟨#[c]⟩
  | none => ""
theorem letter_ok {i : Int} (h0 : 0 ≤ i) (h1 : i < 26) (h : Mem) : vIx h (.str letters) (.int i) = some (.str (letterAt i)) := by
  have e : ∃ c, L2.atI letters.cps.toList i = some c := by
    unfold L2.atI L2.ixN
    have l : letters.cps.toList.length = 26 := by decide
    rw [l, if_pos h0, if_pos (by omega)]
    refine ⟨letters.cps.toList[i.toNat]'(by omega), ?_⟩
    simp
  obtain ⟨c, e⟩ := e
  have l : letters.length ≤ 1000000 := by decide
  unfold vIx letterAt
  simp [l, e]
theorem letter_len (i : Int) : (letterAt i).length ≤ 1 := by
  unfold letterAt
  split
  · exact Nat.le_refl 1
  · decide
def nmL (c : Int) : List Str := (List.range (c % 12).toNat).map fun (k : Nat) => letterAt ((c / ((k : Int) + 2) + (k : Int) * k) % 26)
def nmS (c : Int) : Str := Txt.join "" (nmL c)
def nm (c : Int) : Str := L2.cutS (nmS c) none (some (c / 12 % ((nmS c).length + 1))) ++ "z" ++ L2.cutS (nmS c) (some (c / 12 % ((nmS c).length + 1))) none
theorem nmL_len (c : Int) : (nmL c).length < 12 := by
  have := Int.emod_nonneg c (show (12 : Int) ≠ 0 by decide)
  have := Int.emod_lt_of_pos c (show (0 : Int) < 12 by decide)
  simp [nmL]; omega
theorem nmS_len (c : Int) : (nmS c).length < 12 := by
  refine Nat.lt_of_le_of_lt (join_small _ ?_) (nmL_len c)
  intro a ha
  simp only [nmL, List.mem_map] at ha
  obtain ⟨k, _, rfl⟩ := ha
  exact letter_len _
theorem sum_small : ∀ l : List Str, (∀ a ∈ l, a.length ≤ 1) → (l.map (·.length)).sum ≤ l.length
  | [], _ => Nat.le_refl 0
  | a :: l, h => by
    have := h a (List.mem_cons_self ..)
    have := sum_small l fun a ha => h a (List.mem_cons_of_mem _ ha)
    simp; omega
theorem cut_len (z : Str) (lo hi : Option Int) : (L2.cutS z lo hi).length ≤ z.length := by
  have : z.cps.toList.length = z.length := Array.length_toList
  show (List.toArray _).size ≤ _
  simp only [List.size_toArray, List.length_take, List.length_drop]
  omega
theorem name_ok (n : Nat) (c : Int) (h : Mem) : Wp (callN D (n + 1) 201 [.int c] h) (fun v h' => v = .str (nm c) ∧ K0 h h') X0 := by
  rw [c_law_name, b_law_name]
  have p0 := Int.emod_nonneg c (show (12 : Int) ≠ 0 by decide)
  have p1 := Int.emod_lt_of_pos c (show (0 : Int) < 12 by decide)
  have hl := nmS_len c
  refine wp_fn.mpr ⟨rfl, ?_⟩
  and_intros
  refine ⟨?_, ?_⟩
  · simp [smallI]; omega
  refine ⟨by simp [rngV]; omega, ?_⟩
  refine wp_lcL (fun i ys h' => ys = ((List.range i).map fun (k : Nat) => Val.str (letterAt ((c / ((k : Int) + 2) + (k : Int) * k) % 26))) ∧ h' = h) ⟨rfl, rfl⟩ (fun _ _ _ _ => rfl) ?_ ?_
  · rintro i v ys h' hv ⟨rfl, rfl⟩
    have hi : i < (c % 12).toNat ∧ v = .int i := by
      exact rngV_get hv
    obtain ⟨hi, rfl⟩ := hi
    refine ⟨_, rfl, ?_⟩
    refine wp_bYes.mpr ?_
    and_intros
    refine wp_oIx.mpr ⟨_, letter_ok (Int.emod_nonneg _ (by decide)) (Int.emod_lt_of_pos _ (by decide)) _, ?_⟩
    refine ⟨?_, rfl⟩
    rw [List.range_succ, List.map_append]
    rfl
  · rintro ys h' ⟨rfl, rfl⟩
    have hj : (rngV 0 (c % 12).toNat).length = (c % 12).toNat := by simp [rngV]
    rw [hj, show (List.map (fun (k : Nat) => Val.str (letterAt ((c / ((k : Int) + 2) + (k : Int) * k) % 26))) (List.range (c % 12).toNat)) = (nmL c).map Val.str by simp [nmL]]
    and_intros
    refine w_join get_new ?_ ?_
    · have := sum_small (nmL c) (fun a ha => by simp only [nmL, List.mem_map] at ha; obtain ⟨k, _, rfl⟩ := ha; exact letter_len _)
      have := nmL_len c
      have z0 : Str.length "" = 0 := by decide
      rw [z0]; omega
    show Ws _ _ _ _
    generalize hs : Txt.join (Str.ofString "") (nmL c) = s
    have hs : nmS c = s := hs
    rw [hs] at hl
    and_intros
    refine w_lens (by omega) ?_
    and_intros
    refine w_slS (by omega) ?_
    have l1 := cut_len s none (some (c / 12 % (s.length + 1)))
    have l2 := cut_len s (some (c / 12 % (s.length + 1))) none
    have z1 : Str.length "z" = 1 := by decide
    and_intros
    refine w_adds (by omega) ?_
    and_intros
    refine w_slS (by omega) ?_
    refine w_adds (by rw [Str.length_append]; omega) ?_
    refine ⟨?_, Keep.refl.app⟩
    unfold nm
    rw [hs]
theorem part_z (c : Int) : ∃ s, nm c = s ∧ s.length ≤ 40 := by
  refine ⟨_, rfl, ?_⟩
  have z1 : Str.length "z" = 1 := by decide
  have l1 := cut_len (nmS c) none (some (c / 12 % ((nmS c).length + 1)))
  have l2 := cut_len (nmS c) (some (c / 12 % ((nmS c).length + 1))) none
  have := nmS_len c
  rw [nm, Str.length_append, Str.length_append]
  omega
theorem many_ok (n : Nat) (c : Int) (h : Mem) : Wp (callN D (n + 1) 203 [.int c] h) (fun v h' => v = .int (c / 12 % 10) ∧ h' = h) X0 := by
  rw [c_law_many, b_law_many]
  refine wp_fn.mpr ⟨rfl, ?_⟩
  and_intros
  exact ⟨rfl, rfl⟩
def mny (c : Int) : Int := c / 12 % 10
theorem mny_lt (c : Int) : 0 ≤ mny c ∧ mny c < 10 := ⟨Int.emod_nonneg _ (by decide), Int.emod_lt_of_pos _ (by decide)⟩
def part (c : Int) (k : Nat) : Tr := if (c + k) % 5 = 3 then .str (nm (c / 5 + k)) else .int (c * (48271 + k) % (2 * 10 ^ (30 : Int).toNat - 1) - (10 ^ (30 : Int).toNat - 1))
def trV : Tr → Val
  | .int i => .int i
  | .str s => .str s
  | _ => .non
theorem part_rep (c : Int) (k : Nat) (h : Mem) : Rep h (part c k) (trV (part c k)) := by
  unfold part; split <;> simp [Rep, trV]
def PT (c : Int) : List Tr := (List.range (mny c).toNat).map (part c)
def P (c : Int) : List Val := (PT c).map trV
theorem reps_map {h : Mem} : ∀ (ks : List Nat) (c : Int), Reps h (ks.map (part c)) ((ks.map (part c)).map trV)
  | [], c => by unfold Reps; rfl
  | k :: ks, c => by unfold Reps; exact ⟨_, _, rfl, part_rep c k h, reps_map ks c⟩
theorem P_rep (c : Int) (h : Mem) : Reps h (PT c) (P c) := reps_map _ c
theorem P_len (c : Int) : (P c).length = (mny c).toNat := by simp [P, PT]
theorem parts_ok (n : Nat) (c : Int) (h : Mem) : Wp (callN D (n + 2) 202 [.int c, .int (mny c)] h) (fun v h' => ∃ q, v = .ref q ∧ h.length ≤ q ∧ h'[q]? = some (.lst (P c)) ∧ K0 h h') X0 := by
  rw [c_law_parts, b_law_parts]
  have m := mny_lt c
  refine wp_fn.mpr ⟨rfl, ?_⟩
  and_intros
  refine ⟨by simp [smallI]; omega, ?_⟩
  refine ws_forL (fun i σ h' => (∃ s3 s4, σ = [some (.int c), some (.int (mny c)), some (.ref h.length), s3, s4]) ∧ h'[h.length]? = some (.lst (((List.range i).map (part c)).map trV)) ∧ K0 h h') ⟨⟨_, _, rfl⟩, get_new, Keep.refl.app⟩ (fun _ _ _ _ => rfl) ?_ ?_
  · rintro i v σ h' hv ⟨⟨s3, s4, rfl⟩, g, k0⟩
    obtain ⟨hi, rfl⟩ := rngV_get hv
    refine ⟨_, rfl, ?_⟩
    and_intros
    refine w_dec (fun e => ?_) (fun e => ?_)
    · and_intros
      refine (name_ok n _ h').imp0 fun v h2 a => ?_
      obtain ⟨rfl, k1⟩ := a
      have g2 := k1.get0 g
      and_intros
      refine ⟨⟨_, _, rfl⟩, ?_, ?_⟩
      · rw [get_set g2, List.range_succ, List.map_append, List.map_append]
        simp [part, e, trV]
      · exact (k0.trans k1).set fun x => absurd x (by omega)
    · and_intros
      refine ⟨⟨_, _, rfl⟩, ?_, ?_⟩
      · rw [get_set g, List.range_succ, List.map_append, List.map_append]
        simp [part, e, trV]
      · exact k0.set fun x => absurd x (by omega)
  · rintro σ h' ⟨⟨s3, s4, rfl⟩, g, k0⟩
    and_intros
    refine ⟨_, rfl, Nat.le_refl _, ?_, k0⟩
    rw [g]
    simp [rngV, P, PT]

/-! ### the plain heap as it stands in the memory -/
structure AB where
  at_ : Int
  tag : Str
  ps : List Val
  ct : Int
structure AH where
  size : Int
  fresh : Int
  anew : Int
  peak : Int
  bx : List AB
  kept : List Int
def adOf (p td kd : Nat) (cs : List (AB × Nat × Nat)) : List Nat := p :: td :: kd :: (cs.map (·.2.1) ++ cs.map (·.2.2))
def dOf (cs : List (AB × Nat × Nat)) : List (Key × Val) := cs.map fun c => (.inl c.1.at_, .ref c.2.1)
def kOf (ks : List Int) : List (Key × Val) := ks.map fun k => (.inl k, .bl true)
structure HK (s : AH) (p td kd : Nat) (cs : List (AB × Nat × Nat)) (h : Mem) : Prop where
  nd : (adOf p td kd cs).Nodup
  bx : s.bx = cs.map (·.1)
  hp : h[p]? = some (.ins 1 [(3, .int s.size), (4, .int s.fresh), (5, .int s.anew), (6, .int s.peak), (7, .ref td), (8, .ref kd)])
  ht : h[td]? = some (.dct (dOf cs))
  hk : h[kd]? = some (.dct (kOf s.kept))
  hb : ∀ c ∈ cs, h[c.2.1]? = some (.ins 0 [(0, .str c.1.tag), (1, .ref c.2.2), (2, .int c.1.ct)])
  hl : ∀ c ∈ cs, h[c.2.2]? = some (.lst c.1.ps)
def HOK (s : AH) (p : Nat) (ad : List Nat) (h : Mem) : Prop := ∃ td kd cs, ad = adOf p td kd cs ∧ HK s p td kd cs h
theorem HK.lt {s : AH} {p td kd : Nat} {cs : List (AB × Nat × Nat)} {h : Mem} (k : HK s p td kd cs h) : ∀ x ∈ adOf p td kd cs, x < h.length := by
  intro x hx
  simp only [adOf, List.mem_cons, List.mem_append, List.mem_map] at hx
  rcases hx with rfl | rfl | rfl | ⟨c, hc, rfl⟩ | ⟨c, hc, rfl⟩
  · exact lt_of_get k.hp
  · exact lt_of_get k.ht
  · exact lt_of_get k.hk
  · exact lt_of_get (k.hb c hc)
  · exact lt_of_get (k.hl c hc)
theorem HK.keep {s : AH} {p td kd : Nat} {cs : List (AB × Nat × Nat)} {h h' : Mem} {W : Nat → Prop} (k : HK s p td kd cs h) (e : Keep W h h') (w : ∀ x ∈ adOf p td kd cs, ¬ W x) : HK s p td kd cs h' where
  nd := k.nd
  bx := k.bx
  hp := e.get k.hp (w _ (by simp [adOf]))
  ht := e.get k.ht (w _ (by simp [adOf]))
  hk := e.get k.hk (w _ (by simp [adOf]))
  hb := fun c hc => e.get (k.hb c hc) (w _ (by simp only [adOf, List.mem_cons, List.mem_append, List.mem_map]; exact .inr (.inr (.inr (.inl ⟨c, hc, rfl⟩)))))
  hl := fun c hc => e.get (k.hl c hc) (w _ (by simp only [adOf, List.mem_cons, List.mem_append, List.mem_map]; exact .inr (.inr (.inr (.inr ⟨c, hc, rfl⟩)))))
theorem HOK.lt {s : AH} {p : Nat} {ad : List Nat} {h : Mem} (k : HOK s p ad h) : ∀ x ∈ ad, x < h.length := by
  obtain ⟨td, kd, cs, rfl, k⟩ := k
  exact k.lt
theorem HOK.keep {s : AH} {p : Nat} {ad : List Nat} {h h' : Mem} {W : Nat → Prop} (k : HOK s p ad h) (e : Keep W h h') (w : ∀ x ∈ ad, ¬ W x) : HOK s p ad h' := by
  obtain ⟨td, kd, cs, rfl, k⟩ := k
  exact ⟨td, kd, cs, rfl, k.keep e w⟩
theorem HOK.keep0 {s : AH} {p : Nat} {ad : List Nat} {h h' : Mem} (k : HOK s p ad h) (e : K0 h h') : HOK s p ad h' := k.keep e fun _ _ => id
theorem dGet_dOf (cs : List (AB × Nat × Nat)) (i : Int) : dGet (dOf cs) (.inl i) = (cs.find? fun c => decide (c.1.at_ = i)).map fun c => .ref c.2.1 := by
  unfold dGet dOf
  rw [List.find?_map, Option.map_map]
  congr 1
  refine congrArg (fun f => List.find? f cs) ?_
  funext c
  simp
theorem find_at {cs : List (AB × Nat × Nat)} {i : Int} {c : AB × Nat × Nat} (nd : (cs.map (·.1.at_)).Nodup) (hc : c ∈ cs) (e : c.1.at_ = i) : (cs.find? fun c => decide (c.1.at_ = i)) = some c := by
  induction cs with
  | nil => cases hc
  | cons d r ih =>
    simp only [List.map_cons, List.nodup_cons] at nd
    rw [List.find?_cons]
    rcases List.mem_cons.mp hc with rfl | hc'
    · simp [e]
    · have : d.1.at_ ≠ i := fun z => nd.1 (by rw [z, ← e]; exact List.mem_map.mpr ⟨c, hc', rfl⟩)
      simp only [this, decide_false]
      exact ih nd.2 hc'
theorem dPut_new {cs : List (AB × Nat × Nat)} {i : Int} (v : Val) (hn : ∀ c ∈ cs, c.1.at_ ≠ i) : dPut (dOf cs) (.inl i) v = dOf cs ++ [(.inl i, v)] := by
  unfold dPut
  rw [if_neg]
  simp only [dOf, List.any_map, List.any_eq_true, not_exists, not_and]
  intro c hc
  simp [hn c hc]
theorem heap_init_ok (n : Nat) (p : Nat) (size : Int) (h : Mem) (e : h[p]? = some (.ins 1 [])) : Wp (callN D (n + 1) 1 [.ref p, .int size] h) (fun v h' => v = .non ∧ HOK ⟨size, 0, 0, 0, [], []⟩ p [p, h.length, h.length + 1] h' ∧ Keep (· = p) h h') X0 := by
  rw [c_Heap_init, b_Heap_init]
  have l := lt_of_get e
  refine wp_fn.mpr ⟨rfl, ?_⟩
  and_intros
  have e2 : ∀ h' : Mem, h' = (h ++ [Ob.dct [], Ob.dct []]).set p (.ins 1 [(3, .int size), (4, .int 0), (5, .int 0), (6, .int 0), (7, .ref h.length), (8, .ref (h.length + 1))]) → (Val.non = Val.non ∧ HOK ⟨size, 0, 0, 0, [], []⟩ p [p, h.length, h.length + 1] h' ∧ Keep (· = p) h h') := by
    rintro _ rfl
    refine ⟨rfl, ⟨h.length, h.length + 1, [], rfl, { nd := ?_, bx := rfl, hp := ?_, ht := ?_, hk := ?_, hb := fun c hc => (by cases hc), hl := fun c hc => (by cases hc) }⟩, (Keep.app Keep.refl).set fun _ => rfl⟩
    · simp [adOf]; omega
    · exact get_set (get_app e)
    · refine get_set_ne (o := .dct []) ?_ (by omega); simp
    · refine get_set_ne (o := .dct []) ?_ (by omega); simp
  apply e2
  simp [fPut, List.set_append, l]
theorem box_init_ok (n : Nat) (p : Nat) (t q : Val) (h : Mem) (c : Nat) (e : h[p]? = some (.ins c [])) : Wp (callN D (n + 1) 0 [.ref p, t, q] h) (fun v h' => v = .non ∧ h' = h.set p (.ins c [(0, t), (1, q), (2, .int 1)])) X0 := by
  rw [c_Box_init, b_Box_init]
  refine wp_fn.mpr ⟨rfl, ?_⟩
  and_intros
  refine ⟨rfl, ?_⟩
  simp [fPut]
theorem room_ok {s : AH} {p : Nat} {ad : List Nat} {h : Mem} (n : Nat) (k : HOK s p ad h) (l : (s.bx.length : Int) + s.kept.length < s.size) : Wp (callN D (n + 1) 4 [.ref p] h) (fun v h' => v = .non ∧ h' = h) X0 := by
  obtain ⟨td, kd, cs, rfl, k⟩ := k
  have hp := k.hp
  have ht := k.ht
  have hk := k.hk
  rw [c_Heap_see_to_room, b_Heap_see_to_room]
  refine wp_fn.mpr ⟨rfl, ?_⟩
  and_intros
  have e : decide (((dOf cs).length : Int) + ((kOf s.kept).length : Int) < s.size) = true := by
    rw [k.bx] at l
    simpa [dOf, kOf] using l
  rw [e]
  and_intros
  exact ⟨rfl, rfl⟩
theorem filt_no {α : Type} {q : α → Bool} : ∀ {l : List α}, (∀ x ∈ l, q x = false) → l.any q = false
  | [], _ => rfl
  | a :: l, h => by rw [List.any_cons, h a (List.mem_cons_self ..), filt_no fun x hx => h x (List.mem_cons_of_mem _ hx)]; rfl
theorem make_ok {s : AH} {p : Nat} {ad : List Nat} {h : Mem} (n : Nat) (tag : Str) (ps : List Val) (q : Nat) (k : HOK s p ad h) (hq : h[q]? = some (.lst ps)) (hne : ps ≠ [])
    (l : (s.bx.length : Int) + s.kept.length < s.size) (hn : ∀ b ∈ s.bx, b.at_ ≠ s.fresh) (l2 : s.bx.length < 1000) :
    Wp (callN D (n + 3) 3 [.ref p, .str tag, .ref q, .non] h) (fun v h' => v = .tup [.str "box", .int s.fresh] ∧
      (∃ ad', HOK { s with fresh := s.fresh + 1, peak := if ((s.bx.length + 1 : Nat) : Int) > s.peak then ((s.bx.length + 1 : Nat) : Int) else s.peak, bx := s.bx ++ [⟨s.fresh, tag, ps, 1⟩] } p ad' h' ∧ (∀ x ∈ ad', x ∈ ad ∨ h.length ≤ x) ∧ p ∈ ad) ∧ Keep (· ∈ ad) h h') X0 := by
  have k' := k
  obtain ⟨td, kd, cs, rfl, k⟩ := k
  have hp := k.hp
  have ht := k.ht
  have hk := k.hk
  have nd := k.nd
  have hlt := k.lt
  have hpq : p ≠ q := by rintro rfl; rw [hp] at hq; cases hq
  obtain ⟨hd1, hd2, hd3⟩ : p ≠ td ∧ p ≠ kd ∧ td ≠ kd := by
    have := nd
    simp only [adOf, List.nodup_cons, List.mem_cons, not_or] at this
    exact ⟨this.1.1, this.1.2.1, this.2.1.1⟩
  rw [c_Heap_make, b_Heap_make]
  refine wp_fn.mpr ⟨rfl, ?_⟩
  and_intros
  have e : decide ((ps.length : Int) = 0) = false := by
    cases ps with
    | nil => exact absurd rfl hne
    | cons a r => simp; omega
  rw [e]
  and_intros
  refine (room_ok (n + 1) k' l).imp0 fun v h1 a => ?_
  obtain ⟨rfl, rfl⟩ := a
  and_intros
  refine (box_init_ok n _ _ _ _ 0 get_new).imp0 fun v h2 a => ?_
  obtain ⟨rfl, rfl⟩ := a
  have hl1 := lt_of_get hp
  have hl2 := lt_of_get ht
  have hne1 : h1.length + 1 ≠ td := by omega
  have hne2 : h1.length + 1 ≠ p := by omega
  simp only [List.length_append, List.length_set, List.length_cons, List.length_nil, Nat.zero_add]
  refine ⟨trivial, ?_⟩
  have hlc : (dOf cs).length < 1000 := by rw [k.bx] at l2; simpa [dOf] using l2
  and_intros
  have hn' : ∀ c ∈ cs, c.1.at_ ≠ s.fresh := fun c hc => hn _ (by rw [k.bx]; exact List.mem_map.mpr ⟨c, hc, rfl⟩)
  have hlen : (dPut (dOf cs) (Sum.inl s.fresh) (Val.ref (List.length h1 + 1))).length = s.bx.length + 1 := by
    rw [dPut_new _ hn', k.bx]; simp [dOf]
  rw [hlen]
  have hkp := fun (B D F : Ob) => ((((((Keep.refl (W := fun x => x = p ∨ x = td) (h := h1)).set (n := p) (o := (Ob.ins 1
                          (fPut 4 (Val.int (s.fresh + 1))
                            [(3, Val.int s.size), (4, Val.int s.fresh), (5, Val.int s.anew), (6, Val.int s.peak),
                              (7, Val.ref td), (8, Val.ref kd)]))) fun _ => .inl rfl).app (t := [Ob.lst ps])).app (t := [Ob.ins 0 []])).set (n := h1.length + 1) (o := B) fun z => absurd z (by omega)).set (n := td) (o := D) fun _ => .inr rfl).set (n := p) (o := F) fun _ => .inl rfl
  have hkp := hkp (Ob.ins 0 [(0, Val.str tag), (1, Val.ref (List.length h1)), (2, Val.int 1)]) (Ob.dct (dPut (dOf cs) (Sum.inl s.fresh) (Val.ref (List.length h1 + 1))))
              (Ob.ins 1
                (fPut 6
                  (Val.int
                    (if ((s.bx.length + 1 : Nat) : Int) > s.peak then
                      ((s.bx.length + 1 : Nat) : Int)
                    else s.peak))
                  (fPut 4 (Val.int (s.fresh + 1))
                    [(3, Val.int s.size), (4, Val.int s.fresh), (5, Val.int s.anew), (6, Val.int s.peak),
                      (7, Val.ref td), (8, Val.ref kd)])))
  have hb0 : ∀ c ∈ cs, c.2.1 ∈ adOf p td kd cs := fun c hc => by simp only [adOf, List.mem_cons, List.mem_append, List.mem_map]; exact .inr (.inr (.inr (.inl ⟨c, hc, rfl⟩)))
  have hl0 : ∀ c ∈ cs, c.2.2 ∈ adOf p td kd cs := fun c hc => by simp only [adOf, List.mem_cons, List.mem_append, List.mem_map]; exact .inr (.inr (.inr (.inr ⟨c, hc, rfl⟩)))
  have hpt : ∀ x ∈ cs.map (·.2.1) ++ cs.map (·.2.2), ¬ (x = p ∨ x = td) := by
    have := nd
    simp only [adOf, List.nodup_cons, List.mem_cons, not_or] at this
    rintro x hx (rfl | rfl)
    · exact this.1.2.2 hx
    · exact this.2.1.2 hx
  have hb1 : ∀ c ∈ cs, ¬ (c.2.1 = p ∨ c.2.1 = td) := fun c hc => hpt _ (List.mem_append.mpr (.inl (List.mem_map.mpr ⟨c, hc, rfl⟩)))
  have hl1' : ∀ c ∈ cs, ¬ (c.2.2 = p ∨ c.2.2 = td) := fun c hc => hpt _ (List.mem_append.mpr (.inr (List.mem_map.mpr ⟨c, hc, rfl⟩)))
  refine ⟨rfl, ⟨adOf p td kd (cs ++ [(⟨s.fresh, tag, ps, 1⟩, h1.length + 1, h1.length)]), ⟨td, kd, _, rfl, ?_⟩, ?_, ?_⟩, ?_⟩
  · refine { nd := ?_, bx := ?_, hp := ?_, ht := ?_, hk := ?_, hb := ?_, hl := ?_ }
    · have nd' := nd
      have hx : ∀ x ∈ cs.map (·.2.1) ++ cs.map (·.2.2), x < h1.length := fun x hx => hlt x (by simp only [adOf, List.mem_cons]; exact .inr (.inr (.inr hx)))
      have hkl := lt_of_get hk
      have perm : (adOf p td kd (cs ++ [((⟨s.fresh, tag, ps, 1⟩ : AB), h1.length + 1, h1.length)])).Perm ((h1.length + 1) :: h1.length :: adOf p td kd cs) := by
        unfold adOf
        simp only [List.map_append, List.map_cons, List.map_nil]
        refine List.perm_iff_count.mpr fun a => ?_
        simp only [List.count_cons, List.count_append, List.count_nil]
        omega
      rw [perm.nodup_iff]
      refine List.nodup_cons.mpr ⟨?_, List.nodup_cons.mpr ⟨?_, nd⟩⟩
      · intro z
        rcases List.mem_cons.mp z with z | z
        · omega
        · have := hlt _ z; omega
      · intro z
        have := hlt _ z; omega
    · rw [List.map_append, ← k.bx]; rfl
    · refine (get_set (o := (Ob.ins 1
                          (fPut 4 (Val.int (s.fresh + 1))
                            [(3, Val.int s.size), (4, Val.int s.fresh), (5, Val.int s.anew), (6, Val.int s.peak),
                              (7, Val.ref td), (8, Val.ref kd)]))) ?_).trans rfl
      array_get_dec
    · refine (?_ : _ = some (Ob.dct (dPut (dOf cs) (Sum.inl s.fresh) (Val.ref (List.length h1 + 1))))).trans ?_
      · array_get_dec
      · rw [dPut_new _ hn']; simp [dOf]
    · exact hkp.get hk (by omega)
    · intro c hc
      rcases List.mem_append.mp hc with hc | hc
      · exact hkp.get (k.hb c hc) (hb1 c hc)
      · simp only [List.mem_singleton] at hc
        subst hc
        dsimp only
        have e0 : (h1.set p (Ob.ins 1
                          (fPut 4 (Val.int (s.fresh + 1))
                            [(3, Val.int s.size), (4, Val.int s.fresh), (5, Val.int s.anew), (6, Val.int s.peak),
                              (7, Val.ref td), (8, Val.ref kd)])) ++ [Ob.lst ps] ++ [Ob.ins 0 []])[h1.length + 1]? = some (.ins 0 []) := by
          have := get_new (h := h1.set p (Ob.ins 1
                          (fPut 4 (Val.int (s.fresh + 1))
                            [(3, Val.int s.size), (4, Val.int s.fresh), (5, Val.int s.anew), (6, Val.int s.peak),
                              (7, Val.ref td), (8, Val.ref kd)])) ++ [Ob.lst ps]) (o := .ins 0 [])
          simpa using this
        array_get_dec
    · intro c hc
      rcases List.mem_append.mp hc with hc | hc
      · exact hkp.get (k.hl c hc) (hl1' c hc)
      · simp only [List.mem_singleton] at hc
        subst hc
        dsimp only
        have e1 : (h1.set p (Ob.ins 1
                          (fPut 4 (Val.int (s.fresh + 1))
                            [(3, Val.int s.size), (4, Val.int s.fresh), (5, Val.int s.anew), (6, Val.int s.peak),
                              (7, Val.ref td), (8, Val.ref kd)])) ++ [Ob.lst ps])[h1.length]? = some (.lst ps) := by
          have := get_new (h := h1.set p (Ob.ins 1
                          (fPut 4 (Val.int (s.fresh + 1))
                            [(3, Val.int s.size), (4, Val.int s.fresh), (5, Val.int s.anew), (6, Val.int s.peak),
                              (7, Val.ref td), (8, Val.ref kd)]))) (o := .lst ps)
          rwa [List.length_set] at this
        have n1 : p ≠ h1.length := by omega
        have n2 : td ≠ h1.length := by omega
        have n3 : h1.length + 1 ≠ h1.length := by omega
        array_get_dec
  · intro x hx
    simp only [adOf, List.map_append, List.map_cons, List.map_nil, List.mem_cons, List.mem_append, List.not_mem_nil, or_false] at hx ⊢
    rcases hx with rfl | rfl | rfl | (hx | rfl) | (hx | rfl)
    · exact .inl (.inl rfl)
    · exact .inl (.inr (.inl rfl))
    · exact .inl (.inr (.inr (.inl rfl)))
    · exact .inl (.inr (.inr (.inr (.inl hx))))
    · exact .inr (by omega)
    · exact .inl (.inr (.inr (.inr (.inr hx))))
    · exact .inr (Nat.le_refl _)
  · simp [adOf]
  · refine hkp.mono fun x _ e => ?_
    rcases e with rfl | rfl <;> simp [adOf]
theorem HK.find {s : AH} {p td kd : Nat} {cs : List (AB × Nat × Nat)} {h : Mem} (k : HK s p td kd cs h) (ndA : (s.bx.map (·.at_)).Nodup) {b : AB} (hb : b ∈ s.bx) :
    ∃ c ∈ cs, c.1 = b ∧ dGet (dOf cs) (.inl b.at_) = some (.ref c.2.1) := by
  rw [k.bx] at hb ndA
  obtain ⟨c, hc, rfl⟩ := List.mem_map.mp hb
  refine ⟨c, hc, rfl, ?_⟩
  rw [dGet_dOf, find_at (c := c) (by rw [List.map_map] at ndA; exact ndA) hc rfl]
  rfl
/-- box_of at a box that is there and held -/
theorem box_of_ok {s : AH} {p td kd : Nat} {cs : List (AB × Nat × Nat)} {h : Mem} (n : Nat) (k : HK s p td kd cs h) (x : Val) {c : AB × Nat × Nat} (hc : c ∈ cs) (g : dGet (dOf cs) (.inl c.1.at_) = some (.ref c.2.1)) (h0 : c.1.ct ≠ 0) :
    Wp (callN D (n + 1) 2 [.ref p, .tup [x, .int c.1.at_]] h) (fun v h' => v = .ref c.2.1 ∧ h' = h) X0 := by
  have hp := k.hp
  have ht := k.ht
  have hb := k.hb c hc
  rw [c_Heap_box_of, b_Heap_box_of]
  refine wp_fn.mpr ⟨rfl, ?_⟩
  and_intros
  rw [g]
  have e : decide (c.1.ct = 0) = false := by simpa using h0
  simp only [Option.getD_some]
  and_intros
  rw [e]
  and_intros
  exact ⟨rfl, rfl⟩
theorem look_ok {s : AH} {p : Nat} {ad : List Nat} {h : Mem} (n : Nat) (k : HOK s p ad h) (x : Val) (ndA : (s.bx.map (·.at_)).Nodup) {b : AB} (hb : b ∈ s.bx) (h0 : b.ct ≠ 0) :
    Wp (callN D (n + 2) 9 [.ref p, .tup [x, .int b.at_]] h) (fun v h' => ∃ q, v = .tup [.str b.tag, .ref q] ∧ h.length ≤ q ∧ h'[q]? = some (.lst b.ps) ∧ K0 h h') X0 := by
  obtain ⟨td, kd, cs, rfl, k⟩ := k
  obtain ⟨c, hc, rfl, g⟩ := k.find ndA hb
  have hp := k.hp
  have hb := k.hb c hc
  have hl := k.hl c hc
  rw [c_Heap_look, b_Heap_look]
  refine wp_fn.mpr ⟨rfl, ?_⟩
  and_intros
  refine (box_of_ok n k x hc g h0).imp0 fun v h1 a => ?_
  obtain ⟨rfl, rfl⟩ := a
  and_intros
  exact ⟨_, rfl, Nat.le_refl _, get_new, Keep.refl.app⟩
theorem look_tag_ok (n : Nat) (p : Nat) (s : Str) (h : Mem) : Wp (callN D (n + 1) 9 [.ref p, .str s] h) (fun v h' => ∃ q, v = .tup [.str s, .ref q] ∧ h.length ≤ q ∧ h'[q]? = some (.lst []) ∧ K0 h h') X0 := by
  rw [c_Heap_look, b_Heap_look]
  refine wp_fn.mpr ⟨rfl, ?_⟩
  and_intros
  exact ⟨_, rfl, Nat.le_refl _, get_new, Keep.refl.app⟩
theorem work_ok (n : Nat) (v : Val) (u : Val) (h : Mem) : Wp (callN D (n + 1) 12 [v, u] h) (fun v h' => v = .int 0 ∧ h' = h) X0 := by
  rw [c_Heap_work, b_Heap_work]
  refine wp_fn.mpr ⟨rfl, ?_⟩
  and_intros
  exact ⟨rfl, rfl⟩
theorem waits_ok (n : Nat) (v : Val) (h : Mem) : Wp (callN D (n + 1) 15 [v] h) (fun v h' => v = .ref h.length ∧ h' = h ++ [.lst []]) X0 := by
  rw [c_Heap_waits, b_Heap_waits]
  refine wp_fn.mpr ⟨rfl, ?_⟩
  and_intros
  exact ⟨rfl, rfl⟩
theorem keeping_ok {s : AH} {p : Nat} {ad : List Nat} {h : Mem} (n : Nat) (k : HOK s p ad h) (e : s.kept = []) : Wp (callN D (n + 1) 14 [.ref p] h) (fun v h' => v = .ref h.length ∧ h' = h ++ [.lst []]) X0 := by
  obtain ⟨td, kd, cs, rfl, k⟩ := k
  have hp := k.hp
  have hk := k.hk
  rw [e] at hk
  rw [c_Heap_keeping, b_Heap_keeping]
  refine wp_fn.mpr ⟨rfl, ?_⟩
  and_intros
  unfold oSorted onR
  simp only [hk]
  exact .mk' ⟨rfl, rfl⟩
/-! ### all boxes told -/
/-- the rows, each with a list of its own behind lo, one behind another -/
def Rows (h : Mem) (lo : Nat) : List AB → List Val → Prop
  | [], vs => vs = []
  | b :: bs, vs => ∃ q ws, vs = .tup [.int b.at_, .str b.tag, .ref q, .int b.ct] :: ws ∧ lo ≤ q ∧ h[q]? = some (.lst b.ps) ∧ Rows h (q + 1) bs ws
theorem Rows.keep {h h' : Mem} {lo : Nat} {W : Nat → Prop} (k : Keep W h h') : ∀ {bs : List AB} {vs : List Val}, (∀ x, lo ≤ x → ¬ W x) → Rows h lo bs vs → Rows h' lo bs vs
  | [], _, w, r => r
  | b :: bs, _, w, ⟨q, ws, e, l, g, r⟩ => ⟨q, ws, e, l, k.get g (w q l), Rows.keep k (fun x hx => w x (by omega)) r⟩
theorem Rows.snoc {h h' : Mem} {lo : Nat} {b : AB} {q : Nat} {W : Nat → Prop} (k : Keep W h h') (hq : h.length ≤ q) (g : h'[q]? = some (.lst b.ps)) : ∀ {bs : List AB} {vs : List Val}, lo ≤ q → (∀ x, lo ≤ x → ¬ W x) → Rows h lo bs vs → Rows h' lo (bs ++ [b]) (vs ++ [.tup [.int b.at_, .str b.tag, .ref q, .int b.ct]])
  | [], _, l, w, r => by rw [show _ = [] from r]; exact ⟨q, [], rfl, l, g, rfl⟩
  | a :: bs, _, l, w, ⟨q', ws, e, l', g', r⟩ => ⟨q', _, by rw [e]; rfl, l', k.get g' (w _ l'), Rows.snoc k hq g (by have := lt_of_get g'; omega) (fun x hx => w x (by omega)) r⟩
theorem Rows.len {h : Mem} : ∀ {lo : Nat} {bs : List AB} {vs : List Val}, Rows h lo bs vs → vs.length = bs.length
  | _, [], _, r => by rw [show _ = [] from r]; rfl
  | _, b :: bs, _, ⟨q, ws, e, l, g, r⟩ => by rw [e]; simp [r.len]
theorem keyInts_dOf (cs : List (AB × Nat × Nat)) : keyInts (dOf cs) = some (cs.map (·.1.at_)) := by
  unfold keyInts dOf
  rw [List.map_map]
  exact (congrArg intsOf (by rw [List.map_map]; rfl)).trans (intsOf_map _)
theorem boxes_ok {s : AH} {p : Nat} {ad : List Nat} {h : Mem} (n : Nat) (k : HOK s p ad h) (ndA : (s.bx.map (·.at_)).Pairwise (· < ·)) (l : s.bx.length < 64) :
    Wp (callN D (n + 1) 13 [.ref p] h) (fun v h' => ∃ r vs, v = .ref r ∧ h.length ≤ r ∧ h'[r]? = some (.lst vs) ∧ Rows h' (r + 1) s.bx vs ∧ K0 h h') X0 := by
  obtain ⟨td, kd, cs, rfl, k⟩ := k
  have hp := k.hp
  have ht := k.ht
  have nd : (s.bx.map (·.at_)).Nodup := ndA.imp fun a b => by omega
  have le : (s.bx.map (·.at_)).Pairwise (· ≤ ·) := ndA.imp fun a => by omega
  rw [c_Heap_boxes, b_Heap_boxes]
  refine wp_fn.mpr ⟨rfl, ?_⟩
  and_intros
  have ht1 : (h ++ [Ob.lst []])[td]? = some (.dct (dOf cs)) := get_app ht
  have hlen : (cs.map (·.1.at_)).length < 64 := by rw [k.bx] at l; simpa using l
  have hso : sortI (cs.map (·.1.at_)) = cs.map (·.1.at_) := sortI_id (by rw [k.bx, List.map_map] at le; exact le)
  refine w_sortD ht1 (keyInts_dOf cs) hlen ?_
  rw [hso]
  refine w_srcL get_new ?_
  have k0 : K0 h (h ++ [Ob.lst []] ++ [Ob.lst ((cs.map (·.1.at_)).map Val.int)]) := Keep.refl.app.app
  have gr : (h ++ [Ob.lst []] ++ [Ob.lst ((cs.map (·.1.at_)).map Val.int)])[h.length]? = some (.lst []) := get_app get_new
  have gs : (h ++ [Ob.lst []] ++ [Ob.lst ((cs.map (·.1.at_)).map Val.int)])[h.length + 1]? = some (Ob.lst ((cs.map (·.1.at_)).map Val.int)) := by
    have := get_new (h := h ++ [Ob.lst []]) (o := Ob.lst ((cs.map (·.1.at_)).map Val.int))
    simpa using this
  simp only [List.length_append, List.length_cons, List.length_nil, Nat.zero_add]
  refine ws_forL (fun i σ h' => (∃ s2 s3, σ = [some (.ref p), some (.ref h.length), s2, s3]) ∧ h'[h.length + 1]? = some (Ob.lst ((cs.map (·.1.at_)).map Val.int)) ∧ K0 h h' ∧ ∃ vs, h'[h.length]? = some (.lst vs) ∧ Rows h' (h.length + 1) ((cs.take i).map (·.1)) vs ∧ vs.length ≤ i) ?_ ?_ ?_ ?_
  · exact ⟨⟨_, _, rfl⟩, gs, k0, [], gr, rfl, Nat.le_refl _⟩
  · intro i σ h' a
    simpa using a.2.1
  · rintro i v σ h' hv ⟨⟨s2, s3, rfl⟩, gs, k0, vs, gr, rr, lv⟩
    have hv' : ∃ c, cs[i]? = some c ∧ v = .int c.1.at_ := by
      simp only [List.getElem?_map, Option.map_map, Option.map_eq_some_iff] at hv
      obtain ⟨c, e, rfl⟩ := hv
      exact ⟨c, e, rfl⟩
    obtain ⟨c, hci, rfl⟩ := hv'
    have hc : c ∈ cs := List.mem_of_getElem? hci
    have k1 := k.keep k0 fun _ _ => id
    obtain ⟨c', hc', e', g⟩ := k1.find nd (b := c.1) (by rw [k.bx]; exact List.mem_map.mpr ⟨c, hc, rfl⟩)
    have hp1 := k1.hp
    have ht1 := k1.ht
    have hb1 := k1.hb c' hc'
    have hl1 := k1.hl c' hc'
    rw [e'] at hb1 hl1
    have hi : i < cs.length := by
      rcases Nat.lt_or_ge i cs.length with z | z
      · exact z
      · rw [List.getElem?_eq_none z] at hci; cases hci
    have hl3 : vs.length < 1000 := by rw [List.length_map] at hlen; omega
    refine ⟨_, rfl, ?_⟩
    and_intros
    refine w_ixd ht1 g ?_
    and_intros
    have hlh : h.length < h'.length := lt_of_get gr
    have kk : Keep (fun x => x = h.length) h' ((h' ++ [Ob.lst c.1.ps]).set h.length (Ob.lst (vs ++ [.tup [.int c.1.at_, .str c.1.tag, .ref h'.length, .int c.1.ct]]))) := Keep.refl.app.set fun _ => rfl
    refine ⟨⟨_, _, rfl⟩, kk.get gs (by omega), (k0.app).set fun z => absurd z (by omega), _, get_set (get_app gr), ?_, ?_⟩
    · have tk : (cs.take (i + 1)).map (·.1) = (cs.take i).map (·.1) ++ [c.1] := by
        rw [List.take_add_one, hci]; simp
      rw [tk]
      refine Rows.snoc kk (Nat.le_refl _) ?_ (by omega) (fun x hx => by omega) rr
      refine get_set_ne get_new (by omega)
    · simp; omega
  · rintro σ h' ⟨⟨s2, s3, rfl⟩, gs, k0, vs, gr, rr, lv⟩
    and_intros
    refine ⟨_, vs, rfl, Nat.le_refl _, gr, ?_, k0⟩
    have : ((cs.map (·.1.at_)).map Val.int).length = cs.length := by simp
    rw [this, List.take_length, ← k.bx] at rr
    exact rr

theorem dep_pos (t : Tr) : 1 ≤ t.dep := by cases t <;> simp [Tr.dep]
theorem alike_zip {k : Nat} (ih : ∀ (t : Tr) (v u : Val) (h : Mem), t.dep ≤ k → Rep h t v → Rep h t u → Wp (callN D k 200 [v, u] h) (fun r h' => r = .bl true ∧ K0 h h') X0)
    {ts : List Tr} {xs ys : List Val} {σ : Sg} {h : Mem} {chk : Mem → Bool} (hσ : σ.length = 4) (hc : ∀ h', K0 h h' → chk h' = true) (hx : xs.length ≤ 1000000) (r1 : Reps h ts xs) (r2 : Reps h ts ys) (l : deps ts ≤ k) :
    Wp (lcL (ctT (.t [2, 3])) bYes (eCall 2 (callN D k 200) [] (aCons (eVar 2) (aCons (eVar 3) aNil))) chk (wipeS σ [2, 3]) (pairUp xs ys) h) (fun zs h' => zs = List.replicate ts.length (.bl true) ∧ K0 h h') X0 := by
  refine wp_lcL (fun i zs h' => zs = List.replicate i (.bl true) ∧ K0 h h') ⟨rfl, .refl⟩ (fun i zs h' a => hc h' a.2) ?_ ?_
  · intro i v zs h' hv a
    obtain ⟨p, q, e1, e2, rfl⟩ := pairUp_get1 hv
    obtain ⟨t, f1, g1, d1⟩ := r1.get e1
    obtain ⟨t', f2, g2, d2⟩ := r2.get e2
    rw [f1] at f2; cases f2
    match σ, hσ with
    | [s0, s1, s2, s3], _ =>
      refine ⟨[s0, s1, some p, some q], rfl, ?_⟩
      refine wp_bYes.mpr ?_
      and_intros
      refine (ih t p q h' (by omega) (g1.keep0 a.2) (g2.keep0 a.2)).imp0 fun r h2 b => ?_
      rw [b.1, a.1]
      exact ⟨replicate_snoc, a.2.trans b.2⟩
  · intro zs h' a
    rw [pairUp_len1 (r1.len.trans r2.len.symm), r1.len] at a
    exact a
theorem alike_ok : ∀ (k : Nat) (t : Tr) (v u : Val) (h : Mem), t.dep ≤ k → Rep h t v → Rep h t u → Wp (callN D k 200 [v, u] h) (fun r h' => r = .bl true ∧ K0 h h') X0 := by
  intro k
  induction k with
  | zero => intro t v u h l _ _; have := dep_pos t; omega
  | succ k ih =>
    intro t v u h l rv ru
    rw [c_law_alike]
    cases t with
    | non => unfold Rep at rv ru; subst rv; subst ru; (rw [b_law_alike]; refine wp_fn.mpr ⟨rfl, ?_⟩; and_intros; first | exact ⟨by simp, Keep.refl⟩ | (rw [decide_eq_true rfl]; exact ⟨rfl, Keep.refl⟩))
    | bl b => unfold Rep at rv ru; subst rv; subst ru; (rw [b_law_alike]; refine wp_fn.mpr ⟨rfl, ?_⟩; and_intros; first | exact ⟨by simp, Keep.refl⟩ | (rw [decide_eq_true rfl]; exact ⟨rfl, Keep.refl⟩))
    | int b => unfold Rep at rv ru; subst rv; subst ru; (rw [b_law_alike]; refine wp_fn.mpr ⟨rfl, ?_⟩; and_intros; first | exact ⟨by simp, Keep.refl⟩ | (rw [decide_eq_true rfl]; exact ⟨rfl, Keep.refl⟩))
    | str b => unfold Rep at rv ru; subst rv; subst ru; (rw [b_law_alike]; refine wp_fn.mpr ⟨rfl, ?_⟩; and_intros; first | exact ⟨by simp, Keep.refl⟩ | (rw [decide_eq_true rfl]; exact ⟨rfl, Keep.refl⟩))
    | tup ts =>
      unfold Rep at rv ru
      obtain ⟨xs, rfl, lx, rx⟩ := rv
      obtain ⟨ys, rfl, ly, ry⟩ := ru
      rw [Tr.dep] at l
      have e1 := rx.len.trans ry.len.symm
      rw [b_law_alike]
      refine wp_fn.mpr ⟨rfl, ?_⟩
      and_intros
      have e2 : decide ((xs.length : Int) = (ys.length : Int)) = true := by simp [e1]
      rw [e2]
      and_intros
      refine ⟨_, rfl, ?_, (alike_zip ih rfl (fun _ _ => rfl) lx rx ry (by omega)).imp0 fun zs h' a => ?_⟩
      · rw [show (Src.mk (pairUp xs ys) yes).items = pairUp xs ys from rfl, pairUp_len1 e1]; exact lx
      rw [a.1]
      and_intros
      refine w_allT get_new ?_
      exact ⟨rfl, a.2.app⟩
    | lst ts =>
      unfold Rep at rv ru
      obtain ⟨xs, hx, lx, rx⟩ := rv
      obtain ⟨ys, hy, ly, ry⟩ := ru
      rw [Tr.dep] at l
      have e1 := rx.len.trans ry.len.symm
      have e2 : decide ((xs.length : Int) = (ys.length : Int)) = true := by simp [e1]
      have ox : ∀ h', K0 h h' → lstOf h' v = some xs := fun h' k => by rcases hx with rfl | ⟨n, rfl, g⟩ <;> simp [lstOf, k.get0, *]
      have oy : ∀ h', K0 h h' → lstOf h' u = some ys := fun h' k => by rcases hy with rfl | ⟨n, rfl, g⟩ <;> simp [lstOf, k.get0, *]
      have zz : zipV h v u = some ⟨pairUp xs ys, fun h' => decide (lstOf h' v = some xs ∧ lstOf h' u = some ys)⟩ := by
        rcases hx with rfl | ⟨n, rfl, g⟩ <;> simp [zipV, ox h .refl, oy h .refl]
      rw [b_law_alike]
      refine wp_fn.mpr ⟨rfl, ?_⟩
      rcases hx with rfl | ⟨n, rfl, gx⟩ <;> rcases hy with rfl | ⟨m, rfl, gy⟩ <;> (
        and_intros
        rw [e2]
        and_intros
        refine ⟨_, zz, ?_, (alike_zip ih rfl (fun h' k => by simp [ox h' k, oy h' k]) lx rx ry (by omega)).imp0 fun zs h' a => ?_⟩
        · show (pairUp xs ys).length ≤ _
          rw [pairUp_len1 e1]; exact lx
        rw [a.1]
        and_intros
        refine w_allT get_new ?_
        exact ⟨rfl, a.2.app⟩)

theorem SOk_letters : SOk letters := by
  have : letters.cps.toList.all (fun c => decide (c < 1114112)) = true := by decide
  intro c hc
  exact of_decide_eq_true (List.all_eq_true.mp this c hc)
theorem SOk_letter (i : Int) : SOk (letterAt i) := by
  unfold letterAt
  split
  · rename_i c e
    intro d hd
    have hd : d = c := by simpa using hd
    subst hd
    unfold L2.atI at e
    obtain ⟨j, _, e⟩ := Option.bind_eq_some_iff.mp e
    exact SOk_letters d (List.mem_of_getElem? e)
  · intro c hc; exact absurd hc (by decide +revert)
theorem SOk_nm (c : Int) : SOk (nm c) := by
  have : SOk (nmS c) := SOk.join fun a ha => by
    simp only [nmL, List.mem_map] at ha; obtain ⟨k, _, rfl⟩ := ha; exact SOk_letter _
  refine SOk.app (SOk.app (this.cut _ _) ?_) (this.cut _ _)
  intro c hc
  have z : (Str.ofString "z").cps.toList = [122] := by decide
  have hc : c ∈ (Str.ofString "z").cps.toList := hc
  rw [z] at hc
  have := List.mem_singleton.mp hc
  omega
theorem part_lay (c : Int) (k : Nat) : (part c k).lay := by
  unfold part; split
  · exact lay_str (SOk_nm _)
  · rfl
theorem part_one (c : Int) (k : Nat) : (part c k).dep = 1 ∧ (part c k).sz = 1 := by
  unfold part; split <;> exact ⟨rfl, rfl⟩
theorem PT_lays (c : Int) : ∀ t ∈ PT c, t.lay := by
  intro t ht
  simp only [PT, List.mem_map] at ht
  obtain ⟨k, _, rfl⟩ := ht
  exact part_lay c k
theorem deps_one {ts : List Tr} (h : ∀ t ∈ ts, t.dep = 1 ∧ t.sz = 1) : deps ts ≤ 1 ∧ szs ts ≤ ts.length + 1 := by
  induction ts with
  | nil => exact ⟨Nat.zero_le _, Nat.le_refl _⟩
  | cons t ts ih =>
    have := ih fun t ht => h t (List.mem_cons_of_mem _ ht)
    have := h t (List.mem_cons_self ..)
    rw [deps, szs, List.length_cons]
    omega
theorem PT_one (c : Int) : deps (PT c) ≤ 1 ∧ szs (PT c) ≤ 11 := by
  have m := mny_lt c
  have := deps_one (ts := PT c) (fun t ht => by simp only [PT, List.mem_map] at ht; obtain ⟨k, _, rfl⟩ := ht; exact part_one c k)
  have : (PT c).length = (mny c).toNat := by simp [PT]
  omega
theorem P_small (c : Int) : (P c).length < 10 := by
  have m := mny_lt c
  rw [P_len]; omega
theorem rep_lst {h : Mem} {q : Nat} {ts : List Tr} {xs : List Val} (g : h[q]? = some (.lst xs)) (l : xs.length ≤ 1000000) (r : Reps h ts xs) : Rep h (.lst ts) (.ref q) := by
  unfold Rep; exact ⟨xs, .inr ⟨q, rfl, g⟩, l, r⟩
theorem rep_P {h : Mem} {q : Nat} {c : Int} (g : h[q]? = some (.lst (P c))) : Rep h (.lst (PT c)) (.ref q) := rep_lst g (by have := P_small c; omega) (P_rep c h)
theorem vEq_P {h : Mem} {q r : Nat} {c : Int} (g : h[q]? = some (.lst (P c))) (g' : h[r]? = some (.lst (P c))) : vEq h (.ref q) (.ref r) = some true := by
  have a := PT_one c
  exact vEq_rep (rep_P g) (rep_P g') (by rw [Tr.sz]; omega) (by rw [Tr.dep]; omega) (lay_lst (PT_lays c))
/-- what a make leaves: the state, and what it tells -/
def nxt (s : AH) (c : Int) : AH := if mny c = 0 then s else { s with fresh := s.fresh + 1, peak := if ((s.bx.length + 1 : Nat) : Int) > s.peak then ((s.bx.length + 1 : Nat) : Int) else s.peak, bx := s.bx ++ [⟨s.fresh, nm c, P c, 1⟩] }
theorem vEq_e {h : Mem} {q r : Nat} (g : h[q]? = some (.lst [])) (g' : h[r]? = some (.lst [])) : vEq h (.ref q) (.ref r) = some true :=
  vEq_rep (t := .lst []) (by unfold Rep; exact ⟨[], .inr ⟨q, rfl, g⟩, by decide, by unfold Reps; rfl⟩) (by unfold Rep; exact ⟨[], .inr ⟨r, rfl, g'⟩, by decide, by unfold Reps; rfl⟩) (by decide) (by decide) rfl
theorem make_empty {h : Mem} (n : Nat) (p : Val) (tag : Str) (q : Nat) (g : h[q]? = some (.lst [])) : Wp (callN D (n + 1) 3 [p, .str tag, .ref q, .non] h) (fun v h' => v = .str tag ∧ h' = h) X0 := by
  rw [c_Heap_make, b_Heap_make]
  refine wp_fn.mpr ⟨rfl, ?_⟩
  and_intros
  exact ⟨rfl, rfl⟩
theorem made_ok {s : AH} {p : Nat} {ad : List Nat} {h : Mem} (n : Nat) (c : Int) (k : HOK s p ad h) (hp : p ∈ ad) (l : mny c ≠ 0 → (s.bx.length : Int) + s.kept.length < s.size) (hn : ∀ b ∈ s.bx, b.at_ ≠ s.fresh) (l2 : s.bx.length < 1000) :
    Wp (callN D (n + 6) 204 [.ref p, .int c, .int s.fresh] h) (fun v h' => v = .bl true ∧ (∃ ad', HOK (nxt s c) p ad' h' ∧ (∀ x ∈ ad', x ∈ ad ∨ h.length ≤ x) ∧ p ∈ ad') ∧ Keep (· ∈ ad) h h') X0 := by
  rw [c_law_made, b_law_made]
  refine wp_fn.mpr ⟨rfl, ?_⟩
  and_intros
  refine (name_ok (n + 4) c h).imp0 fun v h1 a => ?_
  obtain ⟨rfl, k1⟩ := a
  and_intros
  refine (many_ok (n + 4) c h1).imp0 fun v h1' a => ?_
  obtain ⟨rfl, rfl⟩ := a
  and_intros
  refine (parts_ok (n + 3) c h1').imp0 fun v h2 a => ?_
  obtain ⟨q, rfl, lq, gq, k2⟩ := a
  and_intros
  have k12 := k1.trans k2
  have k3 : K0 h (h2 ++ [.lst (P c)]) := k12.app
  have hk3 := k.keep0 k3
  obtain ⟨td, kd, cs, rfl, hk⟩ := id hk3
  have hpp := hk.hp
  have hadp : ∀ x ∈ adOf p td kd cs, x < h.length := k.lt
  have hqn : q ∉ adOf p td kd cs := fun z => by have := hadp _ z; have := k1.1; omega
  have hpn : h2.length ∉ adOf p td kd cs := fun z => by have := hadp _ z; have := k12.1; omega
  by_cases hm : mny c = 0
  · have e0 : P c = [] := List.eq_nil_of_length_eq_zero (by rw [P_len, hm]; rfl)
    have hs : nxt s c = s := by unfold nxt; rw [if_pos hm]
    rw [e0] at gq hk hpp hk3 k3 ⊢
    and_intros
    refine (make_empty (n + 4) _ _ _ get_new).imp0 fun v h3 a => ?_
    obtain ⟨rfl, rfl⟩ := a
    have hq2 := lt_of_get gq
    have hq3 : h2.length ≠ q := by omega
    and_intros
    refine wp_oNe.mpr ⟨true, vEq_e get_new (get_app gq), ?_⟩
    and_intros
    refine wp_oEq.mpr ⟨true, vEq_e (by array_get_dec) get_new, ?_⟩
    and_intros
    refine (alike_ok (n + 5) (.str (nm c)) _ _ _ (by simp only [Tr.dep]; omega) (by unfold Rep; rfl) (by unfold Rep; rfl)).imp0 fun v h4 a => ?_
    obtain ⟨rfl, k4⟩ := a
    have k5 : Keep (· ∈ adOf p td kd cs) h h4 := Keep.trans (Keep.app (Keep.set (Keep.of0 k3) fun z => absurd z (by have := k12.1; omega))) (Keep.of0 k4)
    have k6 : HOK s p (adOf p td kd cs) h4 := (hk3.keep (Keep.set (W := (· = h2.length)) Keep.refl fun _ => rfl) (fun x hx e => hpn (e ▸ hx))).keep0 ((Keep.app Keep.refl).trans k4)
    obtain ⟨td', kd', cs', e6, k6'⟩ := id k6
    have hp6 := k6'.hp
    and_intros
    refine (look_tag_ok (n + 4) _ _ _).imp0 fun v h5 a => ?_
    obtain ⟨q5, rfl, l5, g5, k7⟩ := a
    and_intros
    refine (alike_ok (n + 5) (.tup [.str (nm c), .lst []]) _ _ _ (by simp only [Tr.dep, deps]; omega) ?_ ?_).imp0 fun v h6 a => ?_
    · simp only [Rep, Reps]
      exact ⟨_, rfl, by simp, _, _, rfl, rfl, _, _, rfl, ⟨[], .inr ⟨q5, rfl, get_app g5⟩, by simp, rfl⟩, rfl⟩
    · simp only [Rep, Reps]
      exact ⟨_, rfl, by simp, _, _, rfl, rfl, _, _, rfl, ⟨[], .inr ⟨_, rfl, get_new⟩, by simp, rfl⟩, rfl⟩
    obtain ⟨rfl, k8⟩ := a
    have k9 : K0 h4 h6 := (k7.app).trans k8
    rw [hs]
    exact ⟨rfl, ⟨_, k6.keep0 k9, fun x hx => .inl hx, hp⟩, k5.trans k9.of0⟩
  · have l := l hm
    have e0 : P c ≠ [] := fun e => by
      have := P_len c
      rw [e] at this
      have := mny_lt c
      rw [List.length_nil] at *
      omega
    have hs : nxt s c = { s with fresh := s.fresh + 1, peak := if ((s.bx.length + 1 : Nat) : Int) > s.peak then ((s.bx.length + 1 : Nat) : Int) else s.peak, bx := s.bx ++ [⟨s.fresh, nm c, P c, 1⟩] } := by unfold nxt; rw [if_neg hm]
    and_intros
    refine (make_ok (n + 2) (nm c) (P c) h2.length hk3 get_new e0 l hn l2).imp0 fun v h3 a => ?_
    obtain ⟨rfl, ⟨ad', ko, hsub, hpa⟩, k4⟩ := a
    have g1 : h3[h2.length]? = some (.lst (P c)) := k4.get get_new hpn
    have g2 : h3[q]? = some (.lst (P c)) := k4.get (get_app gq) hqn
    have hq2 := lt_of_get gq
    have hq3 : h2.length ≠ q := by omega
    have hPl := P_small c
    and_intros
    refine wp_oNe.mpr ⟨true, vEq_P g1 g2, ?_⟩
    and_intros
    obtain ⟨t0, ts0, eT⟩ : ∃ t ts, PT c = t :: ts := by
      cases e : PT c with
      | nil => exact absurd (by simp [P, e]) e0
      | cons t ts => exact ⟨t, ts, rfl⟩
    refine wp_oEq.mpr ⟨false, vEq_nil (t := t0) (ts := ts0) (xs := P c) (by array_get_dec) get_new (by rw [← eT]; exact P_rep c _) ?_ ?_ ?_ (by omega), ?_⟩
    · rw [← eT, Tr.sz]; have := PT_one c; omega
    · rw [← eT, Tr.dep]; have := PT_one c; omega
    · rw [← eT]; exact lay_lst (PT_lays c)
    and_intros
    refine (alike_ok (n + 5) (.tup [.str "box", .int s.fresh]) _ _ _ (by simp only [Tr.dep, deps]; omega) ?_ ?_).imp0 fun v h6 a => ?_
    · simp only [Rep, Reps]
      exact ⟨_, rfl, by simp, _, _, rfl, rfl, _, _, rfl, rfl, rfl⟩
    · simp only [Rep, Reps]
      exact ⟨_, rfl, by simp, _, _, rfl, rfl, _, _, rfl, rfl, rfl⟩
    obtain ⟨rfl, k8⟩ := a
    have hsub' : ∀ x ∈ ad', x ∈ adOf p td kd cs ∨ h.length ≤ x := fun x hx => (hsub x hx).imp id fun z => by have := k3.1; omega
    have hnd : h2.length ∉ ad' := fun z => by
      rcases hsub _ z with z | z
      · exact hpn z
      · rw [List.length_append, List.length_singleton] at z; omega
    rw [hs]
    refine ⟨rfl, ⟨ad', (ko.keep (Keep.set (W := (· = h2.length)) Keep.refl fun _ => rfl) (fun x hx e => hnd (e ▸ hx))).keep0 ((Keep.app Keep.refl).trans k8), hsub', ?_⟩, ?_⟩
    · obtain ⟨td', kd', cs', e, _⟩ := ko
      rw [e]; simp [adOf]
    · exact (Keep.app (Keep.set ((Keep.of0 k3).trans k4) fun z => absurd z (by have := k12.1; omega))).trans k8.of0

def bxF (i : Nat) : List Int → List AB
  | [] => []
  | c :: r => ⟨i, nm c, P c, 1⟩ :: bxF (i + 1) r
def rwT (i : Nat) (c : Int) : Tr := .tup [.int i, .str (nm c), .lst (PT c), .int 1]
def rwF (i : Nat) : List Int → List Tr
  | [] => []
  | c :: r => rwT i c :: rwF (i + 1) r
theorem bxF_snoc (c : Int) : ∀ (l : List Int) (i : Nat), bxF i (l ++ [c]) = bxF i l ++ [⟨((i + l.length : Nat) : Int), nm c, P c, 1⟩]
  | [], i => rfl
  | a :: l, i => by
    have := bxF_snoc c l (i + 1)
    simp only [List.cons_append, bxF, this, List.length_cons]
    rw [show i + 1 + l.length = i + (l.length + 1) by omega]
theorem bxF_len : ∀ (l : List Int) (i : Nat), (bxF i l).length = l.length
  | [], _ => rfl
  | a :: l, i => by rw [bxF, List.length_cons, bxF_len l, List.length_cons]
theorem bxF_at : ∀ (l : List Int) (i : Nat), ∀ b ∈ bxF i l, (i : Int) ≤ b.at_ ∧ b.at_ < ((i + l.length : Nat) : Int) ∧ b.ct = 1 ∧ ∃ c, b.tag = nm c ∧ b.ps = P c
  | [], _, b, hb => by cases hb
  | a :: l, i, b, hb => by
    rcases List.mem_cons.mp hb with rfl | hb
    · exact ⟨Int.le_refl _, by simp; omega, rfl, a, rfl, rfl⟩
    · obtain ⟨h1, h2, h3⟩ := bxF_at l (i + 1) b hb
      refine ⟨by omega, ?_, h3⟩
      simp only [List.length_cons]; omega
theorem bxF_sorted : ∀ (l : List Int) (i : Nat), ((bxF i l).map (·.at_)).Pairwise (· < ·)
  | [], _ => .nil
  | a :: l, i => by
    refine List.pairwise_cons.mpr ⟨?_, bxF_sorted l (i + 1)⟩
    intro j hj
    obtain ⟨b, hb, rfl⟩ := List.mem_map.mp hj
    have := (bxF_at l (i + 1) b hb).1
    show (i : Int) < _
    omega
theorem rows_reps {h : Mem} : ∀ {l : List Int} {i lo : Nat} {vs : List Val}, Rows h lo (bxF i l) vs → Reps h (rwF i l) vs
  | [], i, lo, vs, r => by rw [show vs = [] from r]; unfold rwF Reps; rfl
  | c :: l, i, lo, vs, ⟨q, ws, e, l', g, r⟩ => by
    unfold rwF Reps
    refine ⟨_, ws, e, ?_, rows_reps r⟩
    unfold rwT
    have := P_small c
    simp only [Rep, Reps]
    exact ⟨_, rfl, by simp, _, _, rfl, rfl, _, _, rfl, rfl, _, _, rfl, ⟨P c, .inr ⟨q, rfl, g⟩, by omega, P_rep c h⟩, _, _, rfl, rfl, rfl⟩
theorem rwF_len : ∀ (l : List Int) (i : Nat), (rwF i l).length = l.length
  | [], _ => rfl
  | a :: l, i => by rw [rwF, List.length_cons, rwF_len l, List.length_cons]
theorem rwF_dep : ∀ (l : List Int) (i : Nat), deps (rwF i l) ≤ 3
  | [], _ => by rw [rwF, deps]; omega
  | a :: l, i => by
    have := rwF_dep l (i + 1)
    have := (PT_one a).1
    rw [rwF, deps, rwT]
    simp only [Tr.dep, deps]
    omega
def sOf (size : Int) (ms : List Int) : AH := ⟨size, ms.length, 0, ms.length, bxF 0 ms, []⟩
theorem waits_ok' (n : Nat) (v : Val) (h : Mem) : Wp (callN D (n + 1) 15 [v] h) (fun v h' => ∃ q, v = .ref q ∧ h.length ≤ q ∧ h'[q]? = some (.lst []) ∧ K0 h h') X0 :=
  (waits_ok n v h).imp fun v h' a => by obtain ⟨rfl, rfl⟩ := a; exact ⟨_, rfl, Nat.le_refl _, get_new, Keep.refl.app⟩
theorem keeping_ok' {s : AH} {p : Nat} {ad : List Nat} {h : Mem} (n : Nat) (k : HOK s p ad h) (e : s.kept = []) : Wp (callN D (n + 1) 14 [.ref p] h) (fun v h' => ∃ q, v = .ref q ∧ h.length ≤ q ∧ h'[q]? = some (.lst []) ∧ K0 h h') X0 :=
  (keeping_ok n k e).imp fun v h' a => by obtain ⟨rfl, rfl⟩ := a; exact ⟨_, rfl, Nat.le_refl _, get_new, Keep.refl.app⟩
theorem told_ok {size : Int} {ms : List Int} {p : Nat} {ad : List Nat} {h : Mem} (n : Nat) (k : HOK (sOf size ms) p ad h) {rw_ : Nat} {rvs : List Val} (gr : h[rw_]? = some (.lst rvs)) (rr : Reps h (rwF 0 ms) rvs) (l : ms.length ≤ 63) :
    Wp (callN D (n + 8) 205 [.ref p, .ref rw_, .int size] h) (fun v h' => v = .bl true ∧ K0 h h') X0 := by
  have hrl : rvs.length = ms.length := by rw [rr.len, rwF_len]
  have hbl : (sOf size ms).bx.length < 64 := by show (bxF 0 ms).length < 64; rw [bxF_len]; omega
  have hsr : ((sOf size ms).bx.map (·.at_)).Pairwise (· < ·) := bxF_sorted ms 0
  have hnd : ((sOf size ms).bx.map (·.at_)).Nodup := hsr.imp fun a b => by omega
  have hrw : ∀ h', K0 h h' → Rep h' (.lst (rwF 0 ms)) (.ref rw_) := fun h' k => rep_lst (k.get0 gr) (by omega) (rr.keep0 k)
  have hdep : (Tr.lst (rwF 0 ms)).dep ≤ 4 := by have := rwF_dep ms 0; rw [Tr.dep]; omega
  obtain ⟨td, kd, cs, rfl, k'⟩ := id k
  have hp := k'.hp
  rw [c_law_told, b_law_told]
  refine wp_fn.mpr ⟨rfl, ?_⟩
  and_intros
  refine (boxes_ok (n + 6) k hsr hbl).imp0 fun v h1 a => ?_
  obtain ⟨r, vs, rfl, lr, g1, rows1, k1⟩ := a
  have hvl := rows1.len
  rw [show (sOf size ms).bx = bxF 0 ms from rfl] at hvl rows1
  rw [bxF_len] at hvl
  and_intros
  refine (alike_ok (n + 7) _ _ _ _ (by omega) (rep_lst g1 (by omega) (rows_reps rows1)) (hrw _ k1)).imp0 fun v h2 a => ?_
  obtain ⟨rfl, k2⟩ := a
  have k12 : K0 h h2 := k1.trans k2
  have g2 := k2.get0 g1
  have rows2 := rows1.keep k2 (fun _ _ => id)
  have hr1 := lt_of_get g1
  and_intros
  refine ws_forL (fun i σ h' => (∃ s4 s5 s6, σ = [some (.ref p), some (.ref rw_), some (.int size), some (.ref r), s4, s5, s6]) ∧ K0 h h' ∧ h'[r]? = some (.lst vs) ∧ ∃ lo, r < lo ∧ Rows h' lo ((bxF 0 ms).drop i) (vs.drop i)) ?_ ?_ ?_ ?_
  · exact ⟨⟨_, _, _, rfl⟩, k12, g2, r + 1, Nat.lt_succ_self _, rows2⟩
  · intro i σ h' a
    simpa using a.2.2.1
  · rintro i v σ h' hv ⟨⟨s4, s5, s6, rfl⟩, kk, gg, lo, hlo, rows⟩
    have hd : vs.drop i = v :: vs.drop (i + 1) := by
      have hi : i < vs.length := by
        rcases Nat.lt_or_ge i vs.length with z | z
        · exact z
        · rw [List.getElem?_eq_none z] at hv; cases hv
      rw [List.drop_eq_getElem_cons hi]
      rw [List.getElem?_eq_getElem hi] at hv
      cases hv; rfl
    rw [hd] at rows
    cases eb : (bxF 0 ms).drop i with
    | nil => rw [eb] at rows; cases rows
    | cons b bs =>
      rw [eb] at rows
      obtain ⟨q, ws, e, lq, gq, rows'⟩ := rows
      cases e
      have hbm : b ∈ bxF 0 ms := List.mem_of_mem_drop (by rw [eb]; exact List.mem_cons_self ..)
      obtain ⟨b1, b2, b3, c, b4, b5⟩ := bxF_at ms 0 b hbm
      have ebs : (bxF 0 ms).drop (i + 1) = bs := by rw [← List.drop_drop, eb]; rfl
      have hk1 := k.keep0 kk
      have hp1 := kk.get0 hp
      rw [b5] at gq
      have hq2 := lt_of_get gq
      refine ⟨_, rfl, ?_⟩
      and_intros
      refine (look_ok (n + 5) hk1 _ hnd (b := b) hbm (by rw [b3]; decide)).imp0 fun v h3 a => ?_
      obtain ⟨q5, rfl, l5, g5, k3⟩ := a
      rw [b5] at g5
      have gq3 := k3.get0 gq
      and_intros
      have hP := P_small c
      refine (alike_ok (n + 7) (.tup [.str b.tag, .lst (PT c)]) _ _ _ (by have := PT_one c; simp only [Tr.dep, deps]; omega) ?_ ?_).imp0 fun v h4 a => ?_
      · simp only [Rep, Reps]
        exact ⟨_, rfl, by simp, _, _, rfl, rfl, _, _, rfl, ⟨P c, .inr ⟨q5, rfl, g5⟩, by omega, P_rep c _⟩, rfl⟩
      · simp only [Rep, Reps]
        exact ⟨_, rfl, by simp, _, _, rfl, rfl, _, _, rfl, ⟨P c, .inr ⟨q, rfl, gq3⟩, by omega, P_rep c _⟩, rfl⟩
      obtain ⟨rfl, k4⟩ := a
      have g6 := k4.get0 g5
      have gq4 := k4.get0 gq3
      have k34 := k3.trans k4
      have hne : q5 ≠ q := by omega
      have hkl := kk.1
      and_intros
      have kk' : Keep (· = q) h' ((h4.set q5 (.lst (P c ++ [.int 1]))).set q (.lst (P c ++ [.int (-1)]))) := ((Keep.of0 k34).set fun z => absurd z (by omega)).set fun _ => rfl
      refine ⟨⟨_, _, _, rfl⟩, ?_, kk'.get gg (by omega), q + 1, by omega, ?_⟩
      · exact ((kk.trans k34).set fun z => absurd z (by omega)).set fun z => absurd z (by omega)
      · rw [ebs]
        exact rows'.keep kk' (fun x hx => by omega)
  · rintro σ h' ⟨⟨s4, s5, s6, rfl⟩, kk, gg, lo, hlo, rows⟩
    have had : ∀ x ∈ adOf p td kd cs, x < h.length := k.lt
    have hpl := lt_of_get hp
    have hrp : r ≠ p := by omega
    have hk1 : HOK (sOf size ms) p (adOf p td kd cs) (h'.set r (.lst (vs ++ [.int 0]))) := (k.keep0 kk).keep (Keep.set (W := (· = r)) Keep.refl fun _ => rfl) fun x hx e => by have := had x hx; omega
    have kk1 : K0 h (h'.set r (.lst (vs ++ [.int 0]))) := kk.set fun z => absurd z (by omega)
    have hp1 := kk1.get0 hp
    have hkl := kk.1
    and_intros
    refine (keeping_ok' (n + 6) hk1 rfl).imp0 fun v h3 a => ?_
    obtain ⟨q3, rfl, l3, g3, k3⟩ := a
    have l3' : h.length ≤ q3 := Nat.le_trans kk1.1 l3
    have kk3 : K0 h (h3.set q3 (.lst ([] ++ [.int 0]))) := (kk1.trans k3).set fun z => absurd z (by omega)
    have hk3 := k.keep0 kk3
    have hp3 := kk3.get0 hp
    and_intros
    refine (waits_ok' (n + 6) _ _).imp0 fun v h4 a => ?_
    obtain ⟨q4, rfl, l4, g4, k4⟩ := a
    have l4' : h.length ≤ q4 := Nat.le_trans kk3.1 l4
    have kk4 : K0 h (h4.set q4 (.lst ([] ++ [.int 0]))) := (kk3.trans k4).set fun z => absurd z (by omega)
    have hk4 := k.keep0 kk4
    have hp4 := kk4.get0 hp
    and_intros
    refine (keeping_ok' (n + 6) hk4 rfl).imp0 fun v h5 a => ?_
    obtain ⟨q5, rfl, l5, g5, k5⟩ := a
    have hp5 := k5.get0 hp4
    and_intros
    refine (waits_ok' (n + 6) _ _).imp0 fun v h6 a => ?_
    obtain ⟨q6, rfl, l6, g6, k6⟩ := a
    have hp6 := k6.get0 hp5
    and_intros
    refine (work_ok (n + 6) _ _ _).imp0 fun v h7 a => ?_
    obtain ⟨rfl, rfl⟩ := a
    have kk7 : K0 h h7 := (kk4.trans k5).trans k6
    have gr7 := kk7.get0 gr
    have g56 := k6.get0 g5
    and_intros
    refine (alike_ok (n + 7) (.lst [.int size, .int ms.length, .int ms.length, .int 0, .lst [], .lst [], .int 0]) _ _ _ (by simp only [Tr.dep, deps]; omega) ?_ ?_).imp0 fun v h8 a => ?_
    · simp only [Rep, Reps]
      refine ⟨_, .inr ⟨_, rfl, get_app (get_app (get_app get_new))⟩, by simp, _, _, rfl, rfl, _, _, rfl, rfl, _, _, rfl, rfl, _, _, rfl, rfl, _, _, rfl, ⟨[], .inr ⟨_, rfl, ?_⟩, by simp, rfl⟩, _, _, rfl, ⟨[], .inr ⟨_, rfl, ?_⟩, by simp, rfl⟩, _, _, rfl, rfl, rfl⟩
      · array_get_dec
      · array_get_dec
    · simp only [Rep, Reps]
      refine ⟨_, .inr ⟨_, rfl, get_new⟩, by simp, _, _, rfl, rfl, _, _, rfl, by rw [hrl], _, _, rfl, by rw [hrl], _, _, rfl, rfl, _, _, rfl, ⟨[], .inr ⟨_, rfl, ?_⟩, by simp, rfl⟩, _, _, rfl, ⟨[], .inr ⟨_, rfl, ?_⟩, by simp, rfl⟩, _, _, rfl, rfl, rfl⟩
      · exact get_app (get_app get_new)
      · exact get_app get_new
    obtain ⟨rfl, k8⟩ := a
    have kk8 : K0 h h8 := kk7.app.app.app.app.trans k8
    have hk8 := k.keep0 kk8
    have hp8 := kk8.get0 hp
    and_intros
    refine (boxes_ok (n + 6) hk8 hsr hbl).imp0 fun v h9 a => ?_
    obtain ⟨r9, vs9, rfl, lr9, g9, rows9, k9⟩ := a
    have hvl9 := rows9.len
    rw [show (sOf size ms).bx = bxF 0 ms from rfl] at hvl9 rows9
    rw [bxF_len] at hvl9
    have kk9 := kk8.trans k9
    and_intros
    refine (alike_ok (n + 7) _ _ _ _ (by omega) (rep_lst g9 (by omega) (rows_reps rows9)) (hrw _ kk9)).imp0 fun v h10 a => ?_
    obtain ⟨rfl, k10⟩ := a
    exact ⟨rfl, kk9.trans k10⟩

def mks (ns : List Int) : List Int := ns.filter fun c => decide (0 < mny c)
theorem rwF_snoc (c : Int) : ∀ (l : List Int) (i : Nat), rwF i (l ++ [c]) = rwF i l ++ [rwT (i + l.length) c]
  | [], i => rfl
  | a :: l, i => by
    have := rwF_snoc c l (i + 1)
    simp only [List.cons_append, rwF, this, List.length_cons]
    rw [show i + 1 + l.length = i + (l.length + 1) by omega]
theorem mks_succ {ns : List Int} {i : Nat} {c : Int} (e : ns[i]? = some c) : mks (ns.take (i + 1)) = if mny c = 0 then mks (ns.take i) else mks (ns.take i) ++ [c] := by
  have m := mny_lt c
  unfold mks
  rw [List.take_add_one, e, List.filter_append]
  by_cases z : mny c = 0
  · rw [if_pos z]; simp [z]
  · rw [if_neg z]
    have : 0 < mny c := by omega
    simp [this]
theorem mks_le (ns : List Int) (i : Nat) : (mks (ns.take i)).length ≤ (mks ns).length := by
  have : (mks (ns.take i)).Sublist (mks ns) := (List.take_sublist i ns).filter _
  exact this.length_le
theorem mks_len (ns : List Int) : (mks ns).length ≤ ns.length := List.length_filter_le _ _
theorem nxt_sOf (size : Int) (ms : List Int) (c : Int) : nxt (sOf size ms) c = sOf size (if mny c = 0 then ms else ms ++ [c]) := by
  unfold nxt
  by_cases z : mny c = 0
  · rw [if_pos z, if_pos z]
  · rw [if_neg z, if_neg z]
    unfold sOf
    rw [bxF_snoc]
    simp only [bxF_len, List.length_append, List.length_singleton, Nat.zero_add]
    have : (((ms.length + 1 : Nat) : Int) > (ms.length : Int)) := by omega
    rw [if_pos this]
    rfl
theorem sOf_fresh (size : Int) (ms : List Int) : ∀ b ∈ (sOf size ms).bx, b.at_ ≠ (sOf size ms).fresh := by
  intro b hb e
  have := (bxF_at ms 0 b hb).2.1
  have e : b.at_ = (ms.length : Int) := e
  omega
theorem law_true : ∀ ns : List Int, ns.length ≤ 63 → (∀ z ∈ ns, Builtin.Int.intBits z ≤ 1048576) → ∃ h', callN D 30 206 [.frl (ns.map .int)] [] = some (.ok (.bl true) h') := by
  intro ns hl _
  suffices H : Wp (callN D (18 + 12) 206 [.frl (ns.map .int)] []) (fun v h' => v = .bl true) X0 by
    obtain ⟨x, h, e, rfl⟩ := H.ok
    exact ⟨h, e⟩
  rw [c_law, b_law, show callM D (18 + 11) = callN D (27 + 1) from rfl]
  refine wp_fn.mpr ⟨rfl, ?_⟩
  and_intros
  have ecut : cutL (ns.map Val.int) none (some 63) = ns.map .int := by
    unfold cutL
    rw [HT.sIx_none, show (63 : Int) = ((63 : Nat) : Int) from rfl, HT.sIx_nat]
    simp only [Nat.min_eq_left, List.length_map, HT.sIx]
    rw [List.drop_zero, List.take_of_length_le]
    simp; omega
  rw [ecut]
  refine ws_forL (fun i σ h => (∃ s3, σ = [some (.frl (ns.map .int)), some (.ref 0), some (.ref 1), s3, none, none, none, none]) ∧ h[0]? = some (.lst (ns.map .int)) ∧ ∃ vs, h[1]? = some (.lst vs) ∧ Rows h 2 (bxF 0 (mks (ns.take i))) vs) ?_ ?_ ?_ ?_
  · exact ⟨⟨_, rfl⟩, rfl, [], rfl, rfl⟩
  · intro i σ h a
    simpa using a.2.1
  · rintro i v σ h hv ⟨⟨s3, rfl⟩, g0, vs, g1, rows⟩
    simp only [List.getElem?_map, Option.map_eq_some_iff] at hv
    obtain ⟨c, hc, rfl⟩ := hv
    have hvl := rows.len
    rw [bxF_len] at hvl
    have hml := mks_le ns i
    have hnl := mks_len ns
    refine ⟨_, rfl, ?_⟩
    and_intros
    refine (many_ok 28 c h).imp0 fun v h1 a => ?_
    obtain ⟨rfl, rfl⟩ := a
    and_intros
    have m := mny_lt c
    refine w_dec (fun e => ?_) (fun e => ?_)
    · have e : mny c ≠ 0 := by have e : 0 < mny c := e; omega
      and_intros
      refine (name_ok 28 c _).imp0 fun v h2 a => ?_
      obtain ⟨rfl, k2⟩ := a
      and_intros
      refine (many_ok 28 c _).imp0 fun v h2' a => ?_
      obtain ⟨rfl, rfl⟩ := a
      and_intros
      refine (parts_ok 27 c h2').imp0 fun v h3 a => ?_
      obtain ⟨q, rfl, lq, gq, k3⟩ := a
      have k23 := k2.trans k3
      have g1' := k23.get0 g1
      have g0' := k23.get0 g0
      have hl1 := lt_of_get g1
      have hk2 := k2.1
      and_intros
      refine ⟨⟨_, rfl⟩, ?_, _, get_set g1', ?_⟩
      · exact get_set_ne g0' (by decide)
      · rw [mks_succ hc, if_neg e, bxF_snoc]
        have hb := Rows.snoc (b := ⟨((0 + (mks (ns.take i)).length : Nat) : Int), nm c, P c, 1⟩) (h := h1) (h' := h3.set 1 (.lst (vs ++ [.tup [.int vs.length, .str (nm c), .ref q, .int 1]]))) (lo := 2) (q := q) (W := (· = 1)) ((Keep.of0 k23).set fun _ => rfl) (by omega) (get_set_ne gq (by omega)) (by omega) (fun x hx => by omega) rows
        dsimp only at hb
        rw [show ((0 + (mks (ns.take i)).length : Nat) : Int) = (vs.length : Int) by rw [hvl]; simp] at hb ⊢
        exact hb
    · have e : mny c = 0 := by have e : ¬ 0 < mny c := e; omega
      and_intros
      refine ⟨⟨_, rfl⟩, g0, vs, g1, ?_⟩
      rw [mks_succ hc, if_pos e]
      exact rows
  · rintro σ h ⟨⟨s3, rfl⟩, g0, vs, g1, rows⟩
    rw [List.length_map, List.take_length] at rows
    have hvl := rows.len
    rw [bxF_len] at hvl
    have hnl := mks_len ns
    have hl1 := lt_of_get g1
    and_intros
    refine w_sumI (get_app g0) ?_
    and_intros
    obtain ⟨size, esz, hsz⟩ : ∃ size : Int, L2.atI [Val.int (10 ^ Int.toNat 18), Val.int (vs.length : Int)] (ns.sum % 2) = some (.int size) ∧ ((mks ns).length : Int) ≤ size := by
      have h0 := Int.emod_nonneg ns.sum (show (2 : Int) ≠ 0 by decide)
      have h1 := Int.emod_lt_of_pos ns.sum (show (0 : Int) < 2 by decide)
      have hb : (63 : Int) < 10 ^ Int.toNat 18 := by decide
      rcases (show ns.sum % 2 = 0 ∨ ns.sum % 2 = 1 by omega) with z | z
      · rw [z]; exact ⟨_, rfl, by omega⟩
      · rw [z]; exact ⟨_, rfl, by omega⟩
    refine w_ixl get_new esz ?_
    have hB : (63 : Int) < 10 ^ Int.toNat 18 := by decide
    and_intros
    refine (heap_init_ok 27 _ _ _ get_new).imp0 fun v h1 a => ?_
    obtain ⟨rfl, ko1, k1⟩ := a
    refine ⟨rfl, ?_⟩
    generalize ep1 : (h ++ [Ob.lst [Val.int (10 ^ Int.toNat 18), Val.int (vs.length : Int)]]).length = p1 at ko1 k1 ⊢
    have ep1' : p1 = h.length + 1 := by rw [← ep1]; simp
    have k01 : K0 h h1 := by
      refine (Keep.refl.app.app : K0 h _).trans' k1 fun x hx e => ?_
      have : x = p1 := e
      omega
    and_intros
    refine (heap_init_ok 27 _ _ _ get_new).imp0 fun v h2 a => ?_
    obtain ⟨rfl, ko2, k2⟩ := a
    refine ⟨rfl, ?_⟩
    have hl01 := k01.1
    have hko1 := ko1.lt
    have k02 : K0 h h2 := by
      refine (k01.app : K0 h _).trans' k2 fun x hx e => ?_
      have : x = h1.length := e
      omega
    have ko1' := (ko1.keep0 (Keep.refl.app (t := [Ob.ins 1 []]))).keep k2 (fun x hx e => by
      have := hko1 x hx
      have : x = h1.length := e
      omega)
    have hl2 := k2.1
    simp only [List.length_append, List.length_singleton] at hl2 ko1 ko1' ko2 hko1
    and_intros
    have k0h : K0 h (h2 ++ [Ob.lst [Val.ref p1, Val.ref h1.length]]) := k02.app
    have k0e : K0 h2 (h2 ++ [Ob.lst [Val.ref p1, Val.ref h1.length]]) := Keep.refl.app
    refine w_srcL (k0h.get0 g0) ?_
    generalize hB1 : (10 : Int) ^ Int.toNat 18 = big at *
    have rep0 := rows
    refine ws_forL (fun i σ h' => (∃ s3 s7, σ = [some (.frl (ns.map .int)), some (.ref 0), some (.ref 1), s3, some (.int size), some (.ref h2.length), some (.int ((mks (ns.take i)).length : Int)), s7]) ∧ K0 h h' ∧ h'[h2.length]? = some (.lst [.ref p1, .ref h1.length]) ∧
      ∃ ad1 ad2, HOK (sOf big (mks (ns.take i))) p1 ad1 h' ∧ HOK (sOf size (mks (ns.take i))) h1.length ad2 h' ∧ p1 ∈ ad1 ∧ h1.length ∈ ad2 ∧ (∀ x ∈ ad1, h.length ≤ x ∧ x ≠ h2.length) ∧ (∀ x ∈ ad2, h.length ≤ x ∧ x ≠ h2.length) ∧ ∀ x ∈ ad1, x ∉ ad2) ?_ ?_ ?_ ?_
    · refine ⟨⟨_, _, rfl⟩, k0h, get_new, _, _, ko1'.keep0 k0e, ko2.keep0 k0e, by simp, by simp, ?_, ?_, ?_⟩
      · intro x hx
        have := hko1 x hx
        simp only [List.mem_cons, List.not_mem_nil, or_false] at hx
        omega
      · intro x hx
        have := ko2.lt x hx
        simp only [List.mem_cons, List.not_mem_nil, or_false] at hx
        omega
      · intro x hx hx2
        have := hko1 x hx
        simp only [List.mem_cons, List.not_mem_nil, or_false] at hx2
        omega
    · intro i σ h' a
      simpa using a.2.1.get0 g0
    · rintro i v σ h' hv ⟨⟨s3, s7, rfl⟩, kk, gh, ad1, ad2, o1, o2, m1, m2, a1, a2, dj⟩
      simp only [List.getElem?_map, Option.map_eq_some_iff] at hv
      obtain ⟨c, hc, rfl⟩ := hv
      have hml := mks_le ns i
      have hml1 := mks_le ns (i + 1)
      have hms := mks_succ hc
      have hbx : ∀ z, ((sOf z (mks (ns.take i))).bx.length : Int) + (sOf z (mks (ns.take i))).kept.length = (mks (ns.take i)).length := fun z => by
        show ((bxF 0 _).length : Int) + 0 = _
        rw [bxF_len]; simp
      have hbl : ∀ z, (sOf z (mks (ns.take i))).bx.length < 1000 := fun z => by show (bxF 0 _).length < 1000; rw [bxF_len]; omega
      have hlt : mny c ≠ 0 → (mks (ns.take i)).length < (mks ns).length := fun z => by
        rw [hms, if_neg z, List.length_append, List.length_singleton] at hml1; omega
      refine ⟨_, rfl, ?_⟩
      and_intros
      refine ws_forL_cons (by simpa using gh) rfl ?_
      and_intros
      refine (made_ok 23 c o1 m1 (fun z => by rw [hbx]; have := hlt z; show _ < big; omega) (sOf_fresh _ _) (hbl _)).imp0 fun v h3 a => ?_
      obtain ⟨rfl, ⟨ad1', o1', sub1, m1'⟩, k3⟩ := a
      rw [nxt_sOf, ← hms] at o1'
      have hl2' := lt_of_get gh
      have o2' := o2.keep k3 (fun x hx z => dj x z hx)
      have gh3 := k3.get gh fun z => (a1 _ z).2 rfl
      have kk3 : K0 h h3 := kk.trans' k3 fun x hx z => by have := (a1 x z).1; omega
      have o2lt := o2.lt
      have sub1' : ∀ x ∈ ad1', h.length ≤ x ∧ x ≠ h2.length := fun x hx => (sub1 x hx).elim (a1 x) fun z => by have := kk.1; omega
      have dj' : ∀ x ∈ ad1', x ∉ ad2 := fun x hx z => (sub1 x hx).elim (fun y => dj x y z) fun y => by have := o2lt x z; omega
      and_intros
      refine ws_forL_cons (by simpa using gh3) rfl ?_
      and_intros
      refine (made_ok 23 c o2' m2 (fun z => by rw [hbx]; have := hlt z; show _ < size; omega) (sOf_fresh _ _) (hbl _)).imp0 fun v h4 a => ?_
      obtain ⟨rfl, ⟨ad2', o2'', sub2, m2'⟩, k4⟩ := a
      rw [nxt_sOf, ← hms] at o2''
      have o1'' := o1'.keep k4 (fun x hx z => dj' x hx z)
      have gh4 := k4.get gh3 fun z => (a2 _ z).2 rfl
      have kk4 : K0 h h4 := kk3.trans' k4 fun x hx z => by have := (a2 x z).1; omega
      have o1lt := o1'.lt
      have hl3 := lt_of_get gh3
      have sub2' : ∀ x ∈ ad2', h.length ≤ x ∧ x ≠ h2.length := fun x hx => (sub2 x hx).elim (a2 x) fun z => by have := kk3.1; omega
      have dj'' : ∀ x ∈ ad1', x ∉ ad2' := fun x hx z => (sub2 x z).elim (dj' x hx) fun y => by have := o1lt x hx; omega
      and_intros
      refine ws_forL_nil (by simpa using gh4) ?_
      and_intros
      refine (many_ok 28 c _).imp0 fun v h4' a => ?_
      obtain ⟨rfl, rfl⟩ := a
      and_intros
      refine ⟨⟨some (.int c), some (.ref h1.length), ?_⟩, kk4, gh4, ad1', ad2', o1'', o2'', m1', m2', sub1', sub2', dj''⟩
      have m := mny_lt c
      have : (((mks (ns.take i)).length : Int) + if decide (0 < c / 12 % 10) = true then 1 else 0) = ((mks (ns.take (i + 1))).length : Int) := by
        rw [hms]
        by_cases z : mny c = 0
        · have z' : c / 12 % 10 = 0 := z
          rw [if_pos z, z']; simp
        · have z' : 0 < c / 12 % 10 := by have : 0 < mny c := by omega
                                          exact this
          rw [if_neg z]; simp [z']
      rw [← this]
      rfl
    · rintro σ h' ⟨⟨s3, s7, rfl⟩, kk, gh, ad1, ad2, o1, o2, m1, m2, a1, a2, dj⟩
      rw [List.length_map, List.take_length] at o1 o2
      have rr : ∀ h'', K0 h h'' → Reps h'' (rwF 0 (mks ns)) vs := fun h'' k => rows_reps (rows.keep k fun _ _ => id)
      and_intros
      subst hB1
      refine (told_ok 21 o1 (kk.get0 g1) (rr _ kk) (by omega)).imp0 fun v h3 a => ?_
      obtain ⟨rfl, k3⟩ := a
      have gh3 := k3.get0 gh
      have kk3 := kk.trans k3
      and_intros
      refine (told_ok 21 (o2.keep0 k3) (kk3.get0 g1) (rr _ kk3) (by omega)).imp0 fun v h4 a => ?_
      exact a.1

end K70
end
/-! the end: what the top leaves (printed by gen.py) -/
namespace K70
open PySem PySem.Spec L2 EV
theorem all_mk {K : PySem.W.Frag} {h : Heap} {mg : Str → Option Value} {fa : Addr} {C_Box C_Heap f0 f1 f2 f3 f4 f9 f12 f13 f14 f15 f200 f201 f202 f203 f204 f205 f206 : Addr} (X : K.In h) (G : h.Ns mainGlobals mg) (hfa : mg "law" = some (.ref fa))
    {od0 an0 : Option Addr} {sl0 : Array (Option Value)} {oc0 kV0 dc0 pm0 cd0 ct0 : Value}
    {od1 an1 : Option Addr} {sl1 : Array (Option Value)} {oc1 kV1 dc1 pm1 cd1 ct1 : Value}
    {od2 an2 : Option Addr} {sl2 : Array (Option Value)} {oc2 kV2 dc2 pm2 cd2 ct2 : Value}
    {od3 an3 dd3 : Option Addr} {sl3 sd3 : Array (Option Value)} {oc3 kV3 dc3 pm3 cd3 ct3 cc3 : Value} {dT3 : Addr} {dn3 : Nat}
    {od4 an4 : Option Addr} {sl4 : Array (Option Value)} {oc4 kV4 dc4 pm4 cd4 ct4 : Value}
    {od9 an9 : Option Addr} {sl9 : Array (Option Value)} {oc9 kV9 dc9 pm9 cd9 ct9 : Value}
    {od12 an12 : Option Addr} {sl12 : Array (Option Value)} {oc12 kV12 dc12 pm12 cd12 ct12 : Value}
    {od13 an13 : Option Addr} {sl13 : Array (Option Value)} {oc13 kV13 dc13 pm13 cd13 ct13 : Value}
    {od14 an14 : Option Addr} {sl14 : Array (Option Value)} {oc14 kV14 dc14 pm14 cd14 ct14 : Value}
    {od15 an15 : Option Addr} {sl15 : Array (Option Value)} {oc15 kV15 dc15 pm15 cd15 ct15 : Value}
    {od200 an200 : Option Addr} {sl200 : Array (Option Value)} {oc200 kV200 dc200 pm200 cd200 ct200 : Value}
    {od201 an201 : Option Addr} {sl201 : Array (Option Value)} {oc201 kV201 dc201 pm201 cd201 ct201 : Value}
    {od202 an202 : Option Addr} {sl202 : Array (Option Value)} {oc202 kV202 dc202 pm202 cd202 ct202 : Value}
    {od203 an203 : Option Addr} {sl203 : Array (Option Value)} {oc203 kV203 dc203 pm203 cd203 ct203 : Value}
    {od204 an204 : Option Addr} {sl204 : Array (Option Value)} {oc204 kV204 dc204 pm204 cd204 ct204 : Value}
    {od205 an205 : Option Addr} {sl205 : Array (Option Value)} {oc205 kV205 dc205 pm205 cd205 ct205 : Value}
    {od206 an206 : Option Addr} {sl206 : Array (Option Value)} {oc206 kV206 dc206 pm206 cd206 ct206 : Value}
    (aC_Box : PySem.W.nsIn K mainGlobals "Box" = some (some (.ref C_Box)))
    (pg_Box : PySem.W.plainGet K C_Box Str.empty = true)
    (hd_Box : PySem.W.hasDictIn K C_Box = true)
    (po_Box : PySem.W.plainOver K C_Box = true)
    (sa_Box : PySem.W.findIn K (.ref C_Box) "__setattr__" = some (some (.builtin "object.__setattr__")))
    (mk_Box : PySem.W.makesIn K C_Box = true)
    (kc_Box : PySem.W.keepIn K (.ref C_Box) = true)
    (n_Box_tag : PySem.W.findIn K (.ref C_Box) "tag" = some none)
    (n_Box_parts : PySem.W.findIn K (.ref C_Box) "parts" = some none)
    (n_Box_count : PySem.W.findIn K (.ref C_Box) "count" = some none)
    (n_Box_size : PySem.W.findIn K (.ref C_Box) "size" = some none)
    (n_Box_fresh : PySem.W.findIn K (.ref C_Box) "fresh" = some none)
    (n_Box_anew : PySem.W.findIn K (.ref C_Box) "anew" = some none)
    (n_Box_peak : PySem.W.findIn K (.ref C_Box) "peak" = some none)
    (n_Box_there : PySem.W.findIn K (.ref C_Box) "there" = some none)
    (n_Box_kept : PySem.W.findIn K (.ref C_Box) "kept" = some none)
    (aC_Heap : PySem.W.nsIn K mainGlobals "Heap" = some (some (.ref C_Heap)))
    (pg_Heap : PySem.W.plainGet K C_Heap Str.empty = true)
    (hd_Heap : PySem.W.hasDictIn K C_Heap = true)
    (po_Heap : PySem.W.plainOver K C_Heap = true)
    (sa_Heap : PySem.W.findIn K (.ref C_Heap) "__setattr__" = some (some (.builtin "object.__setattr__")))
    (mk_Heap : PySem.W.makesIn K C_Heap = true)
    (kc_Heap : PySem.W.keepIn K (.ref C_Heap) = true)
    (n_Heap_tag : PySem.W.findIn K (.ref C_Heap) "tag" = some none)
    (n_Heap_parts : PySem.W.findIn K (.ref C_Heap) "parts" = some none)
    (n_Heap_count : PySem.W.findIn K (.ref C_Heap) "count" = some none)
    (n_Heap_size : PySem.W.findIn K (.ref C_Heap) "size" = some none)
    (n_Heap_fresh : PySem.W.findIn K (.ref C_Heap) "fresh" = some none)
    (n_Heap_anew : PySem.W.findIn K (.ref C_Heap) "anew" = some none)
    (n_Heap_peak : PySem.W.findIn K (.ref C_Heap) "peak" = some none)
    (n_Heap_there : PySem.W.findIn K (.ref C_Heap) "there" = some none)
    (n_Heap_kept : PySem.W.findIn K (.ref C_Heap) "kept" = some none)
    (a0_Box : PySem.W.findIn K (.ref C_Box) "__init__" = some (some (.ref f0)))
    (i0 : PySem.W.isFn K (.ref f0) = true)
    (l0 : K.lookup f0 = some ⟨oc0, od0, .func (PySem.W.fnOf "__init__" "Box.__init__" (defArgs st_0) (defBody st_0) (defScope st_0) .none kV0 dc0 pm0 an0 cd0 ct0), sl0⟩)
    (c0 : PySem.W.codeIn K cd0 "Box.__init__" = true)
    (k0 : PySem.W.keepIn K (.ref f0) = true)
    (a1_Heap : PySem.W.findIn K (.ref C_Heap) "__init__" = some (some (.ref f1)))
    (i1 : PySem.W.isFn K (.ref f1) = true)
    (l1 : K.lookup f1 = some ⟨oc1, od1, .func (PySem.W.fnOf "__init__" "Heap.__init__" (defArgs st_1) (defBody st_1) (defScope st_1) .none kV1 dc1 pm1 an1 cd1 ct1), sl1⟩)
    (c1 : PySem.W.codeIn K cd1 "Heap.__init__" = true)
    (k1 : PySem.W.keepIn K (.ref f1) = true)
    (a2_Heap : PySem.W.findIn K (.ref C_Heap) "box_of" = some (some (.ref f2)))
    (i2 : PySem.W.isFn K (.ref f2) = true)
    (l2 : K.lookup f2 = some ⟨oc2, od2, .func (PySem.W.fnOf "box_of" "Heap.box_of" (defArgs st_2) (defBody st_2) (defScope st_2) .none kV2 dc2 pm2 an2 cd2 ct2), sl2⟩)
    (c2 : PySem.W.codeIn K cd2 "Heap.box_of" = true)
    (k2 : PySem.W.keepIn K (.ref f2) = true)
    (a3_Heap : PySem.W.findIn K (.ref C_Heap) "make" = some (some (.ref f3)))
    (i3 : PySem.W.isFn K (.ref f3) = true)
    (l3 : K.lookup f3 = some ⟨oc3, od3, .func (PySem.W.fnOf "make" "Heap.make" (defArgs st_3) (defBody st_3) (defScope st_3) (.ref dT3) kV3 dc3 pm3 an3 cd3 ct3), sl3⟩)
    (d3 : K.lookup dT3 = some ⟨cc3, dd3, .seq #[Value.none] dn3, sd3⟩)
    (c3 : PySem.W.codeIn K cd3 "Heap.make" = true)
    (k3 : PySem.W.keepIn K (.ref f3) = true)
    (a4_Heap : PySem.W.findIn K (.ref C_Heap) "see_to_room" = some (some (.ref f4)))
    (i4 : PySem.W.isFn K (.ref f4) = true)
    (l4 : K.lookup f4 = some ⟨oc4, od4, .func (PySem.W.fnOf "see_to_room" "Heap.see_to_room" (defArgs st_4) (defBody st_4) (defScope st_4) .none kV4 dc4 pm4 an4 cd4 ct4), sl4⟩)
    (c4 : PySem.W.codeIn K cd4 "Heap.see_to_room" = true)
    (k4 : PySem.W.keepIn K (.ref f4) = true)
    (a9_Heap : PySem.W.findIn K (.ref C_Heap) "look" = some (some (.ref f9)))
    (i9 : PySem.W.isFn K (.ref f9) = true)
    (l9 : K.lookup f9 = some ⟨oc9, od9, .func (PySem.W.fnOf "look" "Heap.look" (defArgs st_9) (defBody st_9) (defScope st_9) .none kV9 dc9 pm9 an9 cd9 ct9), sl9⟩)
    (c9 : PySem.W.codeIn K cd9 "Heap.look" = true)
    (k9 : PySem.W.keepIn K (.ref f9) = true)
    (a12_Heap : PySem.W.findIn K (.ref C_Heap) "work" = some (some (.ref f12)))
    (i12 : PySem.W.isFn K (.ref f12) = true)
    (l12 : K.lookup f12 = some ⟨oc12, od12, .func (PySem.W.fnOf "work" "Heap.work" (defArgs st_12) (defBody st_12) (defScope st_12) .none kV12 dc12 pm12 an12 cd12 ct12), sl12⟩)
    (c12 : PySem.W.codeIn K cd12 "Heap.work" = true)
    (k12 : PySem.W.keepIn K (.ref f12) = true)
    (a13_Heap : PySem.W.findIn K (.ref C_Heap) "boxes" = some (some (.ref f13)))
    (i13 : PySem.W.isFn K (.ref f13) = true)
    (l13 : K.lookup f13 = some ⟨oc13, od13, .func (PySem.W.fnOf "boxes" "Heap.boxes" (defArgs st_13) (defBody st_13) (defScope st_13) .none kV13 dc13 pm13 an13 cd13 ct13), sl13⟩)
    (c13 : PySem.W.codeIn K cd13 "Heap.boxes" = true)
    (k13 : PySem.W.keepIn K (.ref f13) = true)
    (a14_Heap : PySem.W.findIn K (.ref C_Heap) "keeping" = some (some (.ref f14)))
    (i14 : PySem.W.isFn K (.ref f14) = true)
    (l14 : K.lookup f14 = some ⟨oc14, od14, .func (PySem.W.fnOf "keeping" "Heap.keeping" (defArgs st_14) (defBody st_14) (defScope st_14) .none kV14 dc14 pm14 an14 cd14 ct14), sl14⟩)
    (c14 : PySem.W.codeIn K cd14 "Heap.keeping" = true)
    (k14 : PySem.W.keepIn K (.ref f14) = true)
    (a15_Heap : PySem.W.findIn K (.ref C_Heap) "waits" = some (some (.ref f15)))
    (i15 : PySem.W.isFn K (.ref f15) = true)
    (l15 : K.lookup f15 = some ⟨oc15, od15, .func (PySem.W.fnOf "waits" "Heap.waits" (defArgs st_15) (defBody st_15) (defScope st_15) .none kV15 dc15 pm15 an15 cd15 ct15), sl15⟩)
    (c15 : PySem.W.codeIn K cd15 "Heap.waits" = true)
    (k15 : PySem.W.keepIn K (.ref f15) = true)
    (a200 : PySem.W.nsIn K mainGlobals "_law_alike" = some (some (.ref f200)))
    (l200 : K.lookup f200 = some ⟨oc200, od200, .func (PySem.W.fnOf "_law_alike" "_law_alike" (defArgs st_200) (defBody st_200) (defScope st_200) .none kV200 dc200 pm200 an200 cd200 ct200), sl200⟩)
    (c200 : PySem.W.codeIn K cd200 "_law_alike" = true)
    (k200 : PySem.W.keepIn K (.ref f200) = true)
    (a201 : PySem.W.nsIn K mainGlobals "_law_name" = some (some (.ref f201)))
    (l201 : K.lookup f201 = some ⟨oc201, od201, .func (PySem.W.fnOf "_law_name" "_law_name" (defArgs st_201) (defBody st_201) (defScope st_201) .none kV201 dc201 pm201 an201 cd201 ct201), sl201⟩)
    (c201 : PySem.W.codeIn K cd201 "_law_name" = true)
    (k201 : PySem.W.keepIn K (.ref f201) = true)
    (a202 : PySem.W.nsIn K mainGlobals "_law_parts" = some (some (.ref f202)))
    (l202 : K.lookup f202 = some ⟨oc202, od202, .func (PySem.W.fnOf "_law_parts" "_law_parts" (defArgs st_202) (defBody st_202) (defScope st_202) .none kV202 dc202 pm202 an202 cd202 ct202), sl202⟩)
    (c202 : PySem.W.codeIn K cd202 "_law_parts" = true)
    (k202 : PySem.W.keepIn K (.ref f202) = true)
    (a203 : PySem.W.nsIn K mainGlobals "_law_many" = some (some (.ref f203)))
    (l203 : K.lookup f203 = some ⟨oc203, od203, .func (PySem.W.fnOf "_law_many" "_law_many" (defArgs st_203) (defBody st_203) (defScope st_203) .none kV203 dc203 pm203 an203 cd203 ct203), sl203⟩)
    (c203 : PySem.W.codeIn K cd203 "_law_many" = true)
    (k203 : PySem.W.keepIn K (.ref f203) = true)
    (a204 : PySem.W.nsIn K mainGlobals "_law_made" = some (some (.ref f204)))
    (l204 : K.lookup f204 = some ⟨oc204, od204, .func (PySem.W.fnOf "_law_made" "_law_made" (defArgs st_204) (defBody st_204) (defScope st_204) .none kV204 dc204 pm204 an204 cd204 ct204), sl204⟩)
    (c204 : PySem.W.codeIn K cd204 "_law_made" = true)
    (k204 : PySem.W.keepIn K (.ref f204) = true)
    (a205 : PySem.W.nsIn K mainGlobals "_law_told" = some (some (.ref f205)))
    (l205 : K.lookup f205 = some ⟨oc205, od205, .func (PySem.W.fnOf "_law_told" "_law_told" (defArgs st_205) (defBody st_205) (defScope st_205) .none kV205 dc205 pm205 an205 cd205 ct205), sl205⟩)
    (c205 : PySem.W.codeIn K cd205 "_law_told" = true)
    (k205 : PySem.W.keepIn K (.ref f205) = true)
    (a206 : PySem.W.nsIn K mainGlobals "law" = some (some (.ref f206)))
    (l206 : K.lookup f206 = some ⟨oc206, od206, .func (PySem.W.fnOf "law" "law" (defArgs st_206) (defBody st_206) (defScope st_206) .none kV206 dc206 pm206 an206 cd206 ct206), sl206⟩)
    (c206 : PySem.W.codeIn K cd206 "law" = true)
    (k206 : PySem.W.keepIn K (.ref f206) = true)
    (z_all : PySem.W.nsIn K mainGlobals "all" = some none)
    (z_bool : PySem.W.nsIn K mainGlobals "bool" = some none)
    (z_int : PySem.W.nsIn K mainGlobals "int" = some none)
    (z_isinstance : PySem.W.nsIn K mainGlobals "isinstance" = some none)
    (z_len : PySem.W.nsIn K mainGlobals "len" = some none)
    (z_list : PySem.W.nsIn K mainGlobals "list" = some none)
    (z_max : PySem.W.nsIn K mainGlobals "max" = some none)
    (z_min : PySem.W.nsIn K mainGlobals "min" = some none)
    (z_range : PySem.W.nsIn K mainGlobals "range" = some none)
    (z_sorted : PySem.W.nsIn K mainGlobals "sorted" = some none)
    (z_str : PySem.W.nsIn K mainGlobals "str" = some none)
    (z_sum : PySem.W.nsIn K mainGlobals "sum" = some none)
    (z_tuple : PySem.W.nsIn K mainGlobals "tuple" = some none)
    (z_zip : PySem.W.nsIn K mainGlobals "zip" = some none)
    : ∃ (T : Tabs) (F : Fns), F.fa 206 = fa ∧ (∀ (s : Shared) (v : Value), BindsTo s (F.fd 206) ⟨[v], []⟩ [("_law_script", v)]) ∧ Tx K mg T F := by
  have e : fa = f206 := by have e := hfa.symm.trans (PySem.W.mg_of X G a206); cases e; rfl
  let T : Tabs := { cls := fun c => match c with | 0 => C_Box | 1 => C_Heap | _ => C_Box, xcl := fun _ => C_Box, fnm := fnmF, nf := fnmL.length, exf := fun _ => [] }
  let F : Fns := { fa := fun i => match i with | 0 => f0 | 1 => f1 | 2 => f2 | 3 => f3 | 4 => f4 | 9 => f9 | 12 => f12 | 13 => f13 | 14 => f14 | 15 => f15 | 200 => f200 | 201 => f201 | 202 => f202 | 203 => f203 | 204 => f204 | 205 => f205 | 206 => f206 | _ => f206, fd := fun i => match i with | 0 => PySem.W.fnOf "__init__" "Box.__init__" (defArgs st_0) (defBody st_0) (defScope st_0) .none kV0 dc0 pm0 an0 cd0 ct0 | 1 => PySem.W.fnOf "__init__" "Heap.__init__" (defArgs st_1) (defBody st_1) (defScope st_1) .none kV1 dc1 pm1 an1 cd1 ct1 | 2 => PySem.W.fnOf "box_of" "Heap.box_of" (defArgs st_2) (defBody st_2) (defScope st_2) .none kV2 dc2 pm2 an2 cd2 ct2 | 3 => PySem.W.fnOf "make" "Heap.make" (defArgs st_3) (defBody st_3) (defScope st_3) (.ref dT3) kV3 dc3 pm3 an3 cd3 ct3 | 4 => PySem.W.fnOf "see_to_room" "Heap.see_to_room" (defArgs st_4) (defBody st_4) (defScope st_4) .none kV4 dc4 pm4 an4 cd4 ct4 | 9 => PySem.W.fnOf "look" "Heap.look" (defArgs st_9) (defBody st_9) (defScope st_9) .none kV9 dc9 pm9 an9 cd9 ct9 | 12 => PySem.W.fnOf "work" "Heap.work" (defArgs st_12) (defBody st_12) (defScope st_12) .none kV12 dc12 pm12 an12 cd12 ct12 | 13 => PySem.W.fnOf "boxes" "Heap.boxes" (defArgs st_13) (defBody st_13) (defScope st_13) .none kV13 dc13 pm13 an13 cd13 ct13 | 14 => PySem.W.fnOf "keeping" "Heap.keeping" (defArgs st_14) (defBody st_14) (defScope st_14) .none kV14 dc14 pm14 an14 cd14 ct14 | 15 => PySem.W.fnOf "waits" "Heap.waits" (defArgs st_15) (defBody st_15) (defScope st_15) .none kV15 dc15 pm15 an15 cd15 ct15 | 200 => PySem.W.fnOf "_law_alike" "_law_alike" (defArgs st_200) (defBody st_200) (defScope st_200) .none kV200 dc200 pm200 an200 cd200 ct200 | 201 => PySem.W.fnOf "_law_name" "_law_name" (defArgs st_201) (defBody st_201) (defScope st_201) .none kV201 dc201 pm201 an201 cd201 ct201 | 202 => PySem.W.fnOf "_law_parts" "_law_parts" (defArgs st_202) (defBody st_202) (defScope st_202) .none kV202 dc202 pm202 an202 cd202 ct202 | 203 => PySem.W.fnOf "_law_many" "_law_many" (defArgs st_203) (defBody st_203) (defScope st_203) .none kV203 dc203 pm203 an203 cd203 ct203 | 204 => PySem.W.fnOf "_law_made" "_law_made" (defArgs st_204) (defBody st_204) (defScope st_204) .none kV204 dc204 pm204 an204 cd204 ct204 | 205 => PySem.W.fnOf "_law_told" "_law_told" (defArgs st_205) (defBody st_205) (defScope st_205) .none kV205 dc205 pm205 an205 cd205 ct205 | 206 => PySem.W.fnOf "law" "law" (defArgs st_206) (defBody st_206) (defScope st_206) .none kV206 dc206 pm206 an206 cd206 ct206 | _ => PySem.W.fnOf "law" "law" (defArgs st_206) (defBody st_206) (defScope st_206) .none kV206 dc206 pm206 an206 cd206 ct206, ps := psT }
  have cl_Box : Cls K C_Box := ⟨pg_Box, hd_Box, po_Box, sa_Box⟩
  have no_Box : ∀ x ∈ fnmL, NoAttr K C_Box x := by
    unfold fnmL NoAttr
    simp only [List.forall_mem_cons]
    exact ⟨n_Box_tag, n_Box_parts, n_Box_count, n_Box_size, n_Box_fresh, n_Box_anew, n_Box_peak, n_Box_there, n_Box_kept, fun _ z => nomatch z⟩
  have cl_Heap : Cls K C_Heap := ⟨pg_Heap, hd_Heap, po_Heap, sa_Heap⟩
  have no_Heap : ∀ x ∈ fnmL, NoAttr K C_Heap x := by
    unfold fnmL NoAttr
    simp only [List.forall_mem_cons]
    exact ⟨n_Heap_tag, n_Heap_parts, n_Heap_count, n_Heap_size, n_Heap_fresh, n_Heap_anew, n_Heap_peak, n_Heap_there, n_Heap_kept, fun _ z => nomatch z⟩
  refine ⟨T, F, e.symm, fun s v => .of_eq rfl, ?_⟩
  have F0 : Fun K "__init__" "Box.__init__" st_0 f0 _ := fun_mk (st := st_0) l0 c0 k0
  have b0 := F0.binds (ps := psT 0) (fun _ _ _ _ _ _ us hl => match us, hl with | [_, _, _], _ => rfl)
  have F1 : Fun K "__init__" "Heap.__init__" st_1 f1 _ := fun_mk (st := st_1) l1 c1 k1
  have b1 := F1.binds (ps := psT 1) (fun _ _ _ _ _ _ us hl => match us, hl with | [_, _], _ => rfl)
  have F2 : Fun K "box_of" "Heap.box_of" st_2 f2 _ := fun_mk (st := st_2) l2 c2 k2
  have b2 := F2.binds (ps := psT 2) (fun _ _ _ _ _ _ us hl => match us, hl with | [_, _], _ => rfl)
  have F3 : FunD K "make" "Heap.make" (defArgs st_3) (defBody st_3) (defScope st_3) [V.non] [] f3 _ := fn_mkD (st := st_3) (its := [Value.none]) l3 c3 k3 d3 rfl (by simp) (.cons rfl (.nil))
  have b3 : Binds K (F.fd 3) (psT 3) [] := by obtain ⟨ds, r, b⟩ := F3.binds1 (ps := psT 3) 4 1 (by simp) rfl (fun T kV doc pm an cdv ct us its hu hi => match us, its, hu, hi with | [_, _, _, _], [_], _, _ => ⟨_, rfl, rfl⟩); cases r; exact b
  have bd3_1 := F3.binds1 (ps := psT 3) 3 0 (by simp) rfl (fun T kV doc pm an cdv ct us its hu hi => match us, its, hu, hi with | [_, _, _], [_], _, _ => ⟨_, rfl, rfl⟩)
  have F4 : Fun K "see_to_room" "Heap.see_to_room" st_4 f4 _ := fun_mk (st := st_4) l4 c4 k4
  have b4 := F4.binds (ps := psT 4) (fun _ _ _ _ _ _ us hl => match us, hl with | [_], _ => rfl)
  have F9 : Fun K "look" "Heap.look" st_9 f9 _ := fun_mk (st := st_9) l9 c9 k9
  have b9 := F9.binds (ps := psT 9) (fun _ _ _ _ _ _ us hl => match us, hl with | [_, _], _ => rfl)
  have F12 : Fun K "work" "Heap.work" st_12 f12 _ := fun_mk (st := st_12) l12 c12 k12
  have b12 := F12.binds (ps := psT 12) (fun _ _ _ _ _ _ us hl => match us, hl with | [_, _], _ => rfl)
  have F13 : Fun K "boxes" "Heap.boxes" st_13 f13 _ := fun_mk (st := st_13) l13 c13 k13
  have b13 := F13.binds (ps := psT 13) (fun _ _ _ _ _ _ us hl => match us, hl with | [_], _ => rfl)
  have F14 : Fun K "keeping" "Heap.keeping" st_14 f14 _ := fun_mk (st := st_14) l14 c14 k14
  have b14 := F14.binds (ps := psT 14) (fun _ _ _ _ _ _ us hl => match us, hl with | [_], _ => rfl)
  have F15 : Fun K "waits" "Heap.waits" st_15 f15 _ := fun_mk (st := st_15) l15 c15 k15
  have b15 := F15.binds (ps := psT 15) (fun _ _ _ _ _ _ us hl => match us, hl with | [_], _ => rfl)
  have F200 : Fun K "_law_alike" "_law_alike" st_200 f200 _ := fun_mk (st := st_200) l200 c200 k200
  have b200 := F200.binds (ps := psT 200) (fun _ _ _ _ _ _ us hl => match us, hl with | [_, _], _ => rfl)
  have F201 : Fun K "_law_name" "_law_name" st_201 f201 _ := fun_mk (st := st_201) l201 c201 k201
  have b201 := F201.binds (ps := psT 201) (fun _ _ _ _ _ _ us hl => match us, hl with | [_], _ => rfl)
  have F202 : Fun K "_law_parts" "_law_parts" st_202 f202 _ := fun_mk (st := st_202) l202 c202 k202
  have b202 := F202.binds (ps := psT 202) (fun _ _ _ _ _ _ us hl => match us, hl with | [_, _], _ => rfl)
  have F203 : Fun K "_law_many" "_law_many" st_203 f203 _ := fun_mk (st := st_203) l203 c203 k203
  have b203 := F203.binds (ps := psT 203) (fun _ _ _ _ _ _ us hl => match us, hl with | [_], _ => rfl)
  have F204 : Fun K "_law_made" "_law_made" st_204 f204 _ := fun_mk (st := st_204) l204 c204 k204
  have b204 := F204.binds (ps := psT 204) (fun _ _ _ _ _ _ us hl => match us, hl with | [_, _, _], _ => rfl)
  have F205 : Fun K "_law_told" "_law_told" st_205 f205 _ := fun_mk (st := st_205) l205 c205 k205
  have b205 := F205.binds (ps := psT 205) (fun _ _ _ _ _ _ us hl => match us, hl with | [_, _, _], _ => rfl)
  have F206 : Fun K "law" "law" st_206 f206 _ := fun_mk (st := st_206) l206 c206 k206
  have b206 := F206.binds (ps := psT 206) (fun _ _ _ _ _ _ us hl => match us, hl with | [_], _ => rfl)
  exact {
    cf := ⟨fun c => by show Cls K (match c with | 0 => C_Box | 1 => C_Heap | _ => C_Box); split <;> assumption, fun c f hf => by show NoAttr K (match c with | 0 => C_Box | 1 => C_Heap | _ => C_Box) (fnmF f); split <;> exact getD_all (l := fnmL) (p := fun x => NoAttr K _ x) (by assumption) f hf, fun f g e h1 h2 => getD_inj (l := fnmL) (by decide +kernel) e h1 h2⟩
    fn := rfl, nf := rfl, ps := rfl
    z_all := PySem.W.mg_none_of X G z_all
    z_bool := PySem.W.mg_none_of X G z_bool
    z_int := PySem.W.mg_none_of X G z_int
    z_isinstance := PySem.W.mg_none_of X G z_isinstance
    z_len := PySem.W.mg_none_of X G z_len
    z_list := PySem.W.mg_none_of X G z_list
    z_max := PySem.W.mg_none_of X G z_max
    z_min := PySem.W.mg_none_of X G z_min
    z_range := PySem.W.mg_none_of X G z_range
    z_sorted := PySem.W.mg_none_of X G z_sorted
    z_str := PySem.W.mg_none_of X G z_str
    z_sum := PySem.W.mg_none_of X G z_sum
    z_tuple := PySem.W.mg_none_of X G z_tuple
    z_zip := PySem.W.mg_none_of X G z_zip
    f_0 := F0, b_0 := b0
    f_1 := F1, b_1 := b1
    f_2 := F2, b_2 := b2
    f_3 := F3, b_3 := b3
    bd_3_1 := bd3_1
    f_4 := F4, b_4 := b4
    f_9 := F9, b_9 := b9
    f_12 := F12, b_12 := b12
    f_13 := F13, b_13 := b13
    f_14 := F14, b_14 := b14
    f_15 := F15, b_15 := b15
    f_200 := F200, b_200 := b200
    m_200 := PySem.W.mg_of X G a200, k_200 := k200
    f_201 := F201, b_201 := b201
    m_201 := PySem.W.mg_of X G a201, k_201 := k201
    f_202 := F202, b_202 := b202
    m_202 := PySem.W.mg_of X G a202, k_202 := k202
    f_203 := F203, b_203 := b203
    m_203 := PySem.W.mg_of X G a203, k_203 := k203
    f_204 := F204, b_204 := b204
    m_204 := PySem.W.mg_of X G a204, k_204 := k204
    f_205 := F205, b_205 := b205
    m_205 := PySem.W.mg_of X G a205, k_205 := k205
    f_206 := F206, b_206 := b206
    m_206 := PySem.W.mg_of X G a206, k_206 := k206
    g_Box := PySem.W.mg_of X G aC_Box
    mk_Box := ⟨mk_Box, a0_Box, i0, kc_Box⟩
    g_Heap := PySem.W.mg_of X G aC_Heap
    mk_Heap := ⟨mk_Heap, a1_Heap, i1, kc_Heap⟩
    me_Heap_box_of := ⟨a2_Heap, i2, k2⟩
    me_Heap_boxes := ⟨a13_Heap, i13, k13⟩
    me_Heap_keeping := ⟨a14_Heap, i14, k14⟩
    me_Heap_look := ⟨a9_Heap, i9, k9⟩
    me_Heap_make := ⟨a3_Heap, i3, k3⟩
    me_Heap_see_to_room := ⟨a4_Heap, i4, k4⟩
    me_Heap_waits := ⟨a15_Heap, i15, k15⟩
    me_Heap_work := ⟨a12_Heap, i12, k12⟩
  }
theorem walk {q : Program} {loose : List Str} {XP : (Str → Option Value) → Heap → Prop} {YP : World → Heap → Prop} {d : DefRec} {K : Params → PySem.W.Frag} (hdf : d.params.defaults = []) (hY : ∀ (w : World) (h : Heap), YP w h → (K w.params).In h)
    (A : ∀ (w : World) (mg : Str → Option Value) (fa : Addr) (h : Heap), (K w.params).In h → h.Ns mainGlobals mg → mg d.name = some (.ref fa) → ∃ (T : Tabs) (F : Fns), F.fa 206 = fa ∧ (∀ (s : Shared) (v : Value), BindsTo s (F.fd 206) ⟨[v], []⟩ [("_law_script", v)]) ∧ Tx (K w.params) mg T F) :
    PySem.W.WalkO q loose XP YP PySem.Challenge.rw_reusewise_k70_boxes_made.row.toRowW d [] (fun f vs => PySem.call f vs) := by
  refine walk_law (l := PySem.Challenge.rw_reusewise_k70_boxes_made) (k := 31) (x := "_law_script") rfl hdf ⟨rfl, by decide, by decide⟩ hY fun w mg fa h KX G hm => ?_
  obtain ⟨T, F, hf, hb, t⟩ := A w mg fa h KX G hm
  refine ⟨F.fd 206, hb, fun base _ _ => ?_⟩
  have a := (lv_all (P := PySem.Challenge.rw_reusewise_k70_boxes_made.prog) (w := w) (base := base) (step t) 30).1 206
  rw [hf, show F.ps 206 = (["_law_script"] : List Str) by rw [t.ps]; rfl] at a
  exact a.imp fun vs H Q E h => spLaw_of law_true vs H Q E h
end K70
open PySem PySem.W PyProof.Rows
set_option maxRecDepth 100000 in
set_option maxHeartbeats 0 in
theorem PySem.Challenge.cw_reusewise_k70_boxes_made_holds : PySem.Challenge.rw_reusewise_k70_boxes_made.Holds := by
  w_on; o_law; k_head; (case hw => w_witness2)
  k_fill
  refine K70.walk rfl (fun w h Y => PySem.W.kIn_of Y) ?F
  case F =>
    intro w mg fa h KX G hmg
    refine' K70.all_mk KX G hmg ?aC_Box ?pg_Box ?hd_Box ?po_Box ?sa_Box ?mk_Box ?kc_Box ?n_Box_tag ?n_Box_parts ?n_Box_count ?n_Box_size ?n_Box_fresh ?n_Box_anew ?n_Box_peak ?n_Box_there ?n_Box_kept ?aC_Heap ?pg_Heap ?hd_Heap ?po_Heap ?sa_Heap ?mk_Heap ?kc_Heap ?n_Heap_tag ?n_Heap_parts ?n_Heap_count ?n_Heap_size ?n_Heap_fresh ?n_Heap_anew ?n_Heap_peak ?n_Heap_there ?n_Heap_kept ?a0_Box ?i0 ?l0 ?c0 ?k0 ?a1_Heap ?i1 ?l1 ?c1 ?k1 ?a2_Heap ?i2 ?l2 ?c2 ?k2 ?a3_Heap ?i3 ?l3 ?d3 ?c3 ?k3 ?a4_Heap ?i4 ?l4 ?c4 ?k4 ?a9_Heap ?i9 ?l9 ?c9 ?k9 ?a12_Heap ?i12 ?l12 ?c12 ?k12 ?a13_Heap ?i13 ?l13 ?c13 ?k13 ?a14_Heap ?i14 ?l14 ?c14 ?k14 ?a15_Heap ?i15 ?l15 ?c15 ?k15 ?a200 ?l200 ?c200 ?k200 ?a201 ?l201 ?c201 ?k201 ?a202 ?l202 ?c202 ?k202 ?a203 ?l203 ?c203 ?k203 ?a204 ?l204 ?c204 ?k204 ?a205 ?l205 ?c205 ?k205 ?a206 ?l206 ?c206 ?k206 ?z_all ?z_bool ?z_int ?z_isinstance ?z_len ?z_list ?z_max ?z_min ?z_range ?z_sorted ?z_str ?z_sum ?z_tuple ?z_zip
    (case aC_Box => k_is); (case pg_Box => k_is); (case hd_Box => k_is); (case po_Box => k_is); (case sa_Box => k_is); (case mk_Box => k_is)
    (case kc_Box => k_is); (case n_Box_tag => k_is); (case n_Box_parts => k_is); (case n_Box_count => k_is); (case n_Box_size => k_is); (case n_Box_fresh => k_is)
    (case n_Box_anew => k_is); (case n_Box_peak => k_is); (case n_Box_there => k_is); (case n_Box_kept => k_is); (case aC_Heap => k_is); (case pg_Heap => k_is)
    (case hd_Heap => k_is); (case po_Heap => k_is); (case sa_Heap => k_is); (case mk_Heap => k_is); (case kc_Heap => k_is); (case n_Heap_tag => k_is)
    (case n_Heap_parts => k_is); (case n_Heap_count => k_is); (case n_Heap_size => k_is); (case n_Heap_fresh => k_is); (case n_Heap_anew => k_is); (case n_Heap_peak => k_is)
    (case n_Heap_there => k_is); (case n_Heap_kept => k_is); (case a0_Box => k_is); (case i0 => k_is); (case l0 => k_is); (case c0 => k_is)
    (case k0 => k_is); (case a1_Heap => k_is); (case i1 => k_is); (case l1 => k_is); (case c1 => k_is); (case k1 => k_is)
    (case a2_Heap => k_is); (case i2 => k_is); (case l2 => k_is); (case c2 => k_is); (case k2 => k_is); (case a3_Heap => k_is)
    (case i3 => k_is); (case l3 => k_is); (case d3 => k_is); (case c3 => k_is); (case k3 => k_is); (case a4_Heap => k_is)
    (case i4 => k_is); (case l4 => k_is); (case c4 => k_is); (case k4 => k_is); (case a9_Heap => k_is); (case i9 => k_is)
    (case l9 => k_is); (case c9 => k_is); (case k9 => k_is); (case a12_Heap => k_is); (case i12 => k_is); (case l12 => k_is)
    (case c12 => k_is); (case k12 => k_is); (case a13_Heap => k_is); (case i13 => k_is); (case l13 => k_is); (case c13 => k_is)
    (case k13 => k_is); (case a14_Heap => k_is); (case i14 => k_is); (case l14 => k_is); (case c14 => k_is); (case k14 => k_is)
    (case a15_Heap => k_is); (case i15 => k_is); (case l15 => k_is); (case c15 => k_is); (case k15 => k_is); (case a200 => k_is)
    (case l200 => k_is); (case c200 => k_is); (case k200 => k_is); (case a201 => k_is); (case l201 => k_is); (case c201 => k_is)
    (case k201 => k_is); (case a202 => k_is); (case l202 => k_is); (case c202 => k_is); (case k202 => k_is); (case a203 => k_is)
    (case l203 => k_is); (case c203 => k_is); (case k203 => k_is); (case a204 => k_is); (case l204 => k_is); (case c204 => k_is)
    (case k204 => k_is); (case a205 => k_is); (case l205 => k_is); (case c205 => k_is); (case k205 => k_is); (case a206 => k_is)
    (case l206 => k_is); (case c206 => k_is); (case k206 => k_is); (case z_all => k_is); (case z_bool => k_is); (case z_int => k_is)
    (case z_isinstance => k_is); (case z_len => k_is); (case z_list => k_is); (case z_max => k_is); (case z_min => k_is); (case z_range => k_is)
    (case z_sorted => k_is); (case z_str => k_is); (case z_sum => k_is); (case z_tuple => k_is); (case z_zip => k_is)
#print axioms PySem.Challenge.cw_reusewise_k70_boxes_made_holds
