import PyProof.Rows.All
import Wide.All
import OpenK.AllK
import Wide.FinOn
import HandS.ForMost
import HandS.Exc
import HandS.TryOnly
import HandS.ExcOwn
import HandS.Walk
import HandS.TupAny
import HandS.Conv
import HandS.IsInst
import HandS.SortInts
import HandS.Flow
import KE.KDictKeyed
import KE.KeyNested
import KE.GoesEnum
import KE.SortData
import HandS.DictComp
import PySem.Challenge.RW_putbetween_k71_whole_tied_names_told
import HandS.WordsExc
import HandS.ExcIs
set_option Elab.async false
set_option linter.all false
set_option maxRecDepth 100000
set_option maxHeartbeats 2000000
/-! A layer of data above the hand layer: values that read as data in a frozen part of the heap; defs as functions of data. -/
namespace K71
open PySem L2

/-! ### data in a frozen heap -/
mutual
/-- v reads as the data in F -/
inductive Dq (F : Hp) : PyData → V → Prop
  | non : Dq F .none .non
  | bl (b : Bool) : Dq F (.bool b) (.bl b)
  | int (i : Int) : Dq F (.int i) (.int i)
  | str (x : Str) : Dq F (.str x) (.str x)
  | lst {ds : List PyData} {xs : List V} (p : Addr) : F p = some (.lst xs) → DqL F ds xs → Dq F (.list ds) (.ref p)
  | tup {ds : List PyData} {xs : List V} (p : Addr) : F p = some (.tup xs) → DqL F ds xs → Dq F (.tuple ds) (.ref p)
  | emp (p : Addr) : F p = some (.dK []) → Dq F (.dict []) (.ref p)
inductive DqL (F : Hp) : List PyData → List V → Prop
  | nil : DqL F [] []
  | cons {d : PyData} {ds : List PyData} {x : V} {xs : List V} : Dq F d x → DqL F ds xs → DqL F (d :: ds) (x :: xs)
end
mutual
theorem Dq.mono {F F' : Hp} (s : Same F F') : ∀ {d : PyData} {v : V}, Dq F d v → Dq F' d v
  | _, _, .non => .non
  | _, _, .bl b => .bl b
  | _, _, .int i => .int i
  | _, _, .str x => .str x
  | _, _, .lst p h t => .lst p (s _ _ h) (DqL.mono s t)
  | _, _, .tup p h t => .tup p (s _ _ h) (DqL.mono s t)
  | _, _, .emp p h => .emp p (s _ _ h)
theorem DqL.mono {F F' : Hp} (s : Same F F') : ∀ {ds : List PyData} {xs : List V}, DqL F ds xs → DqL F' ds xs
  | _, _, .nil => .nil
  | _, _, .cons h t => .cons (Dq.mono s h) (DqL.mono s t)
end
theorem DqL.length {F : Hp} : ∀ {ds : List PyData} {xs : List V}, DqL F ds xs → ds.length = xs.length
  | _, _, .nil => rfl
  | _, _, .cons _ t => congrArg (· + 1) t.length
theorem DqL.get {F : Hp} : ∀ {ds : List PyData} {xs : List V} {i : Nat} {d : PyData}, DqL F ds xs → ds[i]? = some d → ∃ x, xs[i]? = some x ∧ Dq F d x
  | _, _, i, d, .nil, e => by simp at e
  | _, _, 0, d, .cons h t, e => by simp at e; subst e; exact ⟨_, rfl, h⟩
  | _, _, i + 1, d, .cons h t, e => by
    obtain ⟨x, a, b⟩ := DqL.get (i := i) t (by simpa using e)
    exact ⟨x, by simpa using a, b⟩
theorem DqL.back {F : Hp} : ∀ {ds : List PyData} {xs : List V} {i : Nat} {x : V}, DqL F ds xs → xs[i]? = some x → ∃ d, ds[i]? = some d ∧ Dq F d x
  | _, _, i, d, .nil, e => by simp at e
  | _, _, 0, d, .cons h t, e => by simp at e; subst e; exact ⟨_, rfl, h⟩
  | _, _, i + 1, d, .cons h t, e => by
    obtain ⟨x, a, b⟩ := DqL.back (i := i) t (by simpa using e)
    exact ⟨x, by simpa using a, b⟩
theorem DqL.append {F : Hp} : ∀ {ds es : List PyData} {xs ys : List V}, DqL F ds xs → DqL F es ys → DqL F (ds ++ es) (xs ++ ys)
  | _, _, _, _, .nil, r => r
  | _, _, _, _, .cons h t, r => .cons h (t.append r)
theorem DqL.take {F : Hp} : ∀ {ds : List PyData} {xs : List V} (n : Nat), DqL F ds xs → DqL F (ds.take n) (xs.take n)
  | _, _, 0, _ => by simpa using DqL.nil
  | _, _, n + 1, .nil => by simpa using DqL.nil
  | _, _, n + 1, .cons h t => by simpa using DqL.cons h (t.take n)
theorem DqL.drop {F : Hp} : ∀ {ds : List PyData} {xs : List V} (n : Nat), DqL F ds xs → DqL F (ds.drop n) (xs.drop n)
  | _, _, 0, r => by simpa using r
  | _, _, n + 1, .nil => by simpa using DqL.nil
  | _, _, n + 1, .cons h t => by simpa using DqL.drop n t
theorem DqL.reverse {F : Hp} : ∀ {ds : List PyData} {xs : List V}, DqL F ds xs → DqL F ds.reverse xs.reverse
  | _, _, .nil => by simpa using DqL.nil
  | _, _, .cons h t => by simpa using t.reverse.append (.cons h .nil)
theorem DqL.ints {F : Hp} : ∀ (ns : List Int), DqL F (ns.map .int) (ns.map .int)
  | [] => .nil
  | n :: ns => .cons (.int n) (DqL.ints ns)
theorem DqL.ints_of {F : Hp} : ∀ {ns : List Int} {xs : List V}, DqL F (ns.map .int) xs → xs = ns.map .int
  | [], _, h => by cases h; rfl
  | n :: ns, _, h => by
    cases h with
    | cons a b => cases a; rw [DqL.ints_of b]; rfl
theorem DqL.bls_of {F : Hp} : ∀ {ns : List Bool} {xs : List V}, DqL F (ns.map .bool) xs → xs = ns.map .bl
  | [], _, h => by cases h; rfl
  | n :: ns, _, h => by
    cases h with
    | cons a b => cases a; rw [DqL.bls_of b]; rfl

theorem sl_of {K : PySem.W.Frag} {H : Hp} {a : Addr} {xs : List V} (h : H a = some (.lst xs)) : SqL K H a xs := .inl (.inl h)
theorem st_of {K : PySem.W.Frag} {H : Hp} {a : Addr} {xs : List V} (h : H a = some (.tup xs)) : SqT K H a xs := .inl (.inl h)

mutual
def noD : PyData → Bool
  | .none | .bool _ | .int _ | .str _ => true
  | .list ds | .tuple ds => noDs ds
  | .dict _ => false
def noDs : List PyData → Bool
  | [] => true
  | d :: ds => noD d && noDs ds
end
mutual
theorem Dq.dp {K : PySem.W.Frag} {F H : Hp} (s : Same F H) : ∀ {d : PyData} {v : V}, Dq F d v → PyData.canLay0 d = true → Dp K H v d
  | _, _, .non, _ => .non
  | _, _, .bl b, _ => .bl b
  | _, _, .int i, _ => .int i
  | _, _, .str x, _ => .str x
  | _, _, .lst p h t, e => .lst (sl_of (s _ _ h)) (DqL.dp s t e)
  | _, _, .tup p h t, e => .tup (st_of (s _ _ h)) (DqL.dp s t e)
  | _, _, .emp p h, e => nomatch e
theorem DqL.dp {K : PySem.W.Frag} {F H : Hp} (s : Same F H) : ∀ {ds : List PyData} {xs : List V}, DqL F ds xs → PyData.canLayAll0 ds = true → DpAll K H xs ds
  | _, _, .nil, _ => .nil
  | _, _, .cons h t, e => by
    have e' := Bool.and_eq_true_iff.mp (show (_ && _) = true from e)
    exact .cons (Dq.dp s h e'.1) (DqL.dp s t e'.2)
end

/-! ### what a def's slots hold -/
inductive En where
  | dat (d : PyData)
  /-- a list of one's own, that still grows -/
  | own (ds : List PyData)
  /-- a dict of one's own with ints as keys, each with True -/
  | okd (ks : List Int)
  /-- a dict of one's own with names as keys, each with True -/
  | okn (ks : List (List Int × Option Int))
structure Bag where
  s : Int
  c : Int
  g : Int
/-- the state of a def as data -/
structure Dn where
  sl : List (Option En)
  bag : Bag
  bk : Option Nat
def bagV (b : Bag) : HO := .lst [.int b.s, .int b.c, .int b.g]
def okV (ks : List Int) : HO := .dK (ks.map fun k => ((Sum.inl k : Key), V.bl true))
/-- a name: a chain, and None or an int -/
def tieD : Option Int → PyData
  | none => .none
  | some i => .int i
def nameD (k : List Int × Option Int) : PyData := .tuple [.tuple (k.1.map .int), tieD k.2]
def tieK : Option Int → NestedKey
  | none => .none
  | some i => .num i
def nameK (k : List Int × Option Int) : NestedKey := .tup [.tup (k.1.map .num), tieK k.2]
def tieH : Option Int → Int
  | none => reduceHash 0xFCA86420
  | some i => hashInt i
def nameH (k : List Int × Option Int) : Int := reduceHash (Builtin.Tuple.tupleHashOf [reduceHash (Builtin.Tuple.tupleHashOf (k.1.map hashInt)), tieH k.2])
/-- the dict at p, by its entries -/
def rawO (p : Addr) (xs : List ((List Int × Option Int) × Addr)) : HO := .ext fun h => ∃ o es ep, h.get? p = some o ∧ o.ExactDict ∧ o.data = .dict es ep ∧ es.toList = xs.map fun x => ⟨nameH x.1, .ref x.2, .bool true⟩
def EnAt (F H : Hp) (x : Option (Option V)) : En → Prop
  | .dat d => ∃ v, x = some (some v) ∧ Dq F d v
  | .own ds => ∃ p xs, x = some (some (.ref p)) ∧ H p = some (.lst xs) ∧ F p = none ∧ DqL F ds xs
  | .okd ks => ∃ p, x = some (some (.ref p)) ∧ H p = some (okV ks) ∧ F p = none
  | .okn ks => ∃ p xs, x = some (some (.ref p)) ∧ H p = some (rawO p xs) ∧ F p = none ∧ xs.map (·.1) = ks ∧ ks.Nodup ∧ (p == sysModules) = false ∧ ∀ x ∈ xs, Dq F (nameD x.1) (.ref x.2)
def isOwn : En → Bool
  | .dat _ => false
  | _ => true
/-- what a def starts from: the frozen heap, the heap, what it may change, the bag -/
structure Ctx where
  F0 : Hp
  H0 : Hp
  M : Addr → Prop
  bag : Option (Nat × Addr)
def NoTup (o : HO) : Prop := ∀ xs, o ≠ .tup xs
structure EnvOk (C : Ctx) (F H : Hp) (σ : L2.St) (δ : Dn) : Prop where
  sub : Same F H
  sF : Same C.F0 F
  sH : ∀ c o, ¬ C.M c → C.H0 c = some o → H c = some o
  nw : ∀ c o, ¬ C.M c → C.H0 c = some o → NoTup o → C.F0 c = none → F c = none
  len : σ.length = δ.sl.length
  at_ : ∀ (i : Nat) (e : En), δ.sl[i]? = some (some e) → EnAt F H (σ[i]?) e
  sep : ∀ (i j : Nat) (e e' : En) (p : Addr), δ.sl[i]? = some (some e) → δ.sl[j]? = some (some e') → isOwn e = true → isOwn e' = true → σ[i]? = some (some (.ref p)) → σ[j]? = some (some (.ref p)) → i = j
  mine : ∀ (i : Nat) (e : En) (p : Addr), δ.sl[i]? = some (some e) → isOwn e = true → σ[i]? = some (some (.ref p)) → (C.M p ∨ C.H0 p = none) ∧ ∀ k b, C.bag = some (k, b) → p ≠ b
  bk : C.bag.map (·.1) = δ.bk
  bg : ∀ k b, C.bag = some (k, b) → σ[k]? = some (some (.ref b)) ∧ δ.sl[k]? = some none ∧ H b = some (bagV δ.bag) ∧ F b = none ∧ (C.M b ∨ C.H0 b = none)

section
variable {C : Ctx} {F F' H H' : Hp} {σ : L2.St} {δ : Dn}
/-- a call that changes nothing that stood -/
theorem EnvOk.step (E : EnvOk C F H σ δ) (a : Same F' H') (b : Same F F') (c : Same H H') (n : ∀ c o, H c = some o → NoTup o → F c = none → F' c = none) : EnvOk C F' H' σ δ where
  sub := a
  sF := E.sF.trans b
  sH := fun p o hm h => c _ _ (E.sH p o hm h)
  nw := fun p o hm h ht hf => n p o (E.sH p o hm h) ht (E.nw p o hm h ht hf)
  len := E.len
  at_ := fun i e h => by
    have q := E.at_ i e h
    cases e with
    | dat d => obtain ⟨v, h1, h2⟩ := q; exact ⟨v, h1, h2.mono b⟩
    | own ds => obtain ⟨p, xs, h1, h2, h3, h4⟩ := q; exact ⟨p, xs, h1, c _ _ h2, n _ _ h2 (fun _ z => nomatch z) h3, h4.mono b⟩
    | okd ks => obtain ⟨p, h1, h2, h3⟩ := q; exact ⟨p, h1, c _ _ h2, n _ _ h2 (fun _ z => nomatch z) h3⟩
    | okn ks => obtain ⟨p, xs, h1, h2, h3, h4, h5, h6, h7⟩ := q; exact ⟨p, xs, h1, c _ _ h2, n _ _ h2 (fun _ z => nomatch z) h3, h4, h5, h6, fun x hx => (h7 x hx).mono b⟩
  sep := E.sep
  mine := E.mine
  bk := E.bk
  bg := fun k b' h => by
    obtain ⟨h1, h2, h3, h4, h5⟩ := E.bg k b' h
    exact ⟨h1, h2, c _ _ h3, n _ _ h3 (fun _ z => nomatch z) h4, h5⟩
/-- a new object, frozen at once -/
theorem EnvOk.new (E : EnvOk C F H σ δ) {p : Addr} (o : HO) (h : H p = none) : EnvOk C (upd F p o) (upd H p o) σ δ ∧ Same F (upd F p o) := by
  have hf : F p = none := E.sub.free h
  have s : Same F (upd F p o) := fun b u q => by rw [upd_ne (ne_of_none q hf)]; exact q
  refine ⟨E.step (fun b u q => ?_) s (fun b u q => by rw [upd_ne (ne_of_none q h)]; exact q) fun b u q _ hb => by rw [upd_ne (ne_of_none q h)]; exact hb, s⟩
  by_cases e : b = p
  · subst e; rw [upd_same] at q ⊢; exact q
  · rw [upd_ne e] at q ⊢; exact E.sub _ _ q
/-- a new object that is not frozen -/
theorem EnvOk.newH (E : EnvOk C F H σ δ) {p : Addr} (o : HO) (h : H p = none) : EnvOk C F (upd H p o) σ δ :=
  E.step (fun b u q => by rw [upd_ne (ne_of_none (E.sub _ _ q) h)]; exact E.sub _ _ q) (Same.refl F) (fun b u q => by rw [upd_ne (ne_of_none q h)]; exact q) fun _ _ _ _ q => q
/-- a tuple that stood is frozen now -/
theorem EnvOk.tup (E : EnvOk C F H σ δ) {p : Addr} {xs : List V} (h : H p = some (.tup xs)) : EnvOk C (upd F p (.tup xs)) H σ δ ∧ Same F (upd F p (.tup xs)) := by
  have s : Same F (upd F p (.tup xs)) := fun b u q => by
    by_cases e : b = p
    · subst e
      have z := (E.sub _ _ q).symm.trans h
      rw [upd_same, z]
    · rw [upd_ne e]; exact q
  refine ⟨E.step (fun b u q => ?_) s (Same.refl H) fun b u q nt hb => ?_, s⟩
  · by_cases e : b = p
    · subst e; rw [upd_same] at q; rw [h]; exact q
    · rw [upd_ne e] at q; exact E.sub _ _ q
  · by_cases e : b = p
    · subst e
      rw [h] at q
      exact absurd (Option.some.inj q).symm (nt xs)
    · rw [upd_ne e]; exact hb
/-- the same state, seen from here on -/
def Ctx.here (C : Ctx) (F H : Hp) (σ : L2.St) (δ : Dn) : Ctx where
  F0 := F
  H0 := H
  M := fun p => (∃ (i : Nat) (e : En), δ.sl[i]? = some (some e) ∧ isOwn e = true ∧ σ[i]? = some (some (.ref p))) ∨ ∃ k, C.bag = some (k, p)
  bag := C.bag
theorem EnvOk.here (E : EnvOk C F H σ δ) : EnvOk (C.here F H σ δ) F H σ δ where
  sub := E.sub
  sF := Same.refl F
  sH := fun _ _ _ h => h
  nw := fun _ _ _ _ _ h => h
  len := E.len
  at_ := E.at_
  sep := E.sep
  mine := fun i e p h1 h2 h3 => ⟨.inl (.inl ⟨i, e, h1, h2, h3⟩), (E.mine i e p h1 h2 h3).2⟩
  bk := E.bk
  bg := fun k b h => by
    obtain ⟨h1, h2, h3, h4, h5⟩ := E.bg k b h
    exact ⟨h1, h2, h3, h4, .inl (.inr ⟨k, h⟩)⟩
theorem EnvOk.hereM (E : EnvOk C F H σ δ) {p : Addr} (h : (C.here F H σ δ).M p) : C.M p ∨ C.H0 p = none := by
  rcases h with ⟨i, e, h1, h2, h3⟩ | ⟨k, h⟩
  · exact (E.mine i e p h1 h2 h3).1
  · exact (E.bg k p h).2.2.2.2
theorem EnvOk.back {σ' : L2.St} {δ' : Dn} (E : EnvOk C F H σ δ) (E' : EnvOk (C.here F H σ δ) F' H' σ' δ') : EnvOk C F' H' σ' δ' where
  sub := E'.sub
  sF := E.sF.trans E'.sF
  sH := fun c o hm h => E'.sH c o (fun z => (E.hereM z).elim hm fun q => by rw [q] at h; cases h) (E.sH c o hm h)
  nw := fun c o hm h ht hf => E'.nw c o (fun z => (E.hereM z).elim hm fun q => by rw [q] at h; cases h) (E.sH c o hm h) ht (E.nw c o hm h ht hf)
  len := E'.len
  at_ := E'.at_
  sep := E'.sep
  mine := fun i e p h1 h2 h3 => by
    obtain ⟨a, b⟩ := E'.mine i e p h1 h2 h3
    refine ⟨?_, b⟩
    rcases a with a | a
    · exact E.hereM a
    · by_cases hm : C.M p
      · exact .inl hm
      · refine .inr ?_
        cases q : C.H0 p with
        | none => rfl
        | some o =>
          have z := E.sH p o hm q
          have a' : H p = none := a
          rw [a'] at z
          cases z
  bk := E'.bk
  bg := fun k b h => by
    obtain ⟨h1, h2, h3, h4, h5⟩ := E'.bg k b h
    exact ⟨h1, h2, h3, h4, (E.bg k b h).2.2.2.2⟩
/-- a slot is stored -/
theorem EnvOk.set (E : EnvOk C F H σ δ) {i : Nat} {d : PyData} {v : V} (hb : δ.bk ≠ some i) (h : Dq F d v) : EnvOk C F H (σ.set i (some v)) { δ with sl := δ.sl.set i (some (.dat d)) } where
  sub := E.sub
  sF := E.sF
  sH := E.sH
  nw := E.nw
  len := by simp [E.len]
  at_ := fun j e h' => by
    by_cases q : j = i
    · subst q
      have hl : j < δ.sl.length := by
        have := (List.getElem?_eq_some_iff.mp h').1
        simpa using this
      rw [List.getElem?_set_self hl] at h'
      cases h'
      exact ⟨v, by rw [List.getElem?_set_self (by rw [E.len]; exact hl)], h⟩
    · rw [List.getElem?_set_ne (fun z => q z.symm)] at h' ⊢
      exact E.at_ j e h'
  sep := fun j k e e' p h1 h2 o1 o2 s1 s2 => by
    have ne : ∀ {j : Nat} {e : En}, (δ.sl.set i (some (.dat d)))[j]? = some (some e) → isOwn e = true → j ≠ i := fun {j e} h o q => by
      subst q
      have hl : j < δ.sl.length := by
        have := (List.getElem?_eq_some_iff.mp h).1
        simpa using this
      rw [List.getElem?_set_self hl] at h
      cases h
      cases o
    have n1 := ne h1 o1
    have n2 := ne h2 o2
    rw [List.getElem?_set_ne (fun z => n1 z.symm)] at h1 s1
    rw [List.getElem?_set_ne (fun z => n2 z.symm)] at h2 s2
    exact E.sep j k e e' p h1 h2 o1 o2 s1 s2
  mine := fun j e p h1 o1 s1 => by
    have n1 : j ≠ i := fun q => by
      subst q
      have hl : j < δ.sl.length := by
        have := (List.getElem?_eq_some_iff.mp h1).1
        simpa using this
      rw [List.getElem?_set_self hl] at h1
      cases h1
      cases o1
    rw [List.getElem?_set_ne (fun z => n1 z.symm)] at h1 s1
    exact E.mine j e p h1 o1 s1
  bk := E.bk
  bg := fun k b h => by
    obtain ⟨h1, h2, h3, h4, h5⟩ := E.bg k b h
    have n : i ≠ k := fun q => hb (by rw [← E.bk, h]; simp [q])
    exact ⟨by rw [List.getElem?_set_ne n]; exact h1, by rw [List.getElem?_set_ne n]; exact h2, h3, h4, h5⟩
/-- the slots of a block are forgotten -/
def wipeD (sl : List (Option En)) : List Nat → List (Option En)
  | [] => sl
  | v :: vs => (wipeD sl vs).set v none
theorem EnvOk.wipe1 (E : EnvOk C F H σ δ) {i : Nat} (hb : δ.bk ≠ some i) : EnvOk C F H (σ.set i none) { δ with sl := δ.sl.set i none } where
  sub := E.sub
  sF := E.sF
  sH := E.sH
  nw := E.nw
  len := by simp [E.len]
  at_ := fun j e h' => by
    by_cases q : j = i
    · subst q
      have hl : j < δ.sl.length := by
        have := (List.getElem?_eq_some_iff.mp h').1
        simpa using this
      rw [List.getElem?_set_self hl] at h'
      cases h'
    · rw [List.getElem?_set_ne (fun z => q z.symm)] at h' ⊢
      exact E.at_ j e h'
  sep := fun j k e e' p h1 h2 o1 o2 s1 s2 => by
    have ne : ∀ {j : Nat} {e : En}, (δ.sl.set i none)[j]? = some (some e) → j ≠ i := fun {j e} h q => by
      subst q
      have hl : j < δ.sl.length := by
        have := (List.getElem?_eq_some_iff.mp h).1
        simpa using this
      rw [List.getElem?_set_self hl] at h
      cases h
    have n1 := ne h1
    have n2 := ne h2
    rw [List.getElem?_set_ne (fun z => n1 z.symm)] at h1 s1
    rw [List.getElem?_set_ne (fun z => n2 z.symm)] at h2 s2
    exact E.sep j k e e' p h1 h2 o1 o2 s1 s2
  mine := fun j e p h1 o1 s1 => by
    have n1 : j ≠ i := fun q => by
      subst q
      have hl : j < δ.sl.length := by
        have := (List.getElem?_eq_some_iff.mp h1).1
        simpa using this
      rw [List.getElem?_set_self hl] at h1
      cases h1
    rw [List.getElem?_set_ne (fun z => n1 z.symm)] at h1 s1
    exact E.mine j e p h1 o1 s1
  bk := E.bk
  bg := fun k b h => by
    obtain ⟨h1, h2, h3, h4, h5⟩ := E.bg k b h
    have n : i ≠ k := fun q => hb (by rw [← E.bk, h]; simp [q])
    exact ⟨by rw [List.getElem?_set_ne n]; exact h1, by rw [List.getElem?_set_ne n]; exact h2, h3, h4, h5⟩
theorem EnvOk.wipe : ∀ (vs : List Nat) {C : Ctx} {F H : Hp} {σ : L2.St} {δ : Dn} (E : EnvOk C F H σ δ) (hb : ∀ i ∈ vs, δ.bk ≠ some i), EnvOk C F H (L2.wipe σ vs) { δ with sl := wipeD δ.sl vs }
  | [], _, _, _, _, _, E, _ => E
  | v :: vs, _, _, _, _, _, E, hb => (EnvOk.wipe vs E fun i hi => hb i (List.mem_cons_of_mem _ hi)).wipe1 (hb v List.mem_cons_self)
end
end K71

set_option Elab.async false
set_option linter.all false
set_option maxRecDepth 100000
set_option maxHeartbeats 2000000
namespace K71
open PySem L2

/-! ### expressions, tests, arguments as functions of the state -/
abbrev DE := Dn → Option (PyData × Bag)
abbrev DT := Dn → Option (Bool × Bag)
abbrev DA := Dn → Option (List PyData × Bag)
abbrev Dn.wb (δ : Dn) (b : Bag) : Dn := { δ with bag := b }
def lift (de : DE) : TE := fun σ H Q => ∃ C F δ d b, EnvOk C F H σ δ ∧ de δ = some (d, b) ∧ ∀ F' H' v, EnvOk C F' H' σ (δ.wb b) → Same F F' → Dq F' d v → Q v H'
def liftT (dt : DT) : TT := fun σ H Q => ∃ C F δ k b, EnvOk C F H σ δ ∧ dt δ = some (k, b) ∧ ∀ F' H', EnvOk C F' H' σ (δ.wb b) → Same F F' → Q k H'
def liftA (da : DA) : TA := fun σ H Q => ∃ C F δ ds b, EnvOk C F H σ δ ∧ da δ = some (ds, b) ∧ ∀ F' H' vs, EnvOk C F' H' σ (δ.wb b) → Same F F' → DqL F' ds vs → Q vs H'
section
variable {X : Cx}
theorem pe_le {e : Expr} {t u : TE} (h : PE X e t) (le : ∀ σ H Q, u σ H Q → t σ H Q) : PE X e u := ⟨fun pins s σ H Q I q => h.run pins s σ H Q I (le σ H Q q)⟩
theorem pt_le {e : Expr} {t u : TT} (h : PT X e t) (le : ∀ σ H Q, u σ H Q → t σ H Q) : PT X e u := ⟨fun pins s σ H Q I q => h.run pins s σ H Q I (le σ H Q q)⟩
theorem pw_le {e : Expr} {t u : TT} (h : PW X e t) (le : ∀ σ H Q, u σ H Q → t σ H Q) : PW X e u := ⟨fun w pins s σ H Q I q => h.run w pins s σ H Q I (le σ H Q q)⟩
theorem pa_le {es : List Expr} {t u : TA} (h : PA X es t) (le : ∀ σ H Q, u σ H Q → t σ H Q) : PA X es u := ⟨fun pos pins s σ H Q I q => h.run pos pins s σ H Q I (le σ H Q q)⟩
theorem ps_le {st : Stmt} {t u : TS} (h : PS X st t) (le : ∀ D σ H, u D σ H → t D σ H) : PS X st u := ⟨fun pins s σ H D I q => h.run pins s σ H D I (le D σ H q)⟩
theorem pss_le {st : List Stmt} {t u : TS} (h : PSs X st t) (le : ∀ D σ H, u D σ H → t D σ H) : PSs X st u := ⟨fun pins s σ H D I q => h.run pins s σ H D I (le D σ H q)⟩
theorem pi_le {tg it : Expr} {t u : TI} (h : PI X tg it t) (le : ∀ σ H Q, u σ H Q → t σ H Q) : PI X tg it u := ⟨fun pins s σ H Q I q => h.run pins s σ H Q I (le σ H Q q)⟩

/-! ### names and constants -/
def dVar (i : Nat) : DE := fun δ => match δ.sl[i]? with
  | some (some (.dat d)) => some (d, δ.bag)
  | _ => none
theorem dVar_some {i : Nat} {δ : Dn} {d : PyData} {b : Bag} (h : dVar i δ = some (d, b)) : δ.sl[i]? = some (some (.dat d)) ∧ b = δ.bag := by
  unfold dVar at h
  split at h
  · rename_i d' e
    cases h
    exact ⟨e, rfl⟩
  · cases h
theorem lift_var {i : Nat} {σ : L2.St} {H : Hp} {Q : VK} (h : lift (dVar i) σ H Q) : tVar i σ H Q := by
  obtain ⟨C, F, δ, d, b, E, e, k⟩ := h
  obtain ⟨h1, rfl⟩ := dVar_some e
  obtain ⟨v, h2, h3⟩ := E.at_ _ _ h1
  exact ⟨v, h2, k F H v E (Same.refl F) h3⟩
theorem qv (i : Nat) {x : Str} {pos : Pos} (hN : X.N[i]? = some x := by rfl) (hv : Vis X.env.scope x := by first | exact Or.inl rfl | exact Or.inr (Or.inl rfl) | exact Or.inr (Or.inr rfl)) (hd : (x == ("__debug__" : Str)) = false := by decide)
    (hcd : (x == ("__classdict__" : Str)) = false := by decide) : PE X (.Name x pos) (lift (dVar i)) := pe_le (pv i hN hv hd hcd) fun _ _ _ => lift_var
def dC (d : PyData) : DE := fun δ => some (d, δ.bag)
theorem lift_c {d : PyData} {v : V} (hv : ∀ F, Dq F d v) {σ : L2.St} {H : Hp} {Q : VK} (h : lift (dC d) σ H Q) : tC v σ H Q := by
  obtain ⟨C, F, δ, d, b, E, e, k⟩ := h
  cases e
  exact k F H v E (Same.refl F) (hv F)
theorem q_int {i : Int} {j : Nat} {pos : Pos} : PE X (.Constant (.int i) j pos) (lift (dC (.int i))) := pe_le pe_int fun _ _ _ => lift_c fun _ => .int i
theorem q_bl {i : Bool} {j : Nat} {pos : Pos} : PE X (.Constant (.bool i) j pos) (lift (dC (.bool i))) := pe_le pe_bl fun _ _ _ => lift_c fun _ => .bl i
theorem q_str {i : Str} {j : Nat} {pos : Pos} : PE X (.Constant (.str i) j pos) (lift (dC (.str i))) := pe_le pe_str fun _ _ _ => lift_c fun _ => .str i
theorem q_non {j : Nat} {pos : Pos} : PE X (.Constant .none j pos) (lift (dC .none)) := pe_le pe_non fun _ _ _ => lift_c fun _ => .non
theorem q_glob {x : Str} {pos : Pos} {i : Int} {t : Tok} (hg : Gl X x) (hm : X.mg x = some (.int i t)) (hd : (x == ("__debug__" : Str)) = false := by decide) : PE X (.Name x pos) (lift (dC (.int i))) :=
  pe_le (pe_glob hg hm (v := .int i) ⟨t, rfl⟩ hd) fun _ _ _ => lift_c fun _ => .int i

/-! ### one after another -/
def bd {α : Type} (a : DE) (k : PyData → Dn → Option α) : Dn → Option α := fun δ => match a δ with
  | some (x, b) => k x (δ.wb b)
  | none => none
theorem bd_some {α : Type} {a : DE} {k : PyData → Dn → Option α} {δ : Dn} {r : α} (h : bd a k δ = some r) : ∃ x b, a δ = some (x, b) ∧ k x (δ.wb b) = some r := by
  unfold bd at h
  split at h
  · rename_i x b e
    exact ⟨x, b, e, h⟩
  · cases h
def bdA {α : Type} (a : DA) (k : List PyData → Dn → Option α) : Dn → Option α := fun δ => match a δ with
  | some (x, b) => k x (δ.wb b)
  | none => none
theorem bdA_some {α : Type} {a : DA} {k : List PyData → Dn → Option α} {δ : Dn} {r : α} (h : bdA a k δ = some r) : ∃ x b, a δ = some (x, b) ∧ k x (δ.wb b) = some r := by
  unfold bdA at h
  split at h
  · rename_i x b e
    exact ⟨x, b, e, h⟩
  · cases h
/-- an operation on data: what the hand layer's operation by values does -/
def OpD (g : PyData → PyData → Option PyData) (r : R2) : Prop := ∀ (C : Ctx) (F H : Hp) (σ : L2.St) (δ : Dn) (x y : V) (dx dy dz : PyData) (Q : VK), EnvOk C F H σ δ → Dq F dx x → Dq F dy y → g dx dy = some dz →
  (∀ F' H' v, EnvOk C F' H' σ δ → Same F F' → Dq F' dz v → Q v H') → r x y H Q
def dOp (g : PyData → PyData → Option PyData) (a b : DE) : DE := bd a fun x => bd b fun y => fun δ => (g x y).map (·, δ.bag)
theorem lift_op {g : PyData → PyData → Option PyData} {r : R2} {a b : DE} (o : OpD g r) {σ : L2.St} {H : Hp} {Q : VK} (h : lift (dOp g a b) σ H Q) : tOp r (lift a) (lift b) σ H Q := by
  obtain ⟨C, F, δ, d, b', E, e, k⟩ := h
  obtain ⟨x, b1, e1, e⟩ := bd_some e
  obtain ⟨y, b2, e2, e⟩ := bd_some e
  obtain ⟨z, e3, e⟩ := Option.map_eq_some_iff.mp e
  cases e
  refine ⟨C, F, δ, x, b1, E, e1, fun F1 H1 v1 E1 s1 q1 => ⟨C, F1, _, y, b2, E1, e2, fun F2 H2 v2 E2 s2 q2 => ?_⟩⟩
  exact o C F2 H2 σ _ v1 v2 x y _ Q E2 (q1.mono s2) q2 e3 fun F3 H3 v E3 s3 q3 => k F3 H3 v E3 ((s1.trans s2).trans s3) q3
theorem q_op {a b : Expr} {op : Operator} {pos : Pos} {da db : DE} {g : PyData → PyData → Option PyData} {r : R2} (ho : OpR X (binaryOp op) r) (o : OpD g r) (ha : PE X a (lift da)) (hb : PE X b (lift db)) : PE X (.BinOp a op b pos) (lift (dOp g da db)) :=
  pe_le (pe_op ho ha hb) fun _ _ _ => lift_op o
theorem q_cmp {a b : Expr} {op : CmpOp} {pos : Pos} {da db : DE} {g : PyData → PyData → Option PyData} {r : R2} (ho : OpR X (compareOp op) r) (o : OpD g r) (ha : PE X a (lift da)) (hb : PE X b (lift db)) (hm : behindInMarks op b = false) :
    PE X (.Compare a [op] [b] pos) (lift (dOp g da db)) := pe_le (pe_cmpR ho ha hb hm) fun _ _ _ => lift_op o
theorem q_ix {a b : Expr} {pos : Pos} {da db : DE} {g : PyData → PyData → Option PyData} {r : R2} (ho : IxR X r) (o : OpD g r) (ha : PE X a (lift da)) (hb : PE X b (lift db)) (hs : PlainIx b) :
    PE X (.Subscript a b pos) (lift (dOp g da db)) := pe_le (pe_ix ho ha hb hs) fun _ _ _ => lift_op o
/-- a < b < c -/
def dChain (g g' : PyData → PyData → Option PyData) (a b c : DE) : DE := bd a fun x => bd b fun y => fun δ => match g x y with
  | some (.bool true) => bd c (fun z δ => (g' y z).map (·, δ.bag)) δ
  | some (.bool false) => some (.bool false, δ.bag)
  | _ => none
theorem lift_chain {g g' : PyData → PyData → Option PyData} {r r' : R2} {a b c : DE} (o : OpD g r) (o' : OpD g' r') {σ : L2.St} {H : Hp} {Q : VK} (h : lift (dChain g g' a b c) σ H Q) : tChain r r' (lift a) (lift b) (lift c) σ H Q := by
  obtain ⟨C, F, δ, d, b', E, e, k⟩ := h
  obtain ⟨x, b1, e1, e⟩ := bd_some e
  obtain ⟨y, b2, e2, e⟩ := bd_some e
  refine ⟨C, F, δ, x, b1, E, e1, fun F1 H1 v1 E1 s1 q1 => ⟨C, F1, _, y, b2, E1, e2, fun F2 H2 v2 E2 s2 q2 => ?_⟩⟩
  split at e
  · rename_i e3
    refine o C F2 H2 σ _ v1 v2 x y _ _ E2 (q1.mono s2) q2 e3 fun F3 H3 v E3 s3 q3 => ?_
    cases q3
    refine ⟨true, rfl, iteT ?_⟩
    obtain ⟨z, b3, e4, e⟩ := bd_some e
    obtain ⟨z', e5, e⟩ := Option.map_eq_some_iff.mp e
    cases e
    refine ⟨C, F3, _, z, b3, E3, e4, fun F4 H4 v4 E4 s4 q4 => ?_⟩
    exact o' C F4 H4 σ _ v2 v4 y z _ Q E4 (q2.mono (s3.trans s4)) q4 e5 fun F5 H5 v E5 s5 q5 => k F5 H5 v E5 ((((s1.trans s2).trans s3).trans s4).trans s5) q5
  · rename_i e3
    cases e
    refine o C F2 H2 σ _ v1 v2 x y _ _ E2 (q1.mono s2) q2 e3 fun F3 H3 v E3 s3 q3 => ?_
    cases q3
    exact ⟨false, rfl, iteF (k F3 H3 _ E3 ((s1.trans s2).trans s3) (.bl false))⟩
  · cases e
theorem q_chain {a b c : Expr} {op op' : CmpOp} {pos : Pos} {da db dc : DE} {g g' : PyData → PyData → Option PyData} {r r' : R2} (ho : OpR X (compareOp op) r) (ho' : OpR X (compareOp op') r') (o : OpD g r) (o' : OpD g' r') (ha : PE X a (lift da)) (hb : PE X b (lift db)) (hc : PE X c (lift dc)) (hm : lastMarks [op, op'] [b, c] = false := by with_unfolding_all rfl) :
    PE X (.Compare a [op, op'] [b, c] pos) (lift (dChain g g' da db dc)) := pe_le (pe_chain ho ho' ha hb hc hm) fun _ _ _ => lift_chain o o'
/-- one operand -/
def UnD (g : PyData → Option PyData) (r : V → Hp → VK → Prop) : Prop := ∀ (C : Ctx) (F H : Hp) (σ : L2.St) (δ : Dn) (x : V) (dx dz : PyData) (Q : VK), EnvOk C F H σ δ → Dq F dx x → g dx = some dz →
  (∀ F' H' v, EnvOk C F' H' σ δ → Same F F' → Dq F' dz v → Q v H') → r x H Q
def dUn (g : PyData → Option PyData) (a : DE) : DE := bd a fun x => fun δ => (g x).map (·, δ.bag)
theorem lift_un {g : PyData → Option PyData} {r : V → Hp → VK → Prop} {a : DE} (o : UnD g r) {σ : L2.St} {H : Hp} {Q : VK} (h : lift (dUn g a) σ H Q) : tUn r (lift a) σ H Q := by
  obtain ⟨C, F, δ, d, b', E, e, k⟩ := h
  obtain ⟨x, b1, e1, e⟩ := bd_some e
  obtain ⟨z, e3, e⟩ := Option.map_eq_some_iff.mp e
  cases e
  refine ⟨C, F, δ, x, b1, E, e1, fun F1 H1 v1 E1 s1 q1 => ?_⟩
  exact o C F1 H1 σ _ v1 x _ Q E1 q1 e3 fun F3 H3 v E3 s3 q3 => k F3 H3 v E3 (s1.trans s3) q3
theorem q_un {a : Expr} {op : UnaryOp} {pos : Pos} {da : DE} {g : PyData → Option PyData} {r : V → Hp → VK → Prop} (ho : UnR X (unaryOp op) r) (o : UnD g r) (ha : PE X a (lift da)) : PE X (.UnaryOp op a pos) (lift (dUn g da)) :=
  pe_le (pe_un ho ha) fun _ _ _ => lift_un o

/-! ### truth -/
def asB : PyData → Option Bool
  | .bool b => some b
  | _ => none
theorem asB_some {d : PyData} {k : Bool} (h : asB d = some k) : d = .bool k := by
  cases d <;> simp [asB] at h
  subst h
  rfl
def dNot (a : DE) : DE := bd a fun x => fun δ => (asB x).map fun k => (.bool (!k), δ.bag)
theorem lift_not {a : DE} {σ : L2.St} {H : Hp} {Q : VK} (h : lift (dNot a) σ H Q) : tNotV (lift a) σ H Q := by
  obtain ⟨C, F, δ, d, b', E, e, k⟩ := h
  obtain ⟨x, b1, e1, e⟩ := bd_some e
  obtain ⟨z, e3, e⟩ := Option.map_eq_some_iff.mp e
  cases e
  have := asB_some e3
  subst this
  refine ⟨C, F, δ, _, b1, E, e1, fun F1 H1 v1 E1 s1 q1 => ?_⟩
  cases q1
  exact ⟨z, rfl, k F1 H1 _ E1 s1 (.bl _)⟩
theorem q_not {a : Expr} {pos : Pos} {da : DE} (ha : PE X a (lift da)) : PE X (.UnaryOp .Not a pos) (lift (dNot da)) := pe_le (pe_not ha) fun _ _ _ => lift_not
def dAnd (a c : DE) : DE := bd a fun x => fun δ => match x with
  | .bool true => c δ
  | .bool false => some (.bool false, δ.bag)
  | _ => none
def dOr (a c : DE) : DE := bd a fun x => fun δ => match x with
  | .bool true => some (.bool true, δ.bag)
  | .bool false => c δ
  | _ => none
theorem lift_and {a c : DE} {σ : L2.St} {H : Hp} {Q : VK} (h : lift (dAnd a c) σ H Q) : tAndV (lift a) (lift c) σ H Q := by
  obtain ⟨C, F, δ, d, b', E, e, k⟩ := h
  obtain ⟨x, b1, e1, e⟩ := bd_some e
  refine ⟨C, F, δ, _, b1, E, e1, fun F1 H1 v1 E1 s1 q1 => ?_⟩
  split at e
  · cases q1
    exact ⟨true, rfl, iteT ⟨C, F1, _, d, b', E1, e, fun F2 H2 v2 E2 s2 q2 => k F2 H2 v2 E2 (s1.trans s2) q2⟩⟩
  · cases q1
    cases e
    exact ⟨false, rfl, iteF (k F1 H1 _ E1 s1 (.bl false))⟩
  · cases e
theorem lift_or {a c : DE} {σ : L2.St} {H : Hp} {Q : VK} (h : lift (dOr a c) σ H Q) : tOrV (lift a) (lift c) σ H Q := by
  obtain ⟨C, F, δ, d, b', E, e, k⟩ := h
  obtain ⟨x, b1, e1, e⟩ := bd_some e
  refine ⟨C, F, δ, _, b1, E, e1, fun F1 H1 v1 E1 s1 q1 => ?_⟩
  split at e
  · cases q1
    cases e
    exact ⟨true, rfl, iteT (k F1 H1 _ E1 s1 (.bl true))⟩
  · cases q1
    exact ⟨false, rfl, iteF ⟨C, F1, _, d, b', E1, e, fun F2 H2 v2 E2 s2 q2 => k F2 H2 v2 E2 (s1.trans s2) q2⟩⟩
  · cases e
theorem q_and {a b : Expr} {rest : List Expr} {pos : Pos} {da dc : DE} (ha : PE X a (lift da)) (hc : PE X (.BoolOp .And (b :: rest) pos) (lift dc)) : PE X (.BoolOp .And (a :: b :: rest) pos) (lift (dAnd da dc)) := pe_le (pe_and ha hc) fun _ _ _ => lift_and
theorem q_or {a b : Expr} {rest : List Expr} {pos : Pos} {da dc : DE} (ha : PE X a (lift da)) (hc : PE X (.BoolOp .Or (b :: rest) pos) (lift dc)) : PE X (.BoolOp .Or (a :: b :: rest) pos) (lift (dOr da dc)) := pe_le (pe_or ha hc) fun _ _ _ => lift_or
/-- tests -/
def tst (a : DE) : DT := bd a fun x => fun δ => (asB x).map (·, δ.bag)
theorem liftT_B {a : DE} {σ : L2.St} {H : Hp} {Q : Bool → Hp → Prop} (h : liftT (tst a) σ H Q) : tB (lift a) σ H Q := by
  obtain ⟨C, F, δ, d, b', E, e, k⟩ := h
  obtain ⟨x, b1, e1, e⟩ := bd_some e
  obtain ⟨z, e3, e⟩ := Option.map_eq_some_iff.mp e
  cases e
  have := asB_some e3
  subst this
  refine ⟨C, F, δ, _, b1, E, e1, fun F1 H1 v1 E1 s1 q1 => ?_⟩
  cases q1
  exact ⟨d, rfl, k F1 H1 E1 s1⟩
theorem t_val {e : Expr} {d : DE} (h : PE X e (lift d)) (he : ∀ whole, isTrue e X.env whole = (do let v ← whole; standAt e.pos; holding [v] (truthy v)) := by intro _; rfl) : PT X e (liftT (tst d)) := pt_le (pt_val h he) fun _ _ _ => liftT_B
def tAndD (a c : DT) : DT := fun δ => match a δ with
  | some (true, b) => c (δ.wb b)
  | some (false, b) => some (false, b)
  | none => none
def tOrD (a c : DT) : DT := fun δ => match a δ with
  | some (true, b) => some (true, b)
  | some (false, b) => c (δ.wb b)
  | none => none
def tNotD (a : DT) : DT := fun δ => (a δ).map fun r => (!r.1, r.2)
theorem liftT_and {a c : DT} {σ : L2.St} {H : Hp} {Q : Bool → Hp → Prop} (h : liftT (tAndD a c) σ H Q) : tAnd (liftT a) (liftT c) σ H Q := by
  obtain ⟨C, F, δ, d, b', E, e, k⟩ := h
  unfold tAndD at e
  split at e
  · rename_i b e1
    exact ⟨C, F, δ, true, b, E, e1, fun F1 H1 E1 s1 => iteT ⟨C, F1, _, d, b', E1, e, fun F2 H2 E2 s2 => k F2 H2 E2 (s1.trans s2)⟩⟩
  · rename_i b e1
    cases e
    exact ⟨C, F, δ, false, _, E, e1, fun F1 H1 E1 s1 => iteF (k F1 H1 E1 s1)⟩
  · cases e
theorem liftT_or {a c : DT} {σ : L2.St} {H : Hp} {Q : Bool → Hp → Prop} (h : liftT (tOrD a c) σ H Q) : tOr (liftT a) (liftT c) σ H Q := by
  obtain ⟨C, F, δ, d, b', E, e, k⟩ := h
  unfold tOrD at e
  split at e
  · rename_i b e1
    cases e
    exact ⟨C, F, δ, true, _, E, e1, fun F1 H1 E1 s1 => iteT (k F1 H1 E1 s1)⟩
  · rename_i b e1
    exact ⟨C, F, δ, false, b, E, e1, fun F1 H1 E1 s1 => iteF ⟨C, F1, _, d, b', E1, e, fun F2 H2 E2 s2 => k F2 H2 E2 (s1.trans s2)⟩⟩
  · cases e
theorem liftT_not {a : DT} {σ : L2.St} {H : Hp} {Q : Bool → Hp → Prop} (h : liftT (tNotD a) σ H Q) : tNot (liftT a) σ H Q := by
  obtain ⟨C, F, δ, d, b', E, e, k⟩ := h
  obtain ⟨⟨z, b1⟩, e3, e⟩ := Option.map_eq_some_iff.mp e
  cases e
  exact ⟨C, F, δ, z, b1, E, e3, fun F1 H1 E1 s1 => k F1 H1 E1 s1⟩
theorem w_and {a b : Expr} {rest : List Expr} {pos : Pos} {da dc : DT} (ha : PT X a (liftT da)) (hc : PW X (.BoolOp .And (b :: rest) pos) (liftT dc)) : PW X (.BoolOp .And (a :: b :: rest) pos) (liftT (tAndD da dc)) := pw_le (pw_and ha hc) fun _ _ _ => liftT_and
theorem w_or {a b : Expr} {rest : List Expr} {pos : Pos} {da dc : DT} (ha : PT X a (liftT da)) (hc : PW X (.BoolOp .Or (b :: rest) pos) (liftT dc)) : PW X (.BoolOp .Or (a :: b :: rest) pos) (liftT (tOrD da dc)) := pw_le (pw_or ha hc) fun _ _ _ => liftT_or
theorem t_not {a : Expr} {pos : Pos} {da : DT} (ha : PT X a (liftT da)) : PT X (.UnaryOp .Not a pos) (liftT (tNotD da)) := pt_le (pt_not ha) fun _ _ _ => liftT_not
/-- a if t else b -/
def dIf (t : DT) (a c : DE) : DE := fun δ => match t δ with
  | some (true, b) => a (δ.wb b)
  | some (false, b) => c (δ.wb b)
  | none => none
theorem lift_if {t : DT} {a c : DE} {σ : L2.St} {H : Hp} {Q : VK} (h : lift (dIf t a c) σ H Q) : tIf (liftT t) (lift a) (lift c) σ H Q := by
  obtain ⟨C, F, δ, d, b', E, e, k⟩ := h
  unfold dIf at e
  split at e
  · rename_i b e1
    exact ⟨C, F, δ, true, b, E, e1, fun F1 H1 E1 s1 => iteT ⟨C, F1, _, d, b', E1, e, fun F2 H2 v E2 s2 q2 => k F2 H2 v E2 (s1.trans s2) q2⟩⟩
  · rename_i b e1
    exact ⟨C, F, δ, false, b, E, e1, fun F1 H1 E1 s1 => iteF ⟨C, F1, _, d, b', E1, e, fun F2 H2 v E2 s2 q2 => k F2 H2 v E2 (s1.trans s2) q2⟩⟩
  · cases e
theorem q_if {c a b : Expr} {pos : Pos} {t : DT} {da db : DE} (hc : PT X c (liftT t)) (ha : PE X a (lift da)) (hb : PE X b (lift db)) : PE X (.IfExp c a b pos) (lift (dIf t da db)) := pe_le (pe_ifExp hc ha hb) fun _ _ _ => lift_if

/-! ### arguments, displays -/
def aNil : DA := fun δ => some ([], δ.bag)
def aCons (a : DE) (r : DA) : DA := bd a fun x => bdA r fun xs => fun δ => some (x :: xs, δ.bag)
theorem liftA_nil {σ : L2.St} {H : Hp} {Q : List V → Hp → Prop} (h : liftA aNil σ H Q) : tNil σ H Q := by
  obtain ⟨C, F, δ, d, b', E, e, k⟩ := h
  cases e
  exact k F H [] E (Same.refl F) .nil
theorem liftA_cons {a : DE} {r : DA} {σ : L2.St} {H : Hp} {Q : List V → Hp → Prop} (h : liftA (aCons a r) σ H Q) : tCons (lift a) (liftA r) σ H Q := by
  obtain ⟨C, F, δ, d, b', E, e, k⟩ := h
  obtain ⟨x, b1, e1, e⟩ := bd_some e
  obtain ⟨xs, b2, e2, e⟩ := bdA_some e
  cases e
  exact ⟨C, F, δ, x, b1, E, e1, fun F1 H1 v1 E1 s1 q1 => ⟨C, F1, _, xs, _, E1, e2, fun F2 H2 vs E2 s2 q2 => k F2 H2 _ E2 (s1.trans s2) (.cons (q1.mono s2) q2)⟩⟩
theorem a_nil : PA X [] (liftA aNil) := pa_le pa_nil fun _ _ _ => liftA_nil
theorem a_cons {e : Expr} {es : List Expr} {a : DE} {r : DA} (he : PE X e (lift a)) (hr : PA X es (liftA r)) (h : starEach (e :: es) X.env = (false, eval e X.env) :: starEach es X.env := by rfl) : PA X (e :: es) (liftA (aCons a r)) :=
  pa_le (pa_cons he hr h) fun _ _ _ => liftA_cons
def dTup (a : DA) : DE := bdA a fun xs => fun δ => if xs.length ≤ sizeLine then some (.tuple xs, δ.bag) else none
def dLst (a : DA) : DE := bdA a fun xs => fun δ => if xs.length ≤ sizeLine then some (.list xs, δ.bag) else none
theorem lift_tup {a : DA} {σ : L2.St} {H : Hp} {Q : VK} (h : lift (dTup a) σ H Q) : tTup (liftA a) σ H Q := by
  obtain ⟨C, F, δ, d, b', E, e, k⟩ := h
  obtain ⟨xs, b1, e1, e⟩ := bdA_some e
  refine ⟨C, F, δ, xs, b1, E, e1, fun F1 H1 vs E1 s1 q1 => ?_⟩
  split at e
  · rename_i hl
    cases e
    refine ⟨by rw [← q1.length]; exact hl, fun p hp => ?_⟩
    obtain ⟨E2, s2⟩ := E1.new (.tup vs) hp
    exact k _ _ _ E2 (s1.trans s2) (.tup p upd_same (q1.mono s2))
  · cases e
theorem lift_lst {a : DA} {σ : L2.St} {H : Hp} {Q : VK} (h : lift (dLst a) σ H Q) : tLst (liftA a) σ H Q := by
  obtain ⟨C, F, δ, d, b', E, e, k⟩ := h
  obtain ⟨xs, b1, e1, e⟩ := bdA_some e
  refine ⟨C, F, δ, xs, b1, E, e1, fun F1 H1 vs E1 s1 q1 => ?_⟩
  split at e
  · rename_i hl
    cases e
    refine ⟨by rw [← q1.length]; exact hl, fun p hp => ?_⟩
    obtain ⟨E2, s2⟩ := E1.new (.lst vs) hp
    exact k _ _ _ E2 (s1.trans s2) (.lst p upd_same (q1.mono s2))
  · cases e
theorem q_tup {es : List Expr} {n : Nat} {pos : Pos} {a : DA} (h : PA X es (liftA a)) : PE X (.Tuple es n pos) (lift (dTup a)) := pe_le (pe_tup h) fun _ _ _ => lift_tup
theorem q_lst {es : List Expr} {pos : Pos} {a : DA} (h : PA X es (liftA a)) : PE X (.List es pos) (lift (dLst a)) := pe_le (pe_lst h) fun _ _ _ => lift_lst
def dEmp : DE := dC (.dict [])
theorem q_emp {pos : Pos} : PE X (.Dict [] [] pos) (lift dEmp) := pe_le pe_dnewK fun σ H Q h => by
  obtain ⟨C, F, δ, d, b', E, e, k⟩ := h
  cases e
  intro p hp
  obtain ⟨E2, s2⟩ := E.new (.dK []) hp
  exact k _ _ _ E2 s2 (.emp p upd_same)

/-! ### calls of what is built in, of defs -/
def CallD (g : List PyData → Option PyData) (r : List V → Hp → VK → Prop) : Prop := ∀ (C : Ctx) (F H : Hp) (σ : L2.St) (δ : Dn) (xs : List V) (ds : List PyData) (dz : PyData) (Q : VK), EnvOk C F H σ δ → DqL F ds xs → g ds = some dz →
  (∀ F' H' v, EnvOk C F' H' σ δ → Same F F' → Dq F' dz v → Q v H') → r xs H Q
def dCall (g : List PyData → Option PyData) (a : DA) : DE := bdA a fun xs => fun δ => (g xs).map (·, δ.bag)
theorem lift_cb {g : List PyData → Option PyData} {r : List V → Hp → VK → Prop} {a : DA} (o : CallD g r) {σ : L2.St} {H : Hp} {Q : VK} (h : lift (dCall g a) σ H Q) : tCB r (liftA a) σ H Q := by
  obtain ⟨C, F, δ, d, b', E, e, k⟩ := h
  obtain ⟨xs, b1, e1, e⟩ := bdA_some e
  obtain ⟨z, e3, e⟩ := Option.map_eq_some_iff.mp e
  cases e
  refine ⟨C, F, δ, xs, _, E, e1, fun F1 H1 vs E1 s1 q1 => ?_⟩
  exact o C F1 H1 σ _ vs xs _ Q E1 q1 e3 fun F2 H2 v E2 s2 q2 => k F2 H2 v E2 (s1.trans s2) q2
/-- a def that hands back f of its arguments, data all of them, and changes nothing that stood -/
def spP (n : Nat) (f : List PyData → Option PyData) : Sp := fun vs H Q _ => vs.length = n ∧ ∃ F ds d, Same F H ∧ DqL F ds vs ∧ f ds = some d ∧
  ∀ F' H' v, Same F' H' → Same F F' → Same H H' → (∀ c o, H c = some o → NoTup o → F c = none → F' c = none) → Dq F' d v → Q v H'
/-- a def that draws from the bag, its first argument -/
def spB (n : Nat) (f : Bag → List PyData → Option (PyData × Bag)) : Sp := fun vs H Q _ => vs.length = n + 1 ∧ ∃ F b ws bag ds d bag', Same F H ∧ vs = .ref b :: ws ∧ H b = some (bagV bag) ∧ F b = none ∧ DqL F ds ws ∧ f bag ds = some (d, bag') ∧
  ∀ F' H' v, Same F' H' → Same F F' → (∀ c o, c ≠ b → H c = some o → H' c = some o) → (∀ c o, c ≠ b → H c = some o → NoTup o → F c = none → F' c = none) → H' b = some (bagV bag') → F' b = none → Dq F' d v → Q v H'
def dFn (n : Nat) (f : List PyData → Option PyData) (a : DA) : DE := bdA a fun xs => fun δ => if xs.length = n then (f xs).map (·, δ.bag) else none
theorem lift_call {n : Nat} {f : List PyData → Option PyData} {a : DA} {Ex : XK} {σ : L2.St} {H : Hp} {Q : VK} (h : lift (dFn n f a) σ H Q) : tCall (spP n f) [] Ex (liftA a) σ H Q := by
  obtain ⟨C, F, δ, d, b', E, e, k⟩ := h
  obtain ⟨xs, b1, e1, e⟩ := bdA_some e
  split at e
  · rename_i hl
    obtain ⟨z, e3, e⟩ := Option.map_eq_some_iff.mp e
    cases e
    refine ⟨C, F, δ, xs, _, E, e1, fun F1 H1 vs E1 s1 q1 => ?_⟩
    show spP n f (vs ++ []) H1 Q Ex
    rw [List.append_nil]
    refine ⟨by rw [← q1.length]; exact hl, F1, xs, _, E1.sub, q1, e3, fun F2 H2 v a b c nw q => ?_⟩
    exact k F2 H2 v (E1.step a b c nw) (s1.trans b) q
  · cases e
theorem q_call {k n : Nat} {f : Addr} {fd : FuncData} {ps : List Str} {x : Str} {p pos : Pos} {e : Expr} {es : List Expr} {g : List PyData → Option PyData} {a : DA} (F : FnOk X.prog X.w X.K X.mg X.base CX0 k f fd ps (spP n g)) (hr : Room k X.A) (hg : Gl X x) (hm : X.mg x = some (.ref f))
    (hk : PySem.W.keepIn X.K (.ref f) = true) (hb : Binds X.K fd ps []) (ha : PA X (e :: es) (liftA a)) (hdb : (x == ("__debug__" : Str)) = false := by decide)
    (he : starEach (e :: es) X.env = (false, eval e X.env) :: starEach es X.env := by rfl) (hpl : (backTo pos (starEach es X.env)).any (·.1) = false := by rfl) : PE X (.Call (.Name x p) (e :: es) [] pos) (lift (dFn n g a)) :=
  pe_le (pe_call F hr hg hm hk hb .nil pass0 ha hdb he hpl) fun _ _ _ => lift_call
/-- a call that draws from the bag in slot k -/
def dBag (k n : Nat) (f : Bag → List PyData → Option (PyData × Bag)) (a : DA) : DE := bdA a fun xs => fun δ => if xs.length = n ∧ δ.bk = some k then f δ.bag xs else none
theorem EnvOk.bagged {C : Ctx} {F F' H H' : Hp} {σ : L2.St} {δ : Dn} {k : Nat} {b : Addr} {bag' : Bag} (E : EnvOk C F H σ δ) (hb : C.bag = some (k, b)) (a : Same F' H') (s : Same F F') (c : ∀ p o, p ≠ b → H p = some o → H' p = some o)
    (n : ∀ p o, p ≠ b → H p = some o → NoTup o → F p = none → F' p = none) (hH : H' b = some (bagV bag')) (hF : F' b = none) : EnvOk C F' H' σ (δ.wb bag') where
  sub := a
  sF := E.sF.trans s
  sH := fun p o hm h => by
    refine c p o (fun z => ?_) (E.sH p o hm h)
    rcases (E.bg k b hb).2.2.2.2 with q | q
    · exact hm (by rw [z]; exact q)
    · rw [z, q] at h; cases h
  nw := fun p o hm h ht hf => by
    refine n p o (fun z => ?_) (E.sH p o hm h) ht (E.nw p o hm h ht hf)
    rcases (E.bg k b hb).2.2.2.2 with q | q
    · exact hm (by rw [z]; exact q)
    · rw [z, q] at h; cases h
  len := E.len
  at_ := fun i e h => by
    have q := E.at_ i e h
    cases e with
    | dat d => obtain ⟨v, h1, h2⟩ := q; exact ⟨v, h1, h2.mono s⟩
    | own ds =>
      obtain ⟨p, xs, h1, h2, h3, h4⟩ := q
      have np := (E.mine i _ p h rfl h1).2 k b hb
      exact ⟨p, xs, h1, c _ _ np h2, n _ _ np h2 (fun _ z => nomatch z) h3, h4.mono s⟩
    | okd ks =>
      obtain ⟨p, h1, h2, h3⟩ := q
      have np := (E.mine i _ p h rfl h1).2 k b hb
      exact ⟨p, h1, c _ _ np h2, n _ _ np h2 (fun _ z => nomatch z) h3⟩
    | okn ks =>
      obtain ⟨p, xs, h1, h2, h3, h4, h5, h6, h7⟩ := q
      have np := (E.mine i _ p h rfl h1).2 k b hb
      exact ⟨p, xs, h1, c _ _ np h2, n _ _ np h2 (fun _ z => nomatch z) h3, h4, h5, h6, fun x hx => (h7 x hx).mono s⟩
  sep := E.sep
  mine := E.mine
  bk := E.bk
  bg := fun k' b' h => by
    have e := h.symm.trans hb
    cases e
    obtain ⟨h1, h2, h3, h4, h5⟩ := E.bg k b hb
    exact ⟨h1, h2, hH, hF, h5⟩
theorem EnvOk.bag_of {C : Ctx} {F H : Hp} {σ : L2.St} {δ : Dn} {k : Nat} (E : EnvOk C F H σ δ) (h : δ.bk = some k) : ∃ b, C.bag = some (k, b) := by
  have q := E.bk
  rw [h] at q
  obtain ⟨⟨k', b⟩, h1, h2⟩ := Option.map_eq_some_iff.mp q
  cases h2
  exact ⟨b, h1⟩
theorem lift_bag {k n : Nat} {f : Bag → List PyData → Option (PyData × Bag)} {a : DA} {Ex : XK} {σ : L2.St} {H : Hp} {Q : VK} (h : lift (dBag k n f a) σ H Q) : tCall (spB n f) [] Ex (tCons (tVar k) (liftA a)) σ H Q := by
  obtain ⟨C, F, δ, d, b', E, e, kk⟩ := h
  obtain ⟨xs, b1, e1, e⟩ := bdA_some e
  split at e
  · rename_i hl
    obtain ⟨b, hb⟩ := E.bag_of (k := k) hl.2
    refine ⟨.ref b, (E.bg k b hb).1, C, F, δ, xs, _, E, e1, fun F1 H1 vs E1 s1 q1 => ?_⟩
    show spB n f (V.ref b :: vs ++ []) H1 Q Ex
    rw [List.append_nil]
    obtain ⟨h1, h2, h3, h4, h5⟩ := E1.bg k b hb
    refine ⟨by rw [List.length_cons, ← q1.length, hl.1], F1, b, vs, b1, xs, d, b', E1.sub, rfl, h3, h4, q1, e, fun F2 H2 v a s c nw hH hF q => ?_⟩
    exact kk F2 H2 v (E1.bagged hb a s c nw hH hF) (s1.trans s) q
  · cases e
theorem q_bag {k n j : Nat} {f : Addr} {fd : FuncData} {ps : List Str} {x : Str} {p pos : Pos} {e : Expr} {es : List Expr} {g : Bag → List PyData → Option (PyData × Bag)} {a : DA} (F : FnOk X.prog X.w X.K X.mg X.base CX0 j f fd ps (spB n g)) (hr : Room j X.A) (hg : Gl X x) (hm : X.mg x = some (.ref f))
    (hk : PySem.W.keepIn X.K (.ref f) = true) (hb : Binds X.K fd ps []) (h0 : PE X e (tVar k)) (ha : PA X es (liftA a)) (hdb : (x == ("__debug__" : Str)) = false := by decide)
    (he : starEach (e :: es) X.env = (false, eval e X.env) :: starEach es X.env := by rfl) (hpl : (backTo pos (starEach es X.env)).any (·.1) = false := by rfl) : PE X (.Call (.Name x p) (e :: es) [] pos) (lift (dBag k n g a)) :=
  pe_le (pe_call F hr hg hm hk hb .nil pass0 (pa_cons h0 ha he) hdb he hpl) fun _ _ _ => lift_bag
theorem q_cb {x : Str} {p pos : Pos} {e : Expr} {es : List Expr} {id : String} {r : List V → Hp → VK → Prop} {g : List PyData → Option PyData} {a : DA} (hc : CallR X (.builtin id) r) (o : CallD g r) (hg : Gl X x) (hm : X.mg x = none) (hv : bootBuiltins x = some (.builtin id)) (ha : PA X (e :: es) (liftA a))
    (hn : x ≠ "__name__" := by decide) (hdb : (x == ("__debug__" : Str)) = false := by decide)
    (he : starEach (e :: es) X.env = (false, eval e X.env) :: starEach es X.env := by rfl) (hpl : (backTo pos (starEach es X.env)).any (·.1) = false := by rfl) : PE X (.Call (.Name x p) (e :: es) [] pos) (lift (dCall g a)) :=
  pe_le (pe_callB hc hg hm hv ha hn hdb he hpl) fun _ _ _ => lift_cb o
theorem q_cty {x : Str} {p pos : Pos} {e : Expr} {es : List Expr} {T : String} {r : List V → Hp → VK → Prop} {g : List PyData → Option PyData} {a : DA} (hc : CallR X (.type T) r) (o : CallD g r) (hg : Gl X x) (hm : X.mg x = none) (hv : bootBuiltins x = some (.type T)) (ha : PA X (e :: es) (liftA a))
    (hn : x ≠ "__name__" := by decide) (hdb : (x == ("__debug__" : Str)) = false := by decide)
    (he : starEach (e :: es) X.env = (false, eval e X.env) :: starEach es X.env := by rfl) (hpl : (backTo pos (starEach es X.env)).any (·.1) = false := by rfl) : PE X (.Call (.Name x p) (e :: es) [] pos) (lift (dCall g a)) :=
  pe_le (pe_callTy hc hg hm hv ha hn hdb he hpl) fun _ _ _ => lift_cb o
end
end K71

set_option Elab.async false
set_option linter.all false
set_option maxRecDepth 100000
set_option maxHeartbeats 2000000
namespace K71
open PySem L2

/-! ### targets -/
inductive Tg where
  | one (i : Nat)
  | many (is : List Nat)
def Tg.slots : Tg → List Nat
  | .one i => [i]
  | .many is => is
def setMany : List Nat → List PyData → List (Option En) → List (Option En)
  | i :: is, d :: ds, sl => setMany is ds (sl.set i (some (.dat d)))
  | _, _, sl => sl
def offBag (is : List Nat) (bk : Option Nat) : Bool := is.all fun i => decide (bk ≠ some i)
def putTg : Tg → PyData → Dn → Option Dn
  | .one i, d, δ => if offBag [i] δ.bk = true then some { δ with sl := δ.sl.set i (some (.dat d)) } else none
  | .many is, .tuple ds, δ => if ds.length = is.length ∧ offBag is δ.bk = true then some { δ with sl := setMany is ds δ.sl } else none
  | .many _, _, _ => none
theorem putTg_one (i : Nat) (d : PyData) (δ : Dn) : putTg (.one i) d δ = if offBag [i] δ.bk = true then some { δ with sl := δ.sl.set i (some (.dat d)) } else none := rfl
theorem putTg_many (is : List Nat) (ds : List PyData) (δ : Dn) : putTg (.many is) (.tuple ds) δ = if ds.length = is.length ∧ offBag is δ.bk = true then some { δ with sl := setMany is ds δ.sl } else none := rfl
theorem putTg_bag {t : Tg} {d : PyData} {δ δ' : Dn} (h : putTg t d δ = some δ') : δ'.bag = δ.bag ∧ δ'.bk = δ.bk := by
  cases t with
  | one i =>
    rw [putTg_one] at h
    split at h
    · cases h; exact ⟨rfl, rfl⟩
    · cases h
  | many is =>
    cases d with
    | tuple ds =>
      rw [putTg_many] at h
      split at h
      · cases h; exact ⟨rfl, rfl⟩
      · cases h
    | _ => exact nomatch h
def gsOf : List Nat → TGs
  | [] => gNil
  | i :: is => gCons (gName i) (gsOf is)
def gOf (K : PySem.W.Frag) : Tg → TG
  | .one i => gName i
  | .many is => gTup K is.length (gsOf is)
theorem wipe_get (σ : L2.St) (j : Nat) : ∀ vs : List Nat, (wipe σ vs)[j]? = if j ∈ vs then (σ[j]?).map (fun _ => none) else σ[j]?
  | [] => by simp [wipe]
  | v :: vs => by
    have ih := wipe_get σ j vs
    unfold wipe
    by_cases e : v = j
    · subst e
      rw [if_pos List.mem_cons_self]
      by_cases hl : v < σ.length
      · rw [List.getElem?_set_self (by rw [wipe_length]; exact hl), List.getElem?_eq_getElem hl]
        rfl
      · rw [List.getElem?_eq_none (by simp [wipe_length]; omega), List.getElem?_eq_none (by omega)]
        rfl
    · rw [List.getElem?_set_ne e, ih]
      by_cases h : j ∈ vs
      · rw [if_pos h, if_pos (List.mem_cons_of_mem _ h)]
      · rw [if_neg h, if_neg]
        intro z
        rcases List.mem_cons.mp z with z | z
        · exact e z.symm
        · exact h z
theorem wipe_set (σ : L2.St) {i : Nat} (x : Option V) {vs : List Nat} (h : i ∈ vs) : wipe (σ.set i x) vs = wipe σ vs := by
  apply List.ext_getElem?
  intro j
  rw [wipe_get, wipe_get]
  by_cases e : i = j
  · subst e
    rw [if_pos h, if_pos h]
    by_cases hl : i < σ.length
    · rw [List.getElem?_set_self hl, List.getElem?_eq_getElem hl]
      rfl
    · rw [List.getElem?_eq_none (by simp; omega), List.getElem?_eq_none (by omega)]
  · rw [List.getElem?_set_ne e]
/-- the same but for some slots -/
structure Agree (is : List Nat) (σ σ' : L2.St) : Prop where
  len : σ'.length = σ.length
  get : ∀ i, i ∉ is → σ'[i]? = σ[i]?
theorem Agree.wipe {is : List Nat} {σ σ' : L2.St} (a : Agree is σ σ') {ws : List Nat} (h : ∀ i ∈ is, i ∈ ws) : wipe σ' ws = wipe σ ws := by
  apply List.ext_getElem?
  intro j
  rw [wipe_get, wipe_get]
  by_cases e : j ∈ ws
  · rw [if_pos e, if_pos e]
    by_cases hl : j < σ.length
    · rw [List.getElem?_eq_getElem hl, List.getElem?_eq_getElem (by rw [a.len]; exact hl)]
      rfl
    · have hl2 := a.len
      rw [List.getElem?_eq_none (show σ'.length ≤ j by omega), List.getElem?_eq_none (show σ.length ≤ j by omega)]
  · rw [if_neg e, if_neg e]
    exact a.get j fun z => e (h j z)
theorem setMany_get : ∀ (is : List Nat) (ds : List PyData) (sl : List (Option En)) (j : Nat), j ∉ is → (setMany is ds sl)[j]? = sl[j]?
  | [], _, _, _, _ => by simp [setMany]
  | i :: is, [], _, _, _ => by simp [setMany]
  | i :: is, d :: ds, sl, j, h => by
    have h1 : i ≠ j := fun z => h (by rw [z]; exact List.mem_cons_self)
    rw [setMany, setMany_get is ds _ j fun z => h (List.mem_cons_of_mem _ z), List.getElem?_set_ne h1]
theorem putTg_get {t : Tg} {d : PyData} {δ δ' : Dn} (h : putTg t d δ = some δ') {j : Nat} (hj : j ∉ t.slots) : δ'.sl[j]? = δ.sl[j]? := by
  cases t with
  | one i =>
    rw [putTg_one] at h
    split at h
    · cases h
      exact List.getElem?_set_ne fun z => hj (by rw [z]; exact List.mem_cons_self)
    · cases h
  | many is =>
    cases d with
    | tuple ds =>
      rw [putTg_many] at h
      split at h
      · cases h; exact setMany_get is ds _ j hj
      · cases h
    | _ => exact nomatch h
theorem gs_put : ∀ (is : List Nat) {C : Ctx} {F H : Hp} {σ : L2.St} {δ : Dn} {ds : List PyData} {vs : List V} {Q : L2.St → Hp → Prop}, EnvOk C F H σ δ → offBag is δ.bk = true → DqL F ds vs → ds.length = is.length →
    (∀ σ', EnvOk C F H σ' { δ with sl := setMany is ds δ.sl } → Agree is σ σ' → Q σ' H) → gsOf is vs σ H Q
  | [], _, _, _, _, _, _, _, _, E, _, .nil, _, k => ⟨rfl, k _ E ⟨rfl, fun _ _ => rfl⟩⟩
  | [], _, _, _, _, _, _, _, _, _, _, .cons _ _, hl, _ => by simp at hl
  | i :: is, _, _, _, _, _, _, _, _, E, hb, .nil, hl, _ => by simp at hl
  | i :: is, C, F, H, σ, δ, _, _, Q, E, hb, .cons (d := d) (x := x) h t, hl, k => by
    have hb' := Bool.and_eq_true_iff.mp (show (decide (δ.bk ≠ some i) && offBag is δ.bk) = true from hb)
    refine ⟨_, _, rfl, ?_⟩
    refine gs_put is (E.set (of_decide_eq_true hb'.1) h) hb'.2 t (by simpa using hl) fun σ' E' w => k σ' E' ⟨by rw [w.len, List.length_set], fun j hj => ?_⟩
    rw [w.get j fun z => hj (List.mem_cons_of_mem _ z)]
    exact List.getElem?_set_ne fun z => hj (by rw [z]; exact List.mem_cons_self)
theorem g_put (K : PySem.W.Frag) {t : Tg} {C : Ctx} {F H : Hp} {σ : L2.St} {δ δ' : Dn} {d : PyData} {v : V} {Q : L2.St → Hp → Prop} (E : EnvOk C F H σ δ) (h : Dq F d v) (e : putTg t d δ = some δ')
    (k : ∀ σ', EnvOk C F H σ' δ' → Agree t.slots σ σ' → Q σ' H) : gOf K t v σ H Q := by
  cases t with
  | one i =>
    rw [putTg_one] at e
    split at e
    · rename_i hb
      cases e
      have hb' := Bool.and_eq_true_iff.mp (show (decide (δ.bk ≠ some i) && true) = true from hb)
      exact k _ (E.set (of_decide_eq_true hb'.1) h) ⟨by rw [List.length_set], fun j hj => List.getElem?_set_ne fun z => hj (by rw [z]; exact List.mem_cons_self)⟩
    · cases e
  | many is =>
    cases h with
    | tup p hp t =>
      rw [putTg_many] at e
      split at e
      · rename_i hb
        cases e
        exact ⟨p, _, rfl, st_of (E.sub _ _ hp), by rw [← t.length]; exact hb.1, gs_put is E hb.2 t hb.1 k⟩
      · cases e
    | _ => exact nomatch e

/-! ### statements as functions of the state -/
inductive Out where
  | nx (δ : Dn)
  | rt (d : PyData) (b : Bag)
  | bk (δ : Dn)
abbrev DS := Dn → Option Out
def Post (C : Ctx) (D : Ends) : Out → Prop
  | .nx δ => ∀ F' H' σ', EnvOk C F' H' σ' δ → D.nx σ' H'
  | .rt d b => ∀ F' H' σ' δ' v, EnvOk C F' H' σ' δ' → δ'.bag = b → Dq F' d v → D.rt v H'
  | .bk δ => ∀ F' H' σ', EnvOk C F' H' σ' δ → D.bk σ' H'
def liftS (ds : DS) : TS := fun D σ H => ∃ C F δ o, EnvOk C F H σ δ ∧ ds δ = some o ∧ Post C D o
section
variable {X : Cx}
def sNil : DS := fun δ => some (.nx δ)
def sSeq (a b : DS) : DS := fun δ => match a δ with
  | some (.nx δ') => b δ'
  | o => o
theorem liftS_nil {D : Ends} {σ : L2.St} {H : Hp} (h : liftS sNil D σ H) : tNext D σ H := by
  obtain ⟨C, F, δ, o, E, e, k⟩ := h
  cases e
  exact k F H σ E
theorem liftS_seq {a b : DS} {D : Ends} {σ : L2.St} {H : Hp} (h : liftS (sSeq a b) D σ H) : tSeq (liftS a) (liftS b) D σ H := by
  obtain ⟨C, F, δ, o, E, e, k⟩ := h
  unfold sSeq at e
  split at e
  · rename_i δ' e1
    exact ⟨C, F, δ, .nx δ', E, e1, fun F' H' σ' E' => ⟨C, F', δ', o, E', e, k⟩⟩
  · rename_i hn
    refine ⟨C, F, δ, o, E, e, ?_⟩
    cases o with
    | nx δ' => exact absurd e (hn δ')
    | rt d b => exact k
    | bk δ' => exact k
theorem s_nil : PSs X [] (liftS sNil) := pss_le pss_nil fun _ _ _ => liftS_nil
theorem s_cons {st : Stmt} {rest : List Stmt} {a b : DS} (ha : PS X st (liftS a)) (hb : PSs X rest (liftS b)) : PSs X (st :: rest) (liftS (sSeq a b)) := pss_le (pss_cons ha hb) fun _ _ _ => liftS_seq
theorem s_one {st : Stmt} {a : DS} (ha : PS X st (liftS a)) : PSs X [st] (liftS a) := pss_one ha
def sNever : DS := fun _ => none
theorem s_never {st : Stmt} : PS X st (liftS sNever) := ps_le ps_never fun _ _ _ ⟨_, _, _, _, _, e, _⟩ => nomatch e
def sIf (t : DT) (a b : DS) : DS := fun δ => match t δ with
  | some (true, g) => a (δ.wb g)
  | some (false, g) => b (δ.wb g)
  | none => none
theorem liftS_if {t : DT} {a b : DS} {D : Ends} {σ : L2.St} {H : Hp} (h : liftS (sIf t a b) D σ H) : tIfS (liftT t) (liftS a) (liftS b) D σ H := by
  obtain ⟨C, F, δ, o, E, e, k⟩ := h
  unfold sIf at e
  split at e
  · rename_i g e1
    exact ⟨C, F, δ, true, g, E, e1, fun F1 H1 E1 s1 => iteT ⟨C, F1, _, o, E1, e, k⟩⟩
  · rename_i g e1
    exact ⟨C, F, δ, false, g, E, e1, fun F1 H1 E1 s1 => iteF ⟨C, F1, _, o, E1, e, k⟩⟩
  · cases e
theorem s_if {c : Expr} {a b : List Stmt} {pos : Pos} {t : DT} {da db : DS} (hc : PT X c (liftT t)) (ha : PSs X a (liftS da)) (hb : PSs X b (liftS db)) : PS X (.If c a b pos) (liftS (sIf t da db)) := ps_le (ps_if hc ha hb) fun _ _ _ => liftS_if
def sRet (a : DE) : DS := fun δ => (a δ).map fun r => .rt r.1 r.2
theorem liftS_ret {a : DE} {D : Ends} {σ : L2.St} {H : Hp} (h : liftS (sRet a) D σ H) : tRet (lift a) D σ H := by
  obtain ⟨C, F, δ, o, E, e, k⟩ := h
  obtain ⟨⟨d, b⟩, e1, e⟩ := Option.map_eq_some_iff.mp e
  cases e
  exact ⟨C, F, δ, d, b, E, e1, fun F' H' v E' s' q => k F' H' σ _ v E' rfl q⟩
theorem s_ret {e : Expr} {pos : Pos} {a : DE} (h : PE X e (lift a)) : PS X (.Return (some e) pos) (liftS (sRet a)) := ps_le (ps_ret h) fun _ _ _ => liftS_ret
def sBreak : DS := fun δ => some (.bk δ)
theorem s_break {pos : Pos} : PS X (.Break pos) (liftS sBreak) := ps_le ps_break fun D σ H h => by
  obtain ⟨C, F, δ, o, E, e, k⟩ := h
  cases e
  exact k F H σ E
def sExpr (a : DE) : DS := fun δ => (a δ).map fun r => .nx (δ.wb r.2)
theorem liftS_expr {a : DE} {D : Ends} {σ : L2.St} {H : Hp} (h : liftS (sExpr a) D σ H) : tDrop (lift a) D σ H := by
  obtain ⟨C, F, δ, o, E, e, k⟩ := h
  obtain ⟨⟨d, b⟩, e1, e⟩ := Option.map_eq_some_iff.mp e
  cases e
  exact ⟨C, F, δ, d, b, E, e1, fun F' H' v E' s' q => k F' H' σ E'⟩
theorem s_expr {e : Expr} {pos : Pos} {a : DE} (h : PE X e (lift a)) (hs : swapsWith e none pos.line X.env = pure false := by rfl) : PS X (.Expr e pos) (liftS (sExpr a)) := ps_le (ps_expr h hs) fun _ _ _ => liftS_expr
def sAsg (t : Tg) (a : DE) : DS := fun δ => match a δ with
  | some (d, b) => (putTg t d (δ.wb b)).map .nx
  | none => none
theorem liftS_asg (K : PySem.W.Frag) {t : Tg} {a : DE} {D : Ends} {σ : L2.St} {H : Hp} (h : liftS (sAsg t a) D σ H) : tAsg (lift a) (gOf K t) D σ H := by
  obtain ⟨C, F, δ, o, E, e, k⟩ := h
  unfold sAsg at e
  split at e
  · rename_i d b e1
    obtain ⟨δ', e2, e⟩ := Option.map_eq_some_iff.mp e
    cases e
    exact ⟨C, F, δ, d, b, E, e1, fun F' H' v E' s' q => g_put K E' q e2 fun σ' E2 _ => k F' H' σ' E2⟩
  · cases e
theorem s_asg {tg e : Expr} {pos : Pos} {t : Tg} {a : DE} (h : PE X e (lift a)) (hg : PG X tg (gOf X.K t)) (hs : swapsWithSole [tg] e pos.line X.env = pure false := by rfl) (hw : swappedStores [tg] e X.env = pure none := by rfl)
    (h1 : (assignEach [tg] X.env).map (·.2) = [assign tg X.env] := by rfl) : PS X (.Assign [tg] e pos) (liftS (sAsg t a)) := ps_le (ps_asg h hg hs hw h1) fun _ _ _ => liftS_asg X.K
theorem s_set {x : Str} {e : Expr} {i : Nat} {pos pos' : Pos} {a : DE} (hN : X.N.Nodup) (hi : X.N[i]? = some x) (hx : L2.Loc X.env.scope x) (h : PE X e (lift a)) (hs : swapsWith e (some (.Name x pos')) pos.line X.env = pure false := by rfl)
    (hf : X.fn x = true ∨ X.env.scope.names.lookup x = some .local := by first | exact .inl rfl | exact .inr rfl | assumption) : PS X (.Assign [.Name x pos'] e pos) (liftS (sAsg (.one i) a)) := ps_le (ps_set hN hi hx h hs hf) fun _ _ _ => liftS_asg (t := .one i) X.K

/-! ### what a loop walks -/
structure YieldsD (J : It) (F : Hp) (ds : List PyData) : Prop where
  go : ∀ i H, i < ds.length → Same F H → J.go i H
  stop : ∀ H, Same F H → J.stop ds.length H
  yld : ∀ (i : Nat) (H H' : Hp) (x : V) (C : Ctx) (F1 : Hp) (σ : L2.St) (δ : Dn), EnvOk C F1 H σ δ → Same F F1 → J.yld i H x H' → i < ds.length → ∃ F2 d, EnvOk C F2 H' σ δ ∧ Same F1 F2 ∧ ds[i]? = some d ∧ Dq F2 d x
def liftI (di : DA) : TI := fun σ H R => ∃ C F δ ds b, EnvOk C F H σ δ ∧ di δ = some (ds, b) ∧ ∀ F' H' J, EnvOk C F' H' σ (δ.wb b) → Same F F' → YieldsD J F' ds → R J H'
def iL (a : DE) : DA := bd a fun d => fun δ => match d with
  | .list ds => some (ds, δ.bag)
  | _ => none
def iT (a : DE) : DA := bd a fun d => fun δ => match d with
  | .tuple ds => some (ds, δ.bag)
  | _ => none
theorem yields_list {K : PySem.W.Frag} {F : Hp} {p : Addr} {xs : List V} {ds : List PyData} (h : F p = some (.lst xs)) (q : DqL F ds xs) : YieldsD (Itl K p) F ds where
  go := fun i H hi s => ⟨xs, xs[i]'(by rw [← q.length]; exact hi), sl_of (s _ _ h), by simp⟩
  stop := fun H s => ⟨xs, sl_of (s _ _ h), by rw [q.length]; exact Nat.le_refl _⟩
  yld := fun i H H' x C F1 σ δ E s y hi => by
    obtain ⟨rfl, y⟩ := y
    have e := y xs (sl_of (E.sub _ _ (s _ _ h)))
    obtain ⟨d, e1, e2⟩ := q.back e
    exact ⟨F1, d, E, Same.refl _, e1, e2.mono s⟩
theorem yields_tup {K : PySem.W.Frag} {F : Hp} {p : Addr} {xs : List V} {ds : List PyData} (h : F p = some (.tup xs)) (q : DqL F ds xs) : YieldsD (Itt K p) F ds where
  go := fun i H hi s => ⟨xs, xs[i]'(by rw [← q.length]; exact hi), st_of (s _ _ h), by simp⟩
  stop := fun H s => ⟨xs, st_of (s _ _ h), by rw [q.length]; exact Nat.le_refl _⟩
  yld := fun i H H' x C F1 σ δ E s y hi => by
    obtain ⟨rfl, y⟩ := y
    have e := y xs (st_of (E.sub _ _ (s _ _ h)))
    obtain ⟨d, e1, e2⟩ := q.back e
    exact ⟨F1, d, E, Same.refl _, e1, e2.mono s⟩
theorem liftI_list (K : PySem.W.Frag) {a : DE} {σ : L2.St} {H : Hp} {R : It → Hp → Prop} (h : liftI (iL a) σ H R) : iList K (lift a) σ H R := by
  obtain ⟨C, F, δ, ds, b', E, e, k⟩ := h
  obtain ⟨d, b1, e1, e⟩ := bd_some e
  split at e <;> cases e
  refine ⟨C, F, δ, _, b1, E, e1, fun F1 H1 v1 E1 s1 q1 => ?_⟩
  cases q1 with
  | lst p hp t => exact ⟨p, rfl, ⟨_, sl_of (E1.sub _ _ hp)⟩, k _ _ _ E1 s1 (yields_list hp t)⟩
theorem liftI_tup (K : PySem.W.Frag) {a : DE} {σ : L2.St} {H : Hp} {R : It → Hp → Prop} (h : liftI (iT a) σ H R) : iTup K (lift a) σ H R := by
  obtain ⟨C, F, δ, ds, b', E, e, k⟩ := h
  obtain ⟨d, b1, e1, e⟩ := bd_some e
  split at e <;> cases e
  refine ⟨C, F, δ, _, b1, E, e1, fun F1 H1 v1 E1 s1 q1 => ?_⟩
  cases q1 with
  | tup p hp t => exact ⟨p, rfl, ⟨_, st_of (E1.sub _ _ hp)⟩, k _ _ _ E1 s1 (yields_tup hp t)⟩
theorem i_list {tg e : Expr} {a : DE} (h : PE X e (lift a)) : PI X tg e (liftI (iL a)) := pi_le (pi_list h) fun _ _ _ => liftI_list X.K
theorem i_tup {tg e : Expr} {a : DE} (h : PE X e (lift a)) : PI X tg e (liftI (iT a)) := pi_le (pi_tup h) fun _ _ _ => liftI_tup X.K
def rangeD (n : Nat) : List PyData := (List.range n).map fun i => .int (i : Nat)
def iR (a : DE) : DA := bd a fun d => fun δ => match d with
  | .int j => if -(2 ^ 62) ≤ j ∧ j < 2 ^ 62 then some (rangeD j.toNat, δ.bag) else none
  | _ => none
theorem yields_range {F : Hp} {n : Nat} : YieldsD (Itr 0 n) F (rangeD n) where
  go := fun i H hi s => show i < n by simpa [rangeD] using hi
  stop := fun H s => by simp [rangeD, Itr]
  yld := fun i H H' x C F1 σ δ E s y hi => by
    obtain ⟨rfl, rfl⟩ := y
    have hi' : i < n := by simpa [rangeD] using hi
    exact ⟨F1, .int (i : Nat), E, Same.refl _, by simp [rangeD, hi'], by rw [Int.zero_add]; exact .int _⟩
theorem liftI_range {a : DE} {σ : L2.St} {H : Hp} {R : It → Hp → Prop} (h : liftI (iR a) σ H R) : iRng1 (tCons (lift a) (liftA aNil)) σ H R := by
  obtain ⟨C, F, δ, ds, b', E, e, k⟩ := h
  obtain ⟨d, b1, e1, e⟩ := bd_some e
  split at e
  · rename_i j
    split at e <;> cases e
    rename_i hj
    refine ⟨C, F, δ, _, b1, E, e1, fun F1 H1 v1 E1 s1 q1 => ⟨C, F1, _, [], b1, E1, rfl, fun F2 H2 vs E2 s2 q2 => ?_⟩⟩
    cases q2
    cases q1
    exact ⟨j, rfl, hj.1, hj.2, k _ _ _ E2 (s1.trans s2) yields_range⟩
  · cases e
theorem i_range {tg e : Expr} {p pos : Pos} {a : DE} (hg : Gl X "range") (hm : X.mg "range" = none) (h : PE X e (lift a)) (hs : starEach [e] X.env = [(false, eval e X.env)] := by rfl) : PI X tg (.Call (.Name "range" p) [e] [] pos) (liftI (iR a)) :=
  pi_le (pi_range1 hg hm (pa_cons h a_nil hs) hs) fun _ _ _ => liftI_range
def enumD : Nat → List PyData → List PyData
  | _, [] => []
  | n, d :: ds => .tuple [.int n, d] :: enumD (n + 1) ds
theorem enumD_length : ∀ (n : Nat) (ds : List PyData), (enumD n ds).length = ds.length
  | _, [] => rfl
  | n, d :: ds => congrArg (· + 1) (enumD_length (n + 1) ds)
theorem enumD_get : ∀ (n : Nat) (ds : List PyData) (i : Nat), (enumD n ds)[i]? = (ds[i]?).map fun d => .tuple [.int (n + i : Nat), d]
  | n, [], i => by simp [enumD]
  | n, d :: ds, 0 => by simp [enumD]
  | n, d :: ds, i + 1 => by
    have := enumD_get (n + 1) ds i
    simp only [enumD, List.getElem?_cons_succ, this]
    congr 1
    funext d
    rw [show n + 1 + i = n + (i + 1) by omega]
theorem yields_enum {K : PySem.W.Frag} {F : Hp} {p : Addr} {xs : List V} {ds : List PyData} (h : F p = some (.lst xs)) (q : DqL F ds xs) : YieldsD (Ite K p) F (enumD 0 ds) where
  go := fun i H hi s => ⟨xs, xs[i]'(by rw [← q.length, ← enumD_length 0]; exact hi), sl_of (s _ _ h), by simp⟩
  stop := fun H s => ⟨xs, sl_of (s _ _ h), by rw [enumD_length, q.length]; exact Nat.le_refl _⟩
  yld := fun i H H' x C F1 σ δ E s y hi => by
    obtain ⟨T, y1, rfl, hT, rfl, y⟩ := y
    have e := y xs (sl_of (E.sub _ _ (s _ _ h)))
    obtain ⟨d, e1, e2⟩ := q.back e
    obtain ⟨E2, s2⟩ := E.new (.tup [.int (i : Nat), y1]) hT
    refine ⟨_, .tuple [.int (i : Nat), d], E2, s2, by rw [enumD_get, e1]; simp, .tup T upd_same (.cons (.int _) (.cons ((e2.mono s).mono s2) .nil))⟩
def iEL (a : DE) : DA := bd a fun d => fun δ => match d with
  | .list ds => some (enumD 0 ds, δ.bag)
  | _ => none
theorem liftI_enum (K : PySem.W.Frag) {a : DE} {σ : L2.St} {H : Hp} {R : It → Hp → Prop} (h : liftI (iEL a) σ H R) : iEnum K (tCons (lift a) (liftA aNil)) σ H R := by
  obtain ⟨C, F, δ, ds, b', E, e, k⟩ := h
  obtain ⟨d, b1, e1, e⟩ := bd_some e
  split at e <;> cases e
  refine ⟨C, F, δ, _, b1, E, e1, fun F1 H1 v1 E1 s1 q1 => ⟨C, F1, _, [], b1, E1, rfl, fun F2 H2 vs E2 s2 q2 => ?_⟩⟩
  cases q2
  cases q1 with
  | lst p hp t => exact ⟨p, _, rfl, sl_of (E2.sub _ _ (s2 _ _ hp)), k _ _ _ E2 (s1.trans s2) (yields_enum (s2 _ _ hp) (t.mono s2))⟩
theorem i_enum {e : Expr} {p pos tpos : Pos} {elts : List Expr} {kk : Nat} {a : DE} (hg : Gl X "enumerate") (hm : X.mg "enumerate" = none) (h : PE X e (lift a)) (hs : starEach [e] X.env = [(false, eval e X.env)] := by rfl) :
    PI X (.Tuple elts kk tpos) (.Call (.Name "enumerate" p) [e] [] pos) (liftI (iEL a)) := pi_le (pi_enum hg hm (pa_cons h a_nil hs) hs) fun _ _ _ => liftI_enum X.K

/-! ### for -/
def loopD (t : Tg) (body : DS) : List PyData → Dn → Option Out
  | [], δ => some (.nx δ)
  | d :: ds, δ => match putTg t d δ with
    | none => none
    | some δ1 => match body δ1 with
      | some (.nx δ2) => loopD t body ds δ2
      | some (.bk δ2) => some (.nx δ2)
      | some (.rt r b) => some (.rt r b)
      | none => none
def sFor (di : DA) (t : Tg) (body : DS) : DS := fun δ => match di δ with
  | some (ds, b) => loopD t body ds (δ.wb b)
  | none => none
theorem liftS_for (K : PySem.W.Frag) {di : DA} {t : Tg} {body : DS} {D : Ends} {σ : L2.St} {H : Hp} (h : liftS (sFor di t body) D σ H) : tFor (liftI di) (gOf K t) (liftS body) D σ H := by
  obtain ⟨C, F, δ, o, E, e, k⟩ := h
  unfold sFor at e
  split at e
  · rename_i ds b e1
    refine ⟨C, F, δ, ds, b, E, e1, fun F1 H1 J E1 s1 Y => ?_⟩
    refine ⟨fun i m σ' H' => m = ds.length - i ∧ i ≤ ds.length ∧ ∃ F' δ', EnvOk (C.here F1 H1 σ (δ.wb b)) F' H' σ' δ' ∧ loopD t body (ds.drop i) δ' = some o, ⟨_, rfl, Nat.zero_le _, F1, _, E1.here, by simpa using e⟩, ?_⟩
    rintro i m σ' H' ⟨rfl, hi, F', δ', E', e'⟩
    by_cases hlt : i < ds.length
    · refine .inr ⟨Y.go i H' hlt (E'.sF.trans E'.sub), fun σ2 H2 => ∃ F2 δ2, EnvOk (C.here F1 H1 σ (δ.wb b)) F2 H2 σ2 δ2 ∧ loopD t body (ds.drop (i + 1)) δ2 = some o, fun σ2 H2 q => ⟨_, by omega, rfl, hlt, q⟩, fun x H2 y => ?_⟩
      obtain ⟨F2, d, E2, s2, ed, qd⟩ := Y.yld i H' H2 x _ F' σ' δ' E' E'.sF y hlt
      rw [List.drop_eq_getElem_cons hlt] at e'
      have ed' : ds[i] = d := by
        rw [List.getElem?_eq_getElem hlt] at ed
        exact Option.some.inj ed
      rw [ed'] at e'
      unfold loopD at e'
      split at e'
      · cases e'
      · rename_i δ1 e2
        refine g_put K E2 qd e2 fun σ3 E3 _ => ?_
        split at e'
        · rename_i δ2 e3
          exact ⟨_, F2, δ1, .nx δ2, E3, e3, fun F4 H4 σ4 E4 => ⟨F4, δ2, E4, e'⟩⟩
        · rename_i δ2 e3
          cases e'
          exact ⟨_, F2, δ1, .bk δ2, E3, e3, fun F4 H4 σ4 E4 => k F4 H4 σ4 (E1.back E4)⟩
        · rename_i r b2 e3
          cases e'
          exact ⟨_, F2, δ1, .rt r b2, E3, e3, fun F4 H4 σ4 δ4 v E4 eb q => k F4 H4 σ4 δ4 v (E1.back E4) eb q⟩
        · cases e'
    · have ei : i = ds.length := by omega
      subst ei
      rw [List.drop_length] at e'
      cases e'
      exact .inl ⟨Y.stop H' (E'.sF.trans E'.sub), k F' H' σ' (E1.back E')⟩
  · cases e
theorem s_for {tg iter : Expr} {body : List Stmt} {pos : Pos} {di : DA} {t : Tg} {db : DS} (hp : PassesOwn (model X.prog X.w) X.A X.env X.xe) (hc : X.calm = true) (hi : PI X tg iter (liftI di)) (hg : PG X tg (gOf X.K t)) (hb : PSs X body (liftS db))
    (hs : ∀ x, foldedSetIterable iter X.env x = pure x := by intro _; rfl) : PS X (.For tg iter body [] pos) (liftS (sFor di t db)) := ps_le (ps_for hp hc hi hg hb hs) fun _ _ _ => liftS_for X.K
end
end K71

set_option Elab.async false
set_option linter.all false
set_option maxRecDepth 100000
set_option maxHeartbeats 2000000
namespace K71
open PySem L2

section
variable {C : Ctx} {F F' H H' : Hp} {σ σ' : L2.St} {δ δ' : Dn}
/-- behind a block: the slots are as they were -/
theorem EnvOk.restore (E : EnvOk C F H σ δ) (E' : EnvOk (C.here F H σ δ) F' H' σ' δ') (ho : ∀ (i : Nat) (e : En), δ.sl[i]? = some (some e) → isOwn e = true → δ'.sl[i]? = some (some e) ∧ σ'[i]? = σ[i]?) : EnvOk C F' H' σ (δ.wb δ'.bag) := by
  have B := E.back E'
  refine ⟨B.sub, B.sF, B.sH, B.nw, E.len, fun i e h => ?_, E.sep, E.mine, E.bk, fun k b h => ?_⟩
  · cases e with
    | dat d => obtain ⟨v, h1, h2⟩ := E.at_ i _ h; exact ⟨v, h1, h2.mono E'.sF⟩
    | own ds =>
      obtain ⟨h1, h2⟩ := ho i _ h rfl
      have q := E'.at_ i _ h1
      rw [h2] at q
      exact q
    | okd ks =>
      obtain ⟨h1, h2⟩ := ho i _ h rfl
      have q := E'.at_ i _ h1
      rw [h2] at q
      exact q
    | okn ks =>
      obtain ⟨h1, h2⟩ := ho i _ h rfl
      have q := E'.at_ i _ h1
      rw [h2] at q
      exact q
  · obtain ⟨h1, h2, h3, h4, h5⟩ := E.bg k b h
    obtain ⟨g1, g2, g3, g4, g5⟩ := B.bg k b h
    exact ⟨h1, h2, g3, g4, h5⟩
/-- D is no slot's own -/
def Apart (C : Ctx) (σ : L2.St) (δ : Dn) (D : Addr) : Prop := (∀ (i : Nat) (e : En), δ.sl[i]? = some (some e) → isOwn e = true → σ[i]? ≠ some (some (V.ref D))) ∧ ∀ k, C.bag ≠ some (k, D)
theorem Apart.notM {D : Addr} (a : Apart C σ δ D) : ¬ (C.here F H σ δ).M D := fun z => by
  rcases z with ⟨i, e, h1, h2, h3⟩ | ⟨k, h⟩
  · exact a.1 i e h1 h2 h3
  · exact a.2 k h
theorem EnvOk.apart (E : EnvOk C F H σ δ) {D : Addr} (h : H D = none) : Apart C σ δ D := by
  refine ⟨fun i e h1 h2 h3 => ?_, fun k q => ?_⟩
  · have q := E.at_ i e h1
    cases e with
    | dat d => cases h2
    | own ds => obtain ⟨p, xs, g1, g2, _⟩ := q; rw [g1] at h3; cases h3; rw [h] at g2; cases g2
    | okd ks => obtain ⟨p, g1, g2, _⟩ := q; rw [g1] at h3; cases h3; rw [h] at g2; cases g2
    | okn ks => obtain ⟨p, xs, g1, g2, _⟩ := q; rw [g1] at h3; cases h3; rw [h] at g2; cases g2
  · have z := (E.bg k D q).2.2.1
    rw [h] at z
    cases z
theorem EnvOk.fresh0 (E : EnvOk C F H σ δ) {D : Addr} (h : H D = none) : C.M D ∨ C.H0 D = none := by
  by_cases m : C.M D
  · exact .inl m
  · refine .inr ?_
    cases q : C.H0 D with
    | none => rfl
    | some o => have z := E.sH D o m q; rw [h] at z; cases z
/-- an object that is nobody's slot changes -/
theorem EnvOk.poke (E : EnvOk C F H σ δ) {D : Addr} (o : HO) (hf : F D = none) (a : Apart C σ δ D) (h0 : C.M D ∨ C.H0 D = none) : EnvOk C F (upd H D o) σ δ where
  sub := fun b u q => by rw [upd_ne (ne_of_none q hf)]; exact E.sub _ _ q
  sF := E.sF
  sH := fun c u m q => by
    have n : c ≠ D := fun z => by
      subst z
      rcases h0 with z | z
      · exact m z
      · rw [z] at q; cases q
    rw [upd_ne n]
    exact E.sH c u m q
  nw := E.nw
  len := E.len
  at_ := fun i e h => by
    have q := E.at_ i e h
    cases e with
    | dat d => exact q
    | own ds =>
      obtain ⟨p, xs, h1, h2, h3, h4⟩ := q
      have n : p ≠ D := fun z => by subst z; exact a.1 i _ h rfl h1
      exact ⟨p, xs, h1, by rw [upd_ne n]; exact h2, h3, h4⟩
    | okd ks =>
      obtain ⟨p, h1, h2, h3⟩ := q
      have n : p ≠ D := fun z => by subst z; exact a.1 i _ h rfl h1
      exact ⟨p, h1, by rw [upd_ne n]; exact h2, h3⟩
    | okn ks =>
      obtain ⟨p, xs, h1, h2, h3, h4⟩ := q
      have n : p ≠ D := fun z => by subst z; exact a.1 i _ h rfl h1
      exact ⟨p, xs, h1, by rw [upd_ne n]; exact h2, h3, h4⟩
  sep := E.sep
  mine := E.mine
  bk := E.bk
  bg := fun k b h => by
    obtain ⟨h1, h2, h3, h4, h5⟩ := E.bg k b h
    have n : b ≠ D := fun z => by subst z; exact a.2 k h
    exact ⟨h1, h2, by rw [upd_ne n]; exact h3, h4, h5⟩
/-- an object that is nobody's slot is frozen -/
theorem EnvOk.freeze (E : EnvOk C F H σ δ) {D : Addr} {o : HO} (hd : H D = some o) (hf : F D = none) (a : Apart C σ δ D) (h0 : C.M D ∨ C.H0 D = none) : EnvOk C (upd F D o) H σ δ ∧ Same F (upd F D o) := by
  have s : Same F (upd F D o) := fun b u q => by rw [upd_ne (ne_of_none q hf)]; exact q
  refine ⟨⟨fun b u q => ?_, E.sF.trans s, E.sH, fun c u m q nt hc => ?_, E.len, fun i e h => ?_, E.sep, E.mine, E.bk, fun k b h => ?_⟩, s⟩
  · by_cases e : b = D
    · subst e; rw [upd_same] at q; rw [hd]; exact q
    · rw [upd_ne e] at q; exact E.sub _ _ q
  · have n : c ≠ D := fun z => by
      subst z
      rcases h0 with z | z
      · exact m z
      · rw [z] at q; cases q
    rw [upd_ne n]
    exact E.nw c u m q nt hc
  · have q := E.at_ i e h
    cases e with
    | dat d => obtain ⟨v, h1, h2⟩ := q; exact ⟨v, h1, h2.mono s⟩
    | own ds =>
      obtain ⟨p, xs, h1, h2, h3, h4⟩ := q
      have n : p ≠ D := fun z => by subst z; exact a.1 i _ h rfl h1
      exact ⟨p, xs, h1, h2, by rw [upd_ne n]; exact h3, h4.mono s⟩
    | okd ks =>
      obtain ⟨p, h1, h2, h3⟩ := q
      have n : p ≠ D := fun z => by subst z; exact a.1 i _ h rfl h1
      exact ⟨p, h1, h2, by rw [upd_ne n]; exact h3⟩
    | okn ks =>
      obtain ⟨p, xs, h1, h2, h3, h4, h5, h6, h7⟩ := q
      have n : p ≠ D := fun z => by subst z; exact a.1 i _ h rfl h1
      exact ⟨p, xs, h1, h2, by rw [upd_ne n]; exact h3, h4, h5, h6, fun x hx => (h7 x hx).mono s⟩
  · obtain ⟨h1, h2, h3, h4, h5⟩ := E.bg k b h
    have n : b ≠ D := fun z => by subst z; exact a.2 k h
    exact ⟨h1, h2, h3, by rw [upd_ne n]; exact h4, h5⟩
end
theorem wipeD_get (sl : List (Option En)) (j : Nat) : ∀ vs : List Nat, (wipeD sl vs)[j]? = if j ∈ vs then (sl[j]?).map (fun _ => none) else sl[j]?
  | [] => by simp [wipeD]
  | v :: vs => by
    have ih := wipeD_get sl j vs
    have hlen : ∀ ws : List Nat, (wipeD sl ws).length = sl.length := fun ws => by
      induction ws with
      | nil => rfl
      | cons w ws ihw => unfold wipeD; rw [List.length_set, ihw]
    unfold wipeD
    by_cases e : v = j
    · subst e
      rw [if_pos List.mem_cons_self]
      by_cases hl : v < sl.length
      · rw [List.getElem?_set_self (by rw [hlen]; exact hl), List.getElem?_eq_getElem hl]
        rfl
      · rw [List.getElem?_eq_none (by simp [hlen]; omega), List.getElem?_eq_none (by omega)]
        rfl
    · rw [List.getElem?_set_ne e, ih]
      by_cases h : j ∈ vs
      · rw [if_pos h, if_pos (List.mem_cons_of_mem _ h)]
      · rw [if_neg h, if_neg]
        intro z
        rcases List.mem_cons.mp z with z | z
        · exact e z.symm
        · exact h z
theorem wipeD_own {sl : List (Option En)} {j : Nat} {vs : List Nat} {e : En} (h : (wipeD sl vs)[j]? = some (some e)) : j ∉ vs ∧ sl[j]? = some (some e) := by
  rw [wipeD_get] at h
  by_cases q : j ∈ vs
  · rw [if_pos q] at h
    cases z : sl[j]? <;> rw [z] at h <;> cases h
  · rw [if_neg q] at h
    exact ⟨q, h⟩

/-! ### comprehensions -/
/-- with an if or without -/
def lcD (t : Tg) (tt : DT) (te : DE) : List PyData → Dn → Option (List PyData × Bag)
  | [], δ => some ([], δ.bag)
  | d :: ds, δ => match putTg t d δ with
    | none => none
    | some δ1 => match tt δ1 with
      | none => none
      | some (false, b) => lcD t tt te ds (δ.wb b)
      | some (true, b) => match te (δ1.wb b) with
        | none => none
        | some (e, b2) => match lcD t tt te ds (δ.wb b2) with
          | none => none
          | some (es, b3) => some (e :: es, b3)
def tTrue : DT := fun δ => some (true, δ.bag)
/-- none of these slots is a list or a dict of one's own, or the bag's -/
def free (vs : List Nat) (δ : Dn) : Bool := offBag vs δ.bk && vs.all fun i => match δ.sl[i]? with
  | some (some e) => !isOwn e
  | _ => true
def within (is vs : List Nat) : Bool := is.all fun i => decide (i ∈ vs)
def dLc (di : DA) (t : Tg) (tt : DT) (te : DE) (vs : List Nat) : DE := fun δ => match di δ with
  | none => none
  | some (ds, b) => if ds.length ≤ sizeLine ∧ free vs δ = true ∧ within t.slots vs = true then
      match lcD t tt te ds { sl := wipeD δ.sl vs, bag := b, bk := δ.bk } with
      | none => none
      | some (es, b') => some (.list es, b')
    else none
theorem free_off {vs : List Nat} {δ : Dn} (h : free vs δ = true) : ∀ i ∈ vs, δ.bk ≠ some i := fun i hi => of_decide_eq_true (List.all_eq_true.mp (Bool.and_eq_true_iff.mp h).1 i hi)
theorem free_own {vs : List Nat} {δ : Dn} (h : free vs δ = true) {i : Nat} {e : En} (h1 : δ.sl[i]? = some (some e)) (h2 : isOwn e = true) : i ∉ vs := fun hi => by
  have q := List.all_eq_true.mp (Bool.and_eq_true_iff.mp h).2 i hi
  rw [h1] at q
  rw [show (match (some (some e) : Option (Option En)) with | some (some e) => !isOwn e | _ => true) = !isOwn e from rfl, h2] at q
  cases q
theorem within_mem {is vs : List Nat} (h : within is vs = true) : ∀ i ∈ is, i ∈ vs := fun i hi => of_decide_eq_true (List.all_eq_true.mp h i hi)
theorem lift_lc (K : PySem.W.Frag) {di : DA} {t : Tg} {tt : DT} {te : DE} {vs : List Nat} {σ : L2.St} {H : Hp} {Q : VK} (h : lift (dLc di t tt te vs) σ H Q) : tLc (liftI di) (gOf K t) (liftT tt) (lift te) vs σ H Q := by
  obtain ⟨C, F, δ, d, b', E, e, k⟩ := h
  unfold dLc at e
  split at e
  · cases e
  rename_i ds b e1
  split at e
  case isFalse => cases e
  rename_i hc
  obtain ⟨hlen, hfree, hwi⟩ := hc
  split at e
  · cases e
  rename_i es bE e2
  obtain ⟨rfl, rfl⟩ : PyData.list es = d ∧ bE = b' := ⟨(Prod.mk.inj (Option.some.inj e)).1, (Prod.mk.inj (Option.some.inj e)).2⟩
  clear e
  refine ⟨C, F, δ, ds, b, E, e1, fun F1 H1 J E1 s1 Y => fun D hD => ?_⟩
  have hoff := free_off hfree
  have hwm := within_mem hwi
  generalize hδw : ({ sl := wipeD δ.sl vs, bag := b, bk := δ.bk } : Dn) = δw at e2
  have EC := E1.here
  have Ew : EnvOk (C.here F1 H1 σ (δ.wb b)) F1 H1 (wipe σ vs) δw := by
    rw [← hδw]
    exact EnvOk.wipe vs EC hoff
  have ow : ∀ {i : Nat} {e : En}, δw.sl[i]? = some (some e) → i ∉ vs ∧ δ.sl[i]? = some (some e) := fun {i e} q => by
    rw [← hδw] at q
    exact wipeD_own q
  have aw : ∀ bi, Apart (C.here F1 H1 σ (δ.wb b)) (wipe σ vs) (δw.wb bi) D := fun bi => ⟨(Ew.apart hD).1, (Ew.apart hD).2⟩
  have c0 : (C.here F1 H1 σ (δ.wb b)).M D ∨ (C.here F1 H1 σ (δ.wb b)).H0 D = none := .inr hD
  have hF1 : F1 D = none := E1.sub.free hD
  refine ⟨fun i m H' => m = ds.length - i ∧ i ≤ ds.length ∧ ∃ F' bi acc done rest, EnvOk (C.here F1 H1 σ (δ.wb b)) F' H' (wipe σ vs) (δw.wb bi) ∧ H' D = some (.lst acc) ∧ F' D = none ∧ DqL F' done acc ∧ acc.length ≤ i ∧
    lcD t tt te (ds.drop i) (δw.wb bi) = some (rest, bE) ∧ es = done ++ rest, ⟨_, rfl, Nat.zero_le _, F1, b, [], [], es, ?_, upd_same, hF1, .nil, Nat.le_refl _, ?_, rfl⟩, ?_⟩
  · have := Ew.newH (.lst []) hD
    rw [← hδw] at this ⊢
    exact this
  · rw [← hδw] at e2 ⊢
    simpa using e2
  rintro i m H' ⟨rfl, hi, F', bi, acc, done, rest, E', hacc, hF', qacc, hal, el, ees⟩
  by_cases hlt : i < ds.length
  · have Eh := E'.here
    have aD := aw bi
    have nM : ¬ ((C.here F1 H1 σ (δ.wb b)).here F' H' (wipe σ vs) (δw.wb bi)).M D := aD.notM
    refine .inr ⟨Y.go i H' hlt (E'.sF.trans E'.sub), fun H2 => ∃ F2 bi acc done rest, EnvOk (C.here F1 H1 σ (δ.wb b)) F2 H2 (wipe σ vs) (δw.wb bi) ∧ H2 D = some (.lst acc) ∧ F2 D = none ∧ DqL F2 done acc ∧ acc.length ≤ i + 1 ∧
      lcD t tt te (ds.drop (i + 1)) (δw.wb bi) = some (rest, bE) ∧ es = done ++ rest, fun H2 q => ⟨_, by omega, rfl, hlt, q⟩, fun x H2 y => ?_⟩
    obtain ⟨F2, d, E2, s2, ed, qd⟩ := Y.yld i H' H2 x _ F' (wipe σ vs) (δw.wb bi) Eh E'.sF y hlt
    rw [List.drop_eq_getElem_cons hlt] at el
    have ed' : ds[i] = d := by
      rw [List.getElem?_eq_getElem hlt] at ed
      exact Option.some.inj ed
    rw [ed'] at el
    unfold lcD at el
    split at el
    · cases el
    rename_i δ1 ep
    refine g_put K E2 qd ep fun σ3 E3 ag => ⟨?_, ?_⟩
    · rw [ag.wipe hwm]
      apply List.ext_getElem?
      intro j
      rw [wipe_get, wipe_get]
      by_cases z : j ∈ vs
      · rw [if_pos z, if_pos z, Option.map_map]
        rfl
      · rw [if_neg z, if_neg z]
    have own3 : ∀ (i : Nat) (e : En), (δw.wb bi).sl[i]? = some (some e) → isOwn e = true → δ1.sl[i]? = some (some e) ∧ σ3[i]? = (wipe σ vs)[i]? := fun j e q1 q2 => by
      have nj : j ∉ t.slots := fun z => (ow q1).1 (hwm j z)
      exact ⟨by rw [putTg_get ep nj]; exact q1, ag.get j nj⟩
    split at el
    · cases el
    · rename_i b4 et
      refine ⟨_, F2, δ1, false, b4, E3, et, fun F4 H4 E4 s4 => iteF ?_⟩
      have R := E'.restore E4 own3
      refine ⟨F4, b4, acc, done, rest, R, E4.sH D _ nM hacc, E4.nw D _ nM hacc (fun _ z => nomatch z) hF', qacc.mono E4.sF, Nat.le_succ_of_le hal, el, ees⟩
    · rename_i b4 et
      refine ⟨_, F2, δ1, true, b4, E3, et, fun F4 H4 E4 s4 => iteT ?_⟩
      split at el
      · cases el
      rename_i eo b5 ee
      split at el
      · cases el
      rename_i es6 b6 e6
      cases el
      refine ⟨_, F4, δ1.wb b4, eo, b5, E4, ee, fun F5 H5 v5 E5 s5 q5 => ?_⟩
      have R := E'.restore E5 own3
      have h5 := E5.sH D _ nM hacc
      have f5 := E5.nw D _ nM hacc (fun _ z => nomatch z) hF'
      refine ⟨acc, h5, by omega, F5, b5, acc ++ [v5], done ++ [eo], es6, R.poke _ f5 (aw b5) c0, upd_same, f5, (qacc.mono E5.sF).append (.cons q5 .nil), by simp; omega, e6, by rw [ees]; simp⟩
  · have ei : i = ds.length := by omega
    subst ei
    rw [List.drop_length] at el
    obtain ⟨hr, hb⟩ : ([] : List PyData) = rest ∧ bi = bE := ⟨(Prod.mk.inj (Option.some.inj el)).1, (Prod.mk.inj (Option.some.inj el)).2⟩
    subst hr hb
    refine .inl ⟨Y.stop H' (E'.sF.trans E'.sub), ?_⟩
    have R : EnvOk C F' H' σ (δ.wb bi) := E1.restore E' fun j e q1 q2 => by
      have nj := free_own hfree (i := j) q1 q2
      refine ⟨?_, by rw [wipe_get, if_neg nj]⟩
      show δw.sl[j]? = _
      rw [← hδw]
      show (wipeD δ.sl vs)[j]? = _
      rw [wipeD_get, if_neg nj]
      exact q1
    have aD : Apart C σ (δ.wb bi) D := ⟨(E1.apart hD).1, (E1.apart hD).2⟩
    obtain ⟨R2, s2⟩ := R.freeze hacc hF' aD (E1.fresh0 hD)
    rw [List.append_nil] at ees
    subst ees
    exact k _ H' _ R2 ((s1.trans E'.sF).trans s2) (.lst D upd_same (qacc.mono s2))
section
variable {X : Cx}
theorem ts_nil : PTs X [] (liftT tTrue) := ⟨fun pins s σ H Q I h => by
  obtain ⟨C, F, δ, d, b', E, e, k⟩ := h
  cases e
  exact pts_nil.run pins s σ H Q I (k F H E (Same.refl F))⟩
theorem ts_one {c : Expr} {t : DT} (h : PT X c (liftT t)) : PTs X [c] (liftT t) := pts_one h
theorem q_lc {elt tg iter : Expr} {ifs : List Expr} {scope : Scope} {own : List (Str × Nat)} {pos : Pos} {di : DA} {t : Tg} {tt : DT} {te : DE} (hc : X.calm = true) (hN : X.N.Nodup) (hi : PI X tg iter (liftI di)) (ok : BlkOk X.N X.env.scope scope own)
    (hg : ∀ (s : Shared) (H : Hp) (C : Addr) (cl : List (Str × Addr)) (fp : List Addr), PG (X.blk s H scope (compEnvC scope cl C X.env) fp) tg (gOf X.K t)) (ht : ∀ (s : Shared) (H : Hp) (C : Addr) (cl : List (Str × Addr)) (fp : List Addr), PTs (X.blk s H scope (compEnvC scope cl C X.env) fp) ifs (liftT tt))
    (he : ∀ (s : Shared) (H : Hp) (C : Addr) (cl : List (Str × Addr)) (fp : List Addr), PE (X.blk s H scope (compEnvC scope cl C X.env) fp) elt (lift te)) (hs : ∀ x, foldedSetIterable iter X.env x = pure x := by intro _; rfl) :
    PE X (.ListComp elt [⟨tg, iter, ifs, 0⟩] scope pos) (lift (dLc di t tt te (own.map (·.2)))) := pe_le (pe_lc hc hN hi ok hg ht he hs) fun _ _ _ => lift_lc X.K
theorem s_setLc {i : Nat} {y : Str} {py : Pos} {elt tg iter : Expr} {ifs : List Expr} {scope : Scope} {own : List (Str × Nat)} {pos spos : Pos} {di : DA} {t : Tg} {tt : DT} {te : DE} (hc : X.calm = true) (hN : X.N.Nodup) (hy : X.N[i]? = some y) (hyl : X.env.scope.names.lookup y = some .local)
    (hsw : swapsWith (.ListComp elt [⟨tg, iter, ifs, 0⟩] scope pos) (some (.Name y py)) spos.line X.env = pure true) (hi : PI X tg iter (liftI di)) (ok : BlkOk X.N X.env.scope scope own)
    (hg : ∀ (s : Shared) (H : Hp) (C : Addr) (cl : List (Str × Addr)) (fp : List Addr), PG (X.blk s H scope (compEnvC scope cl C X.env) fp) tg (gOf X.K t)) (ht : ∀ (s : Shared) (H : Hp) (C : Addr) (cl : List (Str × Addr)) (fp : List Addr), PTs (X.blk s H scope (compEnvC scope cl C X.env) fp) ifs (liftT tt))
    (he : ∀ (s : Shared) (H : Hp) (C : Addr) (cl : List (Str × Addr)) (fp : List Addr), PE (X.blk s H scope (compEnvC scope cl C X.env) fp) elt (lift te)) (hs : ∀ x, foldedSetIterable iter X.env x = pure x := by intro _; rfl) :
    PS X (.Assign [.Name y py] (.ListComp elt [⟨tg, iter, ifs, 0⟩] scope pos) spos) (liftS (sAsg (.one i) (dLc di t tt te (own.map (·.2))))) :=
  ps_le (ps_setLc hc hN hy hyl hsw hi ok hg ht he hs) fun D σ H h => by
    have q := liftS_asg (t := .one i) X.K h
    exact lift_lc X.K q
end
end K71

set_option Elab.async false
set_option linter.all false
set_option maxRecDepth 100000
set_option maxHeartbeats 2000000
namespace K71
open PySem L2

/-! ### lists and dicts of one's own -/
section
variable {C : Ctx} {F H : Hp} {σ : L2.St} {δ : Dn}
theorem EnvOk.updOwn (E : EnvOk C F H σ δ) {i : Nat} {p : Addr} {e e' : En} {o : HO} (h : δ.sl[i]? = some (some e)) (h2 : isOwn e = true) (h3 : σ[i]? = some (some (.ref p))) (h4 : isOwn e' = true) (hF : F p = none) (ha : EnAt F (upd H p o) (some (some (.ref p))) e') :
    EnvOk C F (upd H p o) σ { δ with sl := δ.sl.set i (some e') } := by
  have hl : i < δ.sl.length := (List.getElem?_eq_some_iff.mp h).1
  have self : (δ.sl.set i (some e'))[i]? = some (some e') := List.getElem?_set_self hl
  have pre : ∀ {j : Nat} {u : En}, (δ.sl.set i (some e'))[j]? = some (some u) → isOwn u = true → ∃ u', δ.sl[j]? = some (some u') ∧ isOwn u' = true := fun {j u} q q2 => by
    by_cases z : j = i
    · subst z; exact ⟨e, h, h2⟩
    · rw [List.getElem?_set_ne (fun y => z y.symm)] at q; exact ⟨u, q, q2⟩
  refine ⟨fun b u q => by rw [upd_ne (ne_of_none q hF)]; exact E.sub _ _ q, E.sF, fun c u m q => ?_, E.nw, by rw [List.length_set]; exact E.len, fun j u q => ?_, fun j k u u' b q1 q2 o1 o2 s1 s2 => ?_, fun j u b q1 o1 s1 => ?_, E.bk, fun k b q => ?_⟩
  · have n : c ≠ p := fun z => by
      subst z
      rcases (E.mine i e c h h2 h3).1 with z | z
      · exact m z
      · rw [z] at q; cases q
    rw [upd_ne n]
    exact E.sH c u m q
  · by_cases z : j = i
    · subst z
      rw [self] at q
      cases q
      rw [h3]
      exact ha
    · rw [List.getElem?_set_ne (fun y => z y.symm)] at q
      have r := E.at_ j u q
      cases u with
      | dat d => exact r
      | own ds =>
        obtain ⟨b, xs, g1, g2, g3, g4⟩ := r
        have n : b ≠ p := fun y => by subst y; exact z (E.sep j i _ e b q h rfl h2 g1 h3)
        exact ⟨b, xs, g1, by rw [upd_ne n]; exact g2, g3, g4⟩
      | okd ks =>
        obtain ⟨b, g1, g2, g3⟩ := r
        have n : b ≠ p := fun y => by subst y; exact z (E.sep j i _ e b q h rfl h2 g1 h3)
        exact ⟨b, g1, by rw [upd_ne n]; exact g2, g3⟩
      | okn ks =>
        obtain ⟨b, xs, g1, g2, g3, g4⟩ := r
        have n : b ≠ p := fun y => by subst y; exact z (E.sep j i _ e b q h rfl h2 g1 h3)
        exact ⟨b, xs, g1, by rw [upd_ne n]; exact g2, g3, g4⟩
  · obtain ⟨v, a1, a2⟩ := pre q1 o1
    obtain ⟨v', b1, b2⟩ := pre q2 o2
    exact E.sep j k v v' b a1 b1 a2 b2 s1 s2
  · obtain ⟨v, a1, a2⟩ := pre q1 o1
    exact E.mine j v b a1 a2 s1
  · obtain ⟨g1, g2, g3, g4, g5⟩ := E.bg k b q
    have n : b ≠ p := fun z => (E.mine i e p h h2 h3).2 k b q z.symm
    have nk : i ≠ k := fun z => by subst z; rw [h] at g2; cases g2
    exact ⟨g1, by rw [List.getElem?_set_ne nk]; exact g2, by rw [upd_ne n]; exact g3, g4, g5⟩
/-- a new one -/
theorem EnvOk.newOwn (E : EnvOk C F H σ δ) {i : Nat} {p : Addr} {e' : En} {o : HO} (hp : H p = none) (hb : δ.bk ≠ some i) (h4 : isOwn e' = true) (ha : EnAt F (upd H p o) (some (some (.ref p))) e') :
    EnvOk C F (upd H p o) (σ.set i (some (.ref p))) { δ with sl := δ.sl.set i (some e') } := by
  have E1 := E.newH o hp
  have hF : F p = none := E.sub.free hp
  have ap := E.apart hp
  have self : ∀ {j : Nat} {u : En}, (δ.sl.set i (some e'))[j]? = some (some u) → (j = i ∧ u = e' ∧ (σ.set i (some (V.ref p)))[j]? = some (some (.ref p))) ∨ (j ≠ i ∧ δ.sl[j]? = some (some u) ∧ (σ.set i (some (V.ref p)))[j]? = σ[j]?) := fun {j u} q => by
    by_cases z : j = i
    · subst z
      have hl : j < δ.sl.length := by
        have := (List.getElem?_eq_some_iff.mp q).1
        simpa using this
      rw [List.getElem?_set_self hl] at q
      cases q
      exact .inl ⟨rfl, rfl, List.getElem?_set_self (by rw [E.len]; exact hl)⟩
    · rw [List.getElem?_set_ne (fun y => z y.symm)] at q
      exact .inr ⟨z, q, List.getElem?_set_ne (fun y => z y.symm)⟩
  refine ⟨E1.sub, E1.sF, E1.sH, E1.nw, by rw [List.length_set, List.length_set]; exact E.len, fun j u q => ?_, fun j k u u' b q1 q2 o1 o2 s1 s2 => ?_, fun j u b q1 o1 s1 => ?_, E.bk, fun k b q => ?_⟩
  · rcases self q with ⟨rfl, rfl, s⟩ | ⟨z, q', s⟩
    · rw [s]; exact ha
    · rw [s]; exact E1.at_ j u q'
  · rcases self q1 with ⟨rfl, rfl, s⟩ | ⟨z, q', s⟩
    · rcases self q2 with ⟨rfl, rfl, s'⟩ | ⟨z', q'', s'⟩
      · rfl
      · rw [s] at s1; cases s1
        rw [s'] at s2
        exact absurd s2 (ap.1 k u' q'' o2)
    · rcases self q2 with ⟨rfl, rfl, s'⟩ | ⟨z', q'', s'⟩
      · rw [s'] at s2; cases s2
        rw [s] at s1
        exact absurd s1 (ap.1 j u q' o1)
      · rw [s] at s1; rw [s'] at s2
        exact E.sep j k u u' b q' q'' o1 o2 s1 s2
  · rcases self q1 with ⟨rfl, rfl, s⟩ | ⟨z, q', s⟩
    · rw [s] at s1; cases s1
      exact ⟨E.fresh0 hp, fun k b q z => by subst z; exact ap.2 k q⟩
    · rw [s] at s1
      exact E.mine j u b q' o1 s1
  · obtain ⟨g1, g2, g3, g4, g5⟩ := E1.bg k b q
    have n : i ≠ k := fun z => hb (by rw [← E.bk, q]; simp [z])
    exact ⟨by rw [List.getElem?_set_ne n]; exact g1, by rw [List.getElem?_set_ne n]; exact g2, g3, g4, g5⟩
/-- one's own list is data from here on -/
theorem EnvOk.frz (E : EnvOk C F H σ δ) {i : Nat} {ds : List PyData} (h : δ.sl[i]? = some (some (.own ds))) : ∃ F', EnvOk C F' H σ { δ with sl := δ.sl.set i (some (.dat (.list ds))) } ∧ Same F F' ∧ ∃ p xs, σ[i]? = some (some (.ref p)) ∧ F' = upd F p (.lst xs) ∧ H p = some (.lst xs) ∧ F p = none ∧ DqL F ds xs := by
  obtain ⟨p, xs, h1, h2, h3, h4⟩ := E.at_ i _ h
  have hl : i < δ.sl.length := (List.getElem?_eq_some_iff.mp h).1
  -- without the slot it is an object that is nobody's
  have hb : δ.bk ≠ some i := fun z => by
    obtain ⟨b, hb⟩ := E.bag_of z
    have := (E.bg i b hb).2.1
    rw [h] at this
    cases this
  have E0 : EnvOk C F H σ { δ with sl := δ.sl.set i none } := by
    have pre : ∀ {j : Nat} {u : En}, (δ.sl.set i none)[j]? = some (some u) → j ≠ i ∧ δ.sl[j]? = some (some u) := fun {j u} q => by
      by_cases z : j = i
      · subst z; rw [List.getElem?_set_self hl] at q; cases q
      · rw [List.getElem?_set_ne (fun y => z y.symm)] at q; exact ⟨z, q⟩
    refine ⟨E.sub, E.sF, E.sH, E.nw, by rw [List.length_set]; exact E.len, fun j u q => E.at_ j u (pre q).2, fun j k u u' b q1 q2 => E.sep j k u u' b (pre q1).2 (pre q2).2, fun j u b q1 => E.mine j u b (pre q1).2, E.bk, fun k b q => ?_⟩
    obtain ⟨g1, g2, g3, g4, g5⟩ := E.bg k b q
    have n : i ≠ k := fun z => hb (by rw [← E.bk, q]; simp [z])
    exact ⟨g1, by rw [List.getElem?_set_ne n]; exact g2, g3, g4, g5⟩
  have ap : Apart C σ { δ with sl := δ.sl.set i none } p := by
    refine ⟨fun j u q o s => ?_, fun k q => (E.mine i _ p h rfl h1).2 k p q rfl⟩
    by_cases z : j = i
    · subst z
      have q' : (δ.sl.set j none)[j]? = some (some u) := q
      rw [List.getElem?_set_self hl] at q'; cases q'
    · have q' : (δ.sl.set i none)[j]? = some (some u) := q
      rw [List.getElem?_set_ne (fun y => z y.symm)] at q'
      exact z (E.sep j i u _ p q' h o rfl s h1)
  obtain ⟨E1, s1⟩ := E0.freeze h2 h3 ap (E.mine i _ p h rfl h1).1
  have E2 := E1.set (i := i) (d := .list ds) (v := .ref p) hb (.lst p upd_same (h4.mono s1))
  have e1 : σ.set i (some (.ref p)) = σ := by
    apply List.ext_getElem?
    intro j
    by_cases z : i = j
    · subst z; rw [List.getElem?_set_self (by rw [E.len]; exact hl)]; exact h1.symm
    · rw [List.getElem?_set_ne z]
  have e2 : (δ.sl.set i none).set i (some (.dat (.list ds))) = δ.sl.set i (some (.dat (.list ds))) := by rw [List.set_set]
  rw [e1] at E2
  refine ⟨_, ?_, s1, p, xs, h1, rfl, h2, h3, h4⟩
  have E3 : EnvOk C (upd F p (.lst xs)) H σ { δ with sl := (δ.sl.set i none).set i (some (.dat (.list ds))) } := E2
  rw [e2] at E3
  exact E3
end
section
variable {X : Cx}
def slOwn (i : Nat) (δ : Dn) : Option (List PyData) := match δ.sl[i]? with
  | some (some (.own ds)) => some ds
  | _ => none
theorem slOwn_some {i : Nat} {δ : Dn} {ds : List PyData} (h : slOwn i δ = some ds) : δ.sl[i]? = some (some (.own ds)) := by
  unfold slOwn at h
  split at h <;> cases h
  assumption
def slOkd (i : Nat) (δ : Dn) : Option (List Int) := match δ.sl[i]? with
  | some (some (.okd ds)) => some ds
  | _ => none
theorem slOkd_some {i : Nat} {δ : Dn} {ds : List Int} (h : slOkd i δ = some ds) : δ.sl[i]? = some (some (.okd ds)) := by
  unfold slOkd at h
  split at h <;> cases h
  assumption
/-- found[e] -/
def dOwnIx (i : Nat) (a : DE) : DE := bd a fun x => fun δ => match slOwn i δ, x with
  | some ds, .int j => (atI ds j).map (·, δ.bag)
  | _, _ => none
theorem atI_map {F : Hp} {ds : List PyData} {xs : List V} {j : Int} {d : PyData} (q : DqL F ds xs) (h : atI ds j = some d) : ∃ v, atI xs j = some v ∧ Dq F d v := by
  unfold atI at h ⊢
  obtain ⟨k, h1, h2⟩ := Option.bind_eq_some_iff.mp h
  obtain ⟨v, e1, e2⟩ := q.get h2
  exact ⟨v, by rw [← q.length, h1]; exact e1, e2⟩
theorem lift_ownIx {i : Nat} {a : DE} (K : PySem.W.Frag) {σ : L2.St} {H : Hp} {Q : VK} (h : lift (dOwnIx i a) σ H Q) : tOp (rIxL K) (tVar i) (lift a) σ H Q := by
  obtain ⟨C, F, δ, d, b', E, e, k⟩ := h
  obtain ⟨x, b1, e1, e⟩ := bd_some e
  split at e
  · rename_i ds j e2
    obtain ⟨z, e3, e⟩ := Option.map_eq_some_iff.mp e
    cases e
    obtain ⟨p, xs, h1, h2, h3, h4⟩ := E.at_ i _ (slOwn_some (δ := δ.wb b1) e2)
    refine ⟨.ref p, h1, C, F, δ, _, b1, E, e1, fun F1 H1 v1 E1 s1 q1 => ?_⟩
    obtain ⟨p', xs', g1, g2, g3, g4⟩ := E1.at_ i _ (slOwn_some e2)
    rw [h1] at g1; cases g1
    cases q1
    obtain ⟨v, a1, a2⟩ := atI_map g4 e3
    exact ⟨p, xs', j, v, rfl, rfl, sl_of g2, a1, k F1 H1 v E1 s1 a2⟩
  · cases e
theorem q_ownIx (i : Nat) {a b : Expr} {pos : Pos} {db : DE} (ha : PE X a (tVar i)) (hb : PE X b (lift db)) (hs : PlainIx b) : PE X (.Subscript a b pos) (lift (dOwnIx i db)) := pe_le (pe_ix ix_list ha hb hs) fun _ _ _ => lift_ownIx X.K
/-- x = [] -/
def sNewOwn (i : Nat) : DS := fun δ => if offBag [i] δ.bk = true then some (.nx { δ with sl := δ.sl.set i (some (.own [])) }) else none
theorem off1 {i : Nat} {bk : Option Nat} (h : offBag [i] bk = true) : bk ≠ some i := of_decide_eq_true (Bool.and_eq_true_iff.mp (show (decide (bk ≠ some i) && true) = true from h)).1
theorem liftS_newOwn {i : Nat} {D : Ends} {σ : L2.St} {H : Hp} (h : liftS (sNewOwn i) D σ H) : tAsg (tLst tNil) (gName i) D σ H := by
  obtain ⟨C, F, δ, o, E, e, k⟩ := h
  unfold sNewOwn at e
  split at e
  · rename_i hb
    cases e
    refine ⟨Nat.zero_le _, fun p hp => ?_⟩
    exact k F _ _ (E.newOwn hp (off1 hb) rfl ⟨p, [], rfl, upd_same, E.sub.free hp, .nil⟩)
  · cases e
theorem s_newOwn {x : Str} {i : Nat} {pos p pos' : Pos} (hN : X.N.Nodup) (hi : X.N[i]? = some x) (hx : L2.Loc X.env.scope x) (hs : swapsWith (.List [] p) (some (.Name x pos')) pos.line X.env = pure false := by rfl)
    (hf : X.fn x = true ∨ X.env.scope.names.lookup x = some .local := by first | exact .inl rfl | exact .inr rfl | assumption) : PS X (.Assign [.Name x pos'] (.List [] p) pos) (liftS (sNewOwn i)) := ps_le (ps_set hN hi hx (pe_lst pa_nil) hs hf) fun _ _ _ => liftS_newOwn
/-- x = a + b, lists, where x is to grow -/
def sOwnCat (i : Nat) (a b : DE) : DS := fun δ => match bd a (fun x => bd b fun y => fun δ => some ((x, y), δ.bag)) δ with
  | some ((.list xs, .list ys), g) => if offBag [i] δ.bk = true ∧ xs.length + ys.length ≤ sizeLine then some (.nx { sl := δ.sl.set i (some (.own (xs ++ ys))), bag := g, bk := δ.bk }) else none
  | _ => none
theorem liftS_ownCat {i : Nat} {a b : DE} {D : Ends} {σ : L2.St} {H : Hp} (h : liftS (sOwnCat i a b) D σ H) : tAsg (tOp rCat (lift a) (lift b)) (gName i) D σ H := by
  obtain ⟨C, F, δ, o, E, e, k⟩ := h
  unfold sOwnCat at e
  split at e
  · rename_i xs ys g e0
    obtain ⟨x, b1, e1, e0⟩ := bd_some e0
    obtain ⟨y, b2, e2, e0⟩ := bd_some e0
    cases e0
    split at e
    · rename_i hc
      cases e
      refine ⟨C, F, δ, _, b1, E, e1, fun F1 H1 v1 E1 s1 q1 => ⟨C, F1, _, _, b2, E1, e2, fun F2 H2 v2 E2 s2 q2 => ?_⟩⟩
      cases q1 with
      | lst p hp t =>
      cases q2 with
      | lst p' hp' t' =>
      refine ⟨p, p', _, _, rfl, rfl, E2.sub _ _ (s2 _ _ hp), E2.sub _ _ hp', by rw [← t.length, ← t'.length]; exact hc.2, fun q hq => ?_⟩
      exact k F2 _ _ (E2.newOwn hq (off1 hc.1) rfl ⟨q, _, rfl, upd_same, E2.sub.free hq, (t.mono s2).append t'⟩)
    · cases e
  · cases e
theorem s_ownCat {x : Str} {i : Nat} {ea eb : Expr} {pos p pos' : Pos} {a b : DE} (hN : X.N.Nodup) (hi : X.N[i]? = some x) (hx : L2.Loc X.env.scope x) (ha : PE X ea (lift a)) (hb : PE X eb (lift b)) (hs : swapsWith (.BinOp ea .Add eb p) (some (.Name x pos')) pos.line X.env = pure false := by rfl)
    (hf : X.fn x = true ∨ X.env.scope.names.lookup x = some .local := by first | exact .inl rfl | exact .inr rfl | assumption) : PS X (.Assign [.Name x pos'] (.BinOp ea .Add eb p) pos) (liftS (sOwnCat i a b)) := ps_le (ps_set hN hi hx (pe_op op_cat ha hb) hs hf) fun _ _ _ => liftS_ownCat
/-- x.append(e) -/
def sApp (i : Nat) (a : DE) : DS := fun δ => match a δ with
  | some (d, b) => match slOwn i δ with
    | some ds => if ds.length < sizeLine then some (.nx { sl := δ.sl.set i (some (.own (ds ++ [d]))), bag := b, bk := δ.bk }) else none
    | none => none
  | none => none
theorem liftS_app (K : PySem.W.Frag) {i : Nat} {a : DE} {D : Ends} {σ : L2.St} {H : Hp} (h : liftS (sApp i a) D σ H) : tDrop (tBM K "list" rAppend (tVar i) (tCons (lift a) tNil)) D σ H := by
  obtain ⟨C, F, δ, o, E, e, k⟩ := h
  unfold sApp at e
  split at e
  · rename_i d b e1
    split at e
    · rename_i ds e2
      split at e
      · rename_i hl
        cases e
        obtain ⟨p, xs, h1, h2, h3, h4⟩ := E.at_ i _ (slOwn_some e2)
        refine ⟨.ref p, h1, .inl ⟨rfl, _, sl_of h2⟩, C, F, δ, d, b, E, e1, fun F1 H1 v1 E1 s1 q1 => ?_⟩
        obtain ⟨p', xs', g1, g2, g3, g4⟩ := E1.at_ i _ (slOwn_some (δ := δ.wb b) e2)
        rw [h1] at g1; cases g1
        refine ⟨p, xs', v1, rfl, rfl, g2, by rw [← g4.length]; exact hl, ?_⟩
        exact k F1 _ σ (E1.updOwn (slOwn_some (δ := δ.wb b) e2) rfl h1 rfl g3 ⟨p, _, rfl, upd_same, g3, g4.append (.cons q1 .nil)⟩)
      · cases e
    · cases e
  · cases e
theorem s_app {i : Nat} {o e : Expr} {apos cpos pos : Pos} {a : DE} (ho : PE X o (tVar i)) (he : PE X e (lift a)) (hbase : attributeBase o "append" X.env (eval o X.env) = eval o X.env := by rfl)
    (hfew : ((backTo cpos (starEach [e] X.env)).all (fun x => !x.1) && (backToKw cpos (keywordEach [] X.env)).all (fun x => x.1.isSome)
      && decide (([e] : List Expr).length + ([] : List Keyword).length + (if ([] : List Keyword).isEmpty then 0 else 1) < 30)) = true := by rfl)
    (hline : (apos.endLine == cpos.line) = true := by rfl) (hs : starEach [e] X.env = (false, eval e X.env) :: starEach [] X.env := by rfl) (hplain : (backTo cpos (starEach [] X.env)).any (·.1) = false := by rfl)
    (hsw : swapsWith (.Call (.Attribute o "append" apos) [e] [] cpos) none pos.line X.env = pure false := by rfl) : PS X (.Expr (.Call (.Attribute o "append" apos) [e] [] cpos) pos) (liftS (sApp i a)) :=
  ps_le (ps_expr (pe_bm PySem.F.plainAttrs_list PySem.F.slot_list_append PySem.F.type_list_append mt_append ho (pa_cons he pa_nil hs) hbase hfew hline hs hplain) hsw) fun _ _ _ => liftS_app X.K
mutual
def noL : PyData → Bool
  | .none | .bool _ | .int _ | .str _ => true
  | .tuple ds => noLs ds
  | .list _ | .dict _ => false
def noLs : List PyData → Bool
  | [] => true
  | d :: ds => noL d && noLs ds
end
mutual
theorem Dq.without {F F' : Hp} {p : Addr} {ys : List V} (hp : F p = some (.lst ys)) (s : ∀ b o, b ≠ p → F b = some o → F' b = some o) : ∀ {d : PyData} {v : V}, Dq F d v → noL d = true → Dq F' d v
  | _, _, .non, _ => .non
  | _, _, .bl b, _ => .bl b
  | _, _, .int i, _ => .int i
  | _, _, .str x, _ => .str x
  | _, _, .lst _ _ _, e => nomatch e
  | _, _, .emp _ _, e => nomatch e
  | _, _, .tup q h t, e => .tup q (s _ _ (fun z => by rw [z, hp] at h; cases h) h) (DqL.without hp s t e)
theorem DqL.without {F F' : Hp} {p : Addr} {ys : List V} (hp : F p = some (.lst ys)) (s : ∀ b o, b ≠ p → F b = some o → F' b = some o) : ∀ {ds : List PyData} {xs : List V}, DqL F ds xs → noLs ds = true → DqL F' ds xs
  | _, _, .nil, _ => .nil
  | _, _, .cons h t, e => by
    have e' := Bool.and_eq_true_iff.mp (show (_ && _) = true from e)
    exact .cons (Dq.without hp s h e'.1) (DqL.without hp s t e'.2)
end
theorem noLs_ints : ∀ ns : List Int, noLs (ns.map .int) = true
  | [] => rfl
  | n :: ns => by show (noL (.int n) && noLs (ns.map .int)) = true; rw [noLs_ints ns]; rfl
theorem noL_name (k : List Int × Option Int) : noL (nameD k) = true := by
  show (noLs (k.1.map .int) && (noL (tieD k.2) && true)) = true
  rw [noLs_ints]
  cases k.2 <;> rfl
def sole (i : Nat) (δ : Dn) : Bool := (List.range δ.sl.length).all fun j => decide (j = i) || match δ.sl[j]? with
  | some (some (.own _)) => false
  | _ => true
theorem sole_no {i j : Nat} {δ : Dn} {es : List PyData} (h : sole i δ = true) (n : j ≠ i) : δ.sl[j]? ≠ some (some (.own es)) := fun q => by
  have hl : j < δ.sl.length := (List.getElem?_eq_some_iff.mp q).1
  have z := List.all_eq_true.mp h j (List.mem_range.mpr hl)
  rw [q, decide_eq_false n] at z
  cases z
/-- x.append(e), where e reads x, and gives no list -/
def sAppB (i : Nat) (a : DE) : DS := fun δ => match slOwn i δ with
  | some ds => match a { δ with sl := δ.sl.set i (some (.dat (.list ds))) } with
    | some (d, b) => if ds.length < sizeLine ∧ noL d = true ∧ sole i δ = true then some (.nx { sl := δ.sl.set i (some (.own (ds ++ [d]))), bag := b, bk := δ.bk }) else none
    | none => none
  | none => none
theorem liftS_appB (K : PySem.W.Frag) {i : Nat} {a : DE} {D : Ends} {σ : L2.St} {H : Hp} (h : liftS (sAppB i a) D σ H) : tDrop (tBM K "list" rAppend (tVar i) (tCons (lift a) tNil)) D σ H := by
  obtain ⟨C, F, δ, o, E, e, k⟩ := h
  unfold sAppB at e
  split at e
  · rename_i ds e2
    split at e
    · rename_i d b e1
      split at e
      · rename_i hc
        cases e
        have hd := slOwn_some e2
        have hl : i < δ.sl.length := (List.getElem?_eq_some_iff.mp hd).1
        obtain ⟨FF, E0, s0, p, xs, h1, rfl, h2, h3, h4⟩ := E.frz hd
        have Eh := E0.here
        refine ⟨.ref p, h1, .inl ⟨rfl, _, sl_of h2⟩, _, _, _, d, b, Eh, e1, fun F1 H1 v1 E1 s1 q1 => ?_⟩
        -- the list is one's own again
        have hp1 : F1 p = some (.lst xs) := E1.sF p _ upd_same
        have hH1 : H1 p = some (.lst xs) := E1.sub _ _ hp1
        let F2 : Hp := fun c => if c = p then none else F1 c
        have g3 : F2 p = none := if_pos rfl
        have ne2 : ∀ {c : Addr}, c ≠ p → F2 c = F1 c := fun {c} hc => if_neg hc
        have up : ∀ {c : Addr} {u : HO}, F c = some u → F2 c = some u := fun {c u} q => by
          have n := ne_of_none q h3
          rw [ne2 n]
          exact E1.sF c u (s0 _ _ q)
        have B := E0.back E1
        have mM : C.M p ∨ C.H0 p = none := (E.mine i _ p hd rfl h1).1
        have E2 : EnvOk C F2 H1 σ (δ.wb b) := by
          refine ⟨fun c u q => ?_, fun c u q => up (E.sF c u q), B.sH, fun c u m q nt hf => ?_, E.len, fun j u q => ?_, E.sep, E.mine, E.bk, fun k' b' q => ?_⟩
          · by_cases z : c = p
            · rw [z, g3] at q; cases q
            · rw [ne2 z] at q; exact E1.sub c u q
          · by_cases z : c = p
            · rw [z]; exact g3
            · rw [ne2 z]; exact B.nw c u m q nt hf
          · by_cases z : j = i
            · subst z
              have q' : δ.sl[j]? = some (some u) := q
              rw [hd] at q'
              cases q'
              exact ⟨p, xs, h1, hH1, g3, DqL.mono (fun c o w => up w) h4⟩
            · have q' : (δ.sl.set i (some (.dat (.list ds))))[j]? = some (some u) := by rw [List.getElem?_set_ne (fun y => z y.symm)]; exact q
              cases u with
              | dat dd =>
                obtain ⟨v, w1, w2⟩ := E.at_ j _ q
                exact ⟨v, w1, w2.mono fun c o w => up w⟩
              | own es => exact absurd q (sole_no hc.2.2 z)
              | okd ks =>
                obtain ⟨b1, w1, w2, w3⟩ := E1.at_ j _ q'
                have n : b1 ≠ p := fun y => by subst y; exact z (E.sep j i _ _ b1 q hd rfl rfl w1 h1)
                exact ⟨b1, w1, w2, by rw [ne2 n]; exact w3⟩
              | okn ks =>
                obtain ⟨b1, ys, w1, w2, w3, w4, w5, w6, w7⟩ := E1.at_ j _ q'
                have n : b1 ≠ p := fun y => by subst y; exact z (E.sep j i _ _ b1 q hd rfl rfl w1 h1)
                exact ⟨b1, ys, w1, w2, by rw [ne2 n]; exact w3, w4, w5, w6, fun x hx => (w7 x hx).without hp1 (fun c o n w => by rw [ne2 n]; exact w) (noL_name x.1)⟩
          · obtain ⟨w1, w2, w3, w4, w5⟩ := B.bg k' b' q
            have n : b' ≠ p := fun y => (E.mine i _ p hd rfl h1).2 k' b' q y.symm
            obtain ⟨y1, y2, y3, y4, y5⟩ := E.bg k' b' q
            exact ⟨y1, y2, w3, by rw [ne2 n]; exact w4, y5⟩
        have q2 : Dq F2 d v1 := q1.without hp1 (fun c o n w => by rw [ne2 n]; exact w) hc.2.1
        refine ⟨p, xs, v1, rfl, rfl, hH1, by rw [← h4.length]; exact hc.1, ?_⟩
        exact k F2 _ σ (E2.updOwn hd rfl h1 rfl g3 ⟨p, _, rfl, upd_same, g3, (DqL.mono (fun c o w => up w) h4).append (.cons q2 .nil)⟩)
      · cases e
    · cases e
  · cases e
end
end K71

set_option Elab.async false
set_option linter.all false
set_option maxRecDepth 100000
set_option maxHeartbeats 2000000
namespace K71
open PySem L2

/-! ### operators on data -/
section
variable {K : PySem.W.Frag}
def gAdd : PyData → PyData → Option PyData
  | .int i, .int j => some (.int (i + j))
  | .tuple a, .tuple b => if a.length + b.length ≤ sizeLine then some (.tuple (a ++ b)) else none
  | .list a, .list b => if a.length + b.length ≤ sizeLine then some (.list (a ++ b)) else none
  | _, _ => none
abbrev rAdd3 (K : PySem.W.Frag) : R2 := fun x y H Q => rI0 (fun i j => .int (i + j)) x y H Q ∨ (rCatA K x y H Q ∨ rCat x y H Q)
theorem op_add3 {X : Cx} : OpR X (binaryOp .Add) (rAdd3 X.K) := op_add.or (op_catA.or op_cat)
theorem DqL.nil_iff {F : Hp} {ds : List PyData} {xs : List V} (q : DqL F ds xs) : xs = [] ↔ ds = [] := by
  cases q <;> simp
theorem o_add : OpD gAdd (rAdd3 K) := by
  intro C F H σ δ x y dx dy dz Q E qx qy e k
  unfold gAdd at e
  split at e
  · cases e; cases qx; cases qy
    exact .inl ⟨_, _, rfl, rfl, k F H _ E (Same.refl F) (.int _)⟩
  · split at e
    · rename_i a b hl
      cases e
      cases qx with
      | tup p hp tp =>
      cases qy with
      | tup r hr tr =>
      rename_i xs ys
      refine .inr (.inl ⟨p, r, xs, ys, rfl, rfl, st_of (E.sub _ _ hp), st_of (E.sub _ _ hr), by rw [← tp.length, ← tr.length]; exact hl, fun z => ?_, fun _ z => ?_, fun _ _ q hq => ?_⟩)
      · have z' := tp.nil_iff.mp z
        subst z'
        exact k F H _ E (Same.refl F) (.tup r hr (by simpa using tr))
      · have z' := tr.nil_iff.mp z
        subst z'
        exact k F H _ E (Same.refl F) (.tup p hp (by simpa using tp))
      · obtain ⟨E2, s2⟩ := E.new (.tup (xs ++ ys)) hq
        exact k _ _ _ E2 s2 (.tup q upd_same ((tp.append tr).mono s2))
    · cases e
  · split at e
    · rename_i a b hl
      cases e
      cases qx with
      | lst p hp tp =>
      cases qy with
      | lst r hr tr =>
      rename_i xs ys
      refine .inr (.inr ⟨p, r, xs, ys, rfl, rfl, E.sub _ _ hp, E.sub _ _ hr, by rw [← tp.length, ← tr.length]; exact hl, fun q hq => ?_⟩)
      obtain ⟨E2, s2⟩ := E.new (.lst (xs ++ ys)) hq
      exact k _ _ _ E2 s2 (.lst q upd_same ((tp.append tr).mono s2))
    · cases e
  · cases e
/-- ints alone -/
def gI (c : Int → Int → Bool) (f : Int → Int → PyData) : PyData → PyData → Option PyData
  | .int i, .int j => if c i j = true then some (f i j) else none
  | _, _ => none
theorem o_I {c : Int → Int → Bool} {f : Int → Int → PyData} {C' : Int → Int → Prop} {g : Int → Int → V} (hc : ∀ i j, c i j = true → C' i j) (hf : ∀ F i j, Dq F (f i j) (g i j)) : OpD (gI c f) (rI C' g) := by
  intro C F H σ δ x y dx dy dz Q E qx qy e k
  unfold gI at e
  split at e
  · split at e
    · rename_i h
      cases e; cases qx; cases qy
      exact ⟨_, _, rfl, rfl, hc _ _ h, k F H _ E (Same.refl F) (hf F _ _)⟩
    · cases e
  · cases e
theorem o_I0 {f : Int → Int → PyData} {g : Int → Int → V} (hf : ∀ F i j, Dq F (f i j) (g i j)) : OpD (gI (fun _ _ => true) f) (rI0 g) := by
  intro C F H σ δ x y dx dy dz Q E qx qy e k
  unfold gI at e
  split at e
  · cases e; cases qx; cases qy
    exact ⟨_, _, rfl, rfl, k F H _ E (Same.refl F) (hf F _ _)⟩
  · cases e
def gSub := gI (fun _ _ => true) fun i j => .int (i - j)
theorem o_sub : OpD gSub (rI0 fun i j => .int (i - j)) := o_I0 fun _ _ _ => .int _
instance {i j : Int} : Decidable (CMul i j) := by unfold CMul; infer_instance
instance {i j : Int} : Decidable (CDiv i j) := by unfold CDiv; infer_instance
instance {i j : Int} : Decidable (CPow i j) := by unfold CPow; infer_instance
def cMul (i j : Int) : Bool := decide (CMul i j)
def cDiv (i j : Int) : Bool := decide (CDiv i j)
def cPow (i j : Int) : Bool := decide (CPow i j)
def cPos (_ j : Int) : Bool := decide (0 < j)
def gMulC := gI cMul fun i j => .int (i * j)
theorem o_mul : OpD gMulC (rI CMul fun i j => .int (i * j)) := o_I (fun _ _ h => of_decide_eq_true h) fun _ _ _ => .int _
def gDiv := gI cDiv fun i j => .int (i / j)
theorem o_div : OpD gDiv (rI CDiv fun i j => .int (i / j)) := o_I (fun _ _ h => of_decide_eq_true h) fun _ _ _ => .int _
def gMod := gI cPos fun i j => .int (i % j)
theorem o_mod : OpD gMod (rI (fun _ j => 0 < j) fun i j => .int (i % j)) := o_I (fun _ _ h => of_decide_eq_true h) fun _ _ _ => .int _
def gPow := gI cPow fun i j => .int (i ^ j.toNat)
theorem o_pow : OpD gPow (rI CPow fun i j => .int (i ^ j.toNat)) := o_I (fun _ _ h => of_decide_eq_true h) fun _ _ _ => .int _
def gNeg : PyData → Option PyData
  | .int i => some (.int (-i))
  | _ => none
theorem o_neg : UnD gNeg (rU fun i => .int (-i)) := by
  intro C F H σ δ x dx dz Q E qx e k
  unfold gNeg at e
  split at e
  · cases e; cases qx
    exact ⟨_, rfl, k F H _ E (Same.refl F) (.int _)⟩
  · cases e
def gLe := gI (fun _ _ => true) fun i j => .bool (decide (i ≤ j))
theorem o_le : OpD gLe (rI0 fun i j => .bl (decide (i ≤ j))) := o_I0 fun _ _ _ => .bl _
def gGt := gI (fun _ _ => true) fun i j => .bool (decide (j < i))
theorem o_gt : OpD gGt (rI0 fun i j => .bl (decide (j < i))) := o_I0 fun _ _ _ => .bl _
def gGe := gI (fun _ _ => true) fun i j => .bool (decide (j ≤ i))
theorem o_ge : OpD gGe (rI0 fun i j => .bl (decide (j ≤ i))) := o_I0 fun _ _ _ => .bl _
/-- < of ints, of tuples of ints -/
def asInts : List PyData → Option (List Int)
  | [] => some []
  | .int i :: ds => (asInts ds).map (i :: ·)
  | _ :: _ => none
theorem asInts_some : ∀ {ds : List PyData} {ns : List Int}, asInts ds = some ns → ds = ns.map .int
  | [], _, h => by cases h; rfl
  | .int i :: ds, _, h => by
    obtain ⟨r, h1, h2⟩ := Option.map_eq_some_iff.mp (show (asInts ds).map (i :: ·) = _ from h)
    subst h2
    rw [asInts_some h1]; rfl
  | .none :: _, _, h => nomatch h
  | .bool _ :: _, _, h => nomatch h
  | .str _ :: _, _, h => nomatch h
  | .list _ :: _, _, h => nomatch h
  | .tuple _ :: _, _, h => nomatch h
  | .dict _ :: _, _, h => nomatch h
theorem asInts_map : ∀ ns : List Int, asInts (ns.map .int) = some ns
  | [] => rfl
  | n :: ns => by show (asInts (ns.map .int)).map (n :: ·) = _; rw [asInts_map ns]; rfl
def gLt : PyData → PyData → Option PyData
  | .int i, .int j => some (.bool (decide (i < j)))
  | .tuple a, .tuple b => match asInts a, asInts b with
    | some ns, some ms => some (.bool (HT.lexLt ns ms))
    | _, _ => none
  | _, _ => none
abbrev rLt2 (K : PySem.W.Frag) : R2 := fun x y H Q => rI0 (fun i j => .bl (decide (i < j))) x y H Q ∨ rLtT K x y H Q
theorem op_lt2 {X : Cx} (hu : X.A.units < cLine) : OpR X (compareOp .Lt) (rLt2 X.K) := op_lt.or (op_ltT hu)
theorem o_lt : OpD gLt (rLt2 K) := by
  intro C F H σ δ x y dx dy dz Q E qx qy e k
  unfold gLt at e
  split at e
  · cases e; cases qx; cases qy
    exact .inl ⟨_, _, rfl, rfl, k F H _ E (Same.refl F) (.bl _)⟩
  · split at e
    · rename_i ns ms h1 h2
      cases e
      have h1 := asInts_some h1
      have h2 := asInts_some h2
      subst h1 h2
      cases qx with
      | tup p hp tp =>
      cases qy with
      | tup r hr tr =>
      have e1 := tp.ints_of
      have e2 := tr.ints_of
      subst e1 e2
      exact .inr ⟨p, r, ns, ms, rfl, rfl, st_of (E.sub _ _ hp), st_of (E.sub _ _ hr), k F H _ E (Same.refl F) (.bl _)⟩
    · cases e
  · cases e
def gEq (a b : PyData) : Option PyData := if SeqAt.shaped a = true ∧ SeqAt.shaped b = true then some (.bool (PyData.eqv a b)) else none
def gNe (a b : PyData) : Option PyData := if SeqAt.shaped a = true ∧ SeqAt.shaped b = true then some (.bool (!PyData.eqv a b)) else none
theorem o_eq : OpD gEq (rEqD K) := by
  intro C F H σ δ x y dx dy dz Q E qx qy e k
  unfold gEq at e
  split at e
  · rename_i h
    cases e
    exact ⟨dx, dy, qx.dp E.sub (SeqAt.canLay_of_shaped h.1), qy.dp E.sub (SeqAt.canLay_of_shaped h.2), h.1, h.2, k F H _ E (Same.refl F) (.bl _)⟩
  · cases e
theorem o_ne : OpD gNe (rNeD K) := by
  intro C F H σ δ x y dx dy dz Q E qx qy e k
  unfold gNe at e
  split at e
  · rename_i h
    cases e
    exact ⟨dx, dy, qx.dp E.sub (SeqAt.canLay_of_shaped h.1), qy.dp E.sub (SeqAt.canLay_of_shaped h.2), h.1, h.2, k F H _ E (Same.refl F) (.bl _)⟩
  · cases e
/-- in, not in: flat things in a list or tuple of flat things -/
def flatD : PyData → Bool
  | .none | .bool _ | .int _ | .str _ => true
  | _ => false
theorem Dq.flat {F : Hp} {d : PyData} {v : V} (q : Dq F d v) (h : flatD d = true) : flatV v = true := by
  cases q <;> first | rfl | cases h
theorem Dq.eqV {F : Hp} {d e : PyData} {v w : V} (q : Dq F d v) (r : Dq F e w) (h1 : flatD d = true) (h2 : flatD e = true) : L2.eqV v w = PyData.eqv d e := by
  cases q <;> first | (simp [flatD] at h1; done) | skip
  all_goals (cases r <;> first | (simp [flatD] at h2; done) | (simp [L2.eqV, PyData.eqv]))
theorem DqL.flats {F : Hp} : ∀ {ds : List PyData} {xs : List V}, DqL F ds xs → ds.all flatD = true → xs.all flatV = true
  | _, _, .nil, _ => rfl
  | d :: ds, _, .cons h t, e => by
    have e1 : flatD d = true := by simp at e; exact e.1
    have e2 : ds.all flatD = true := by simp at e ⊢; exact e.2
    rw [List.all_cons, h.flat e1, t.flats e2]
    rfl
theorem DqL.inV {F : Hp} {d : PyData} {v : V} (q : Dq F d v) (h1 : flatD d = true) : ∀ {ds : List PyData} {xs : List V}, DqL F ds xs → ds.all flatD = true → L2.inV v xs = ds.any fun e => PyData.eqv e d
  | _, _, .nil, _ => rfl
  | e :: ds, x :: xs, .cons h t, he => by
    have he1 : flatD e = true := by simp at he; exact he.1
    have he2 : ds.all flatD = true := by simp at he ⊢; exact he.2
    have ih := DqL.inV q h1 t he2
    unfold L2.inV at ih ⊢
    rw [List.any_cons, List.any_cons, ih, h.eqV q he1 h1]
def gIn (neg : Bool) (a : PyData) : PyData → Option PyData
  | .list ds => if flatD a = true ∧ ds.all flatD = true then some (.bool (if neg then !ds.any (fun e => PyData.eqv e a) else ds.any fun e => PyData.eqv e a)) else none
  | .tuple ds => if flatD a = true ∧ ds.all flatD = true then some (.bool (if neg then !ds.any (fun e => PyData.eqv e a) else ds.any fun e => PyData.eqv e a)) else none
  | _ => none
theorem o_in (neg : Bool) : OpD (gIn neg) (rIn K neg) := by
  intro C F H σ δ x y dx dy dz Q E qx qy e k
  unfold gIn at e
  split at e
  · split at e
    · rename_i ds h
      cases e
      cases qy with
      | lst p hp tp => exact ⟨p, _, rfl, .inl (sl_of (E.sub _ _ hp)), qx.flat h.1, tp.flats h.2, k F H _ E (Same.refl F) (by rw [DqL.inV qx h.1 tp h.2]; exact .bl _)⟩
    · cases e
  · split at e
    · rename_i ds h
      cases e
      cases qy with
      | tup p hp tp => exact ⟨p, _, rfl, .inr (st_of (E.sub _ _ hp)), qx.flat h.1, tp.flats h.2, k F H _ E (Same.refl F) (by rw [DqL.inV qx h.1 tp h.2]; exact .bl _)⟩
    · cases e
  · cases e
def isN : PyData → Bool
  | .none => true
  | _ => false
theorem Dq.isN {F : Hp} {d : PyData} {v : V} (q : Dq F d v) : decide (v = .non) = isN d := by
  cases q <;> simp [K71.isN]
def gIsN (neg : Bool) (a : PyData) : PyData → Option PyData
  | .none => some (.bool (if neg then !isN a else isN a))
  | _ => none
theorem o_isN : OpD (gIsN false) (fun x y H Q => y = .non ∧ Q (.bl (decide (x = .non))) H) := by
  intro C F H σ δ x y dx dy dz Q E qx qy e k
  unfold gIsN at e
  split at e
  · cases e; cases qy
    exact ⟨rfl, k F H _ E (Same.refl F) (by rw [qx.isN]; exact .bl _)⟩
  · cases e
def gIx : PyData → PyData → Option PyData
  | .list ds, .int j => atI ds j
  | .tuple ds, .int j => atI ds j
  | _, _ => none
theorem o_ix : OpD gIx (rIx K) := by
  intro C F H σ δ x y dx dy dz Q E qx qy e k
  unfold gIx at e
  split at e
  · cases qy
    cases qx with
    | lst p hp tp =>
    obtain ⟨v, a1, a2⟩ := atI_map tp e
    exact .inl ⟨p, _, _, v, rfl, rfl, sl_of (E.sub _ _ hp), a1, k F H v E (Same.refl F) a2⟩
  · cases qy
    cases qx with
    | tup p hp tp =>
    obtain ⟨v, a1, a2⟩ := atI_map tp e
    exact .inr (.inl ⟨p, _, _, v, rfl, rfl, st_of (E.sub _ _ hp), a1, k F H v E (Same.refl F) a2⟩)
  · cases e
/-! slices: [:b], [a:] -/
def cutD (ds : List PyData) (lo hi : Option Int) : List PyData := (ds.drop (HT.sIx ds.length 0 lo)).take (HT.sIx ds.length ds.length hi - HT.sIx ds.length 0 lo)
theorem DqL.cut {F : Hp} {ds : List PyData} {xs : List V} (q : DqL F ds xs) (lo hi : Option Int) : DqL F (cutD ds lo hi) (cutV xs lo hi) := by
  unfold cutD cutV
  rw [← q.length]
  exact (q.drop _).take _
theorem cut_whole (xs : List V) (lo hi : Option Int) (h : HT.sIx xs.length 0 lo = 0 ∧ HT.sIx xs.length xs.length hi = xs.length) : cutV xs lo hi = xs := by
  unfold cutV
  rw [h.1, h.2]
  simp
def gTo : PyData → PyData → Option PyData
  | .list ds, .int j => some (.list (cutD ds none (some j)))
  | .tuple ds, .int j => some (.tuple (cutD ds none (some j)))
  | _, _ => none
def gFrom : PyData → PyData → Option PyData
  | .list ds, .int j => some (.list (cutD ds (some j) none))
  | .tuple ds, .int j => some (.tuple (cutD ds (some j) none))
  | _, _ => none
abbrev rSl2 (K : PySem.W.Frag) : V → Option Int → Option Int → Hp → VK → Prop := fun x lo hi H Q => rSlL K x lo hi H Q ∨ rSlA K x lo hi H Q
theorem sl_2 {X : Cx} : SlR X (rSl2 X.K) := sl_list.or sl_tupA
theorem slice_L {C : Ctx} {F H : Hp} {σ : L2.St} {δ : Dn} {p : Addr} {xs : List V} {ds : List PyData} {lo hi : Option Int} {Q : VK} (E : EnvOk C F H σ δ) (hp : F p = some (.lst xs)) (tp : DqL F ds xs)
    (k : ∀ F' H' v, EnvOk C F' H' σ δ → Same F F' → Dq F' (.list (cutD ds lo hi)) v → Q v H') : rSlL K (.ref p) lo hi H Q := by
  refine ⟨p, xs, rfl, sl_of (E.sub _ _ hp), fun q hq => ?_⟩
  obtain ⟨E2, s2⟩ := E.new (.lst (cutV xs lo hi)) hq
  exact k _ _ _ E2 s2 (.lst q upd_same ((tp.cut lo hi).mono s2))
theorem slice_T {C : Ctx} {F H : Hp} {σ : L2.St} {δ : Dn} {p : Addr} {xs : List V} {ds : List PyData} {lo hi : Option Int} {Q : VK} (E : EnvOk C F H σ δ) (hp : F p = some (.tup xs)) (tp : DqL F ds xs)
    (k : ∀ F' H' v, EnvOk C F' H' σ δ → Same F F' → Dq F' (.tuple (cutD ds lo hi)) v → Q v H') : rSlA K (.ref p) lo hi H Q := by
  refine ⟨p, xs, rfl, st_of (E.sub _ _ hp), fun z => ?_, fun _ q hq => ?_⟩
  · refine k F H _ E (Same.refl F) (.tup p hp ?_)
    have := tp.cut lo hi
    rw [cut_whole _ _ _ z] at this
    exact this
  · obtain ⟨E2, s2⟩ := E.new (.tup (cutV xs lo hi)) hq
    exact k _ _ _ E2 s2 (.tup q upd_same ((tp.cut lo hi).mono s2))
theorem o_to : OpD gTo (fun x y H Q => ∃ i, y = .int i ∧ rSl2 K x none (some i) H Q) := by
  intro C F H σ δ x y dx dy dz Q E qx qy e k
  unfold gTo at e
  split at e
  · cases e; cases qy
    cases qx with
    | lst p hp tp => exact ⟨_, rfl, .inl (slice_L E hp tp k)⟩
  · cases e; cases qy
    cases qx with
    | tup p hp tp => exact ⟨_, rfl, .inr (slice_T E hp tp k)⟩
  · cases e
theorem o_from : OpD gFrom (fun x y H Q => ∃ i, y = .int i ∧ rSl2 K x (some i) none H Q) := by
  intro C F H σ δ x y dx dy dz Q E qx qy e k
  unfold gFrom at e
  split at e
  · cases e; cases qy
    cases qx with
    | lst p hp tp => exact ⟨_, rfl, .inl (slice_L E hp tp k)⟩
  · cases e; cases qy
    cases qx with
    | tup p hp tp => exact ⟨_, rfl, .inr (slice_T E hp tp k)⟩
  · cases e
end
section
variable {X : Cx} {a b : Expr} {pos p2 : Pos} {da db : DE}
theorem q_to (ha : PE X a (lift da)) (hb : PE X b (lift db)) : PE X (.Subscript a (.Slice none (some b) none p2) pos) (lift (dOp gTo da db)) := pe_le (pe_slice sl_2 ha po_none (po_some hb)) fun _ _ _ h => lift_op (o_to (K := X.K)) h
theorem q_from (ha : PE X a (lift da)) (hb : PE X b (lift db)) : PE X (.Subscript a (.Slice (some b) none none p2) pos) (lift (dOp gFrom da db)) := pe_le (pe_slice sl_2 ha (po_some hb) po_none) fun _ _ _ h => lift_op (o_from (K := X.K)) h

/-! ### what is built in, on data -/
def gLen : List PyData → Option PyData
  | [.list ds] => some (.int ds.length)
  | [.tuple ds] => some (.int ds.length)
  | _ => none
theorem c_len : CallD gLen (fun xs H Q => ∃ x n, xs = [x] ∧ LenV X.K x H n ∧ Q (.int n) H) := by
  intro C F H σ δ xs ds dz Q E q e k
  unfold gLen at e
  split at e
  · cases e
    cases q with
    | cons q1 q2 =>
      cases q2
      cases q1 with
      | lst p hp tp => exact ⟨_, _, rfl, .inl ⟨_, sl_of (E.sub _ _ hp), rfl⟩, k F H _ E (Same.refl F) (by rw [tp.length]; exact .int _)⟩
  · cases e
    cases q with
    | cons q1 q2 =>
      cases q2
      cases q1 with
      | tup p hp tp => exact ⟨_, _, rfl, .inr ⟨_, st_of (E.sub _ _ hp), rfl⟩, k F H _ E (Same.refl F) (by rw [tp.length]; exact .int _)⟩
  · cases e
def gAbs : List PyData → Option PyData
  | [.int i] => some (.int (if i < 0 then -i else i))
  | _ => none
theorem c_abs : CallD gAbs (fun xs H Q => ∃ i, xs = [.int i] ∧ Q (.int (if i < 0 then -i else i)) H) := by
  intro C F H σ δ xs ds dz Q E q e k
  unfold gAbs at e
  split at e
  · cases e
    cases q with
    | cons q1 q2 =>
      cases q2; cases q1
      exact ⟨_, rfl, k F H _ E (Same.refl F) (.int _)⟩
  · cases e
def gInt : List PyData → Option PyData
  | [.int i] => some (.int i)
  | _ => none
theorem c_int : CallD gInt (fun xs H Q => (∃ i, xs = [.int i] ∧ Q (.int i) H) ∨ ∃ k, xs = [.bl k] ∧ Q (.int (if k then 1 else 0)) H) := by
  intro C F H σ δ xs ds dz Q E q e k
  unfold gInt at e
  split at e
  · cases e
    cases q with
    | cons q1 q2 =>
      cases q2; cases q1
      exact .inl ⟨_, rfl, k F H _ E (Same.refl F) (.int _)⟩
  · cases e
def gSum : List PyData → Option PyData
  | [.list ds] => (asInts ds).map fun ns => .int ns.sum
  | _ => none
theorem c_sum : CallD gSum (rSum X.K) := by
  intro C F H σ δ xs ds dz Q E q e k
  unfold gSum at e
  split at e
  · obtain ⟨ns, h1, h2⟩ := Option.map_eq_some_iff.mp e
    subst h2
    have h1 := asInts_some h1
    subst h1
    cases q with
    | cons q1 q2 =>
      cases q2
      cases q1 with
      | lst p hp tp =>
        have e1 := tp.ints_of
        subst e1
        exact ⟨p, ns, rfl, sl_of (E.sub _ _ hp), k F H _ E (Same.refl F) (.int _)⟩
  · cases e
def asBools : List PyData → Option (List Bool)
  | [] => some []
  | .bool i :: ds => (asBools ds).map (i :: ·)
  | _ :: _ => none
theorem asBools_some : ∀ {ds : List PyData} {ns : List Bool}, asBools ds = some ns → ds = ns.map .bool
  | [], _, h => by cases h; rfl
  | .bool i :: ds, _, h => by
    obtain ⟨r, h1, h2⟩ := Option.map_eq_some_iff.mp (show (asBools ds).map (i :: ·) = _ from h)
    subst h2
    rw [asBools_some h1]; rfl
  | .none :: _, _, h => nomatch h
  | .int _ :: _, _, h => nomatch h
  | .str _ :: _, _, h => nomatch h
  | .list _ :: _, _, h => nomatch h
  | .tuple _ :: _, _, h => nomatch h
  | .dict _ :: _, _, h => nomatch h
theorem asBools_map : ∀ ns : List Bool, asBools (ns.map .bool) = some ns
  | [] => rfl
  | n :: ns => by show (asBools (ns.map .bool)).map (n :: ·) = _; rw [asBools_map ns]; rfl
def gAll : List PyData → Option PyData
  | [.list ds] => (asBools ds).map fun ns => .bool (ns.all id)
  | _ => none
theorem c_all : CallD gAll (rAll X.K) := by
  intro C F H σ δ xs ds dz Q E q e k
  unfold gAll at e
  split at e
  · obtain ⟨ns, h1, h2⟩ := Option.map_eq_some_iff.mp e
    subst h2
    have h1 := asBools_some h1
    subst h1
    cases q with
    | cons q1 q2 =>
      cases q2
      cases q1 with
      | lst p hp tp =>
        have e1 := tp.bls_of
        subst e1
        exact ⟨p, ns, rfl, sl_of (E.sub _ _ hp), k F H _ E (Same.refl F) (.bl _)⟩
  · cases e
/-- a list's ints, rising -/
def sortI (ns : List Int) : List Int := ns.mergeSort fun a b => decide (a ≤ b)
theorem sortI_eq {ns ms : List Int} (h : ms.Perm ns) (s : ms.Pairwise (· ≤ ·)) : ms = sortI ns := by
  have p1 : (sortI ns).Pairwise (· ≤ ·) := by
    have := List.pairwise_mergeSort (le := fun a b : Int => decide (a ≤ b)) (fun a b c h1 h2 => decide_eq_true (Int.le_trans (of_decide_eq_true h1) (of_decide_eq_true h2))) (fun a b => by simp; omega) ns
    exact this.imp fun h => of_decide_eq_true h
  have p2 : ms.Perm (sortI ns) := h.trans (List.mergeSort_perm ns _).symm
  exact p2.eq_of_pairwise (fun a b _ _ h1 h2 => Int.le_antisymm h1 h2) s p1
def gSorted : List PyData → Option PyData
  | [.list ds] => (asInts ds).map fun ns => .list ((sortI ns).map .int)
  | _ => none
theorem c_sorted : CallD gSorted (rSortedI X.K) := by
  intro C F H σ δ xs ds dz Q E q e k
  unfold gSorted at e
  split at e
  · obtain ⟨ns, h1, h2⟩ := Option.map_eq_some_iff.mp e
    subst h2
    have h1 := asInts_some h1
    subst h1
    cases q with
    | cons q1 q2 =>
      cases q2
      cases q1 with
      | lst p hp tp =>
        have e1 := tp.ints_of
        subst e1
        refine ⟨p, ns, rfl, sl_of (E.sub _ _ hp), fun ms p hperm hs hn => ?_⟩
        have e2 := sortI_eq hperm hs
        subst e2
        obtain ⟨E2, s2⟩ := E.new (.lst ((sortI ns).map V.int)) hn
        exact k _ _ _ E2 s2 (.lst p upd_same (DqL.ints _))
  · cases e
def gTuple : List PyData → Option PyData
  | [.list ds] => some (.tuple ds)
  | [.tuple ds] => some (.tuple ds)
  | _ => none
theorem c_tuple : CallD gTuple (fun xs H Q => ∃ p ys, xs = [.ref p] ∧ ((SqL X.K H p ys ∧ ∀ l, H l = none → Q (.ref l) (upd H l (.tup ys))) ∨ (SqT X.K H p ys ∧ Q (.ref p) H))) := by
  intro C F H σ δ xs ds dz Q E q e k
  unfold gTuple at e
  split at e
  · cases e
    cases q with
    | cons q1 q2 =>
      cases q2
      cases q1 with
      | lst p hp tp =>
        refine ⟨p, _, rfl, .inl ⟨sl_of (E.sub _ _ hp), fun l hl => ?_⟩⟩
        obtain ⟨E2, s2⟩ := E.new (.tup _) hl
        exact k _ _ _ E2 s2 (.tup l upd_same (tp.mono s2))
  · cases e
    cases q with
    | cons q1 q2 =>
      cases q2
      cases q1 with
      | tup p hp tp => exact ⟨p, _, rfl, .inr ⟨st_of (E.sub _ _ hp), k F H _ E (Same.refl F) (.tup p hp tp)⟩⟩
  · cases e
def gList : List PyData → Option PyData
  | [.list ds] => some (.list ds)
  | [.tuple ds] => some (.list ds)
  | _ => none
theorem c_list : CallD gList (fun xs H Q => ∃ p ys, xs = [.ref p] ∧ (SqL X.K H p ys ∨ SqT X.K H p ys) ∧ ∀ l, H l = none → Q (.ref l) (upd H l (.lst ys))) := by
  intro C F H σ δ xs ds dz Q E q e k
  unfold gList at e
  split at e
  · cases e
    cases q with
    | cons q1 q2 =>
      cases q2
      cases q1 with
      | lst p hp tp =>
        refine ⟨p, _, rfl, .inl (sl_of (E.sub _ _ hp)), fun l hl => ?_⟩
        obtain ⟨E2, s2⟩ := E.new (.lst _) hl
        exact k _ _ _ E2 s2 (.lst l upd_same (tp.mono s2))
  · cases e
    cases q with
    | cons q1 q2 =>
      cases q2
      cases q1 with
      | tup p hp tp =>
        refine ⟨p, _, rfl, .inr (st_of (E.sub _ _ hp)), fun l hl => ?_⟩
        obtain ⟨E2, s2⟩ := E.new (.lst _) hl
        exact k _ _ _ E2 s2 (.lst l upd_same (tp.mono s2))
  · cases e
/-! isinstance -/
def tyD : PyData → String
  | .none => "NoneType"
  | .bool _ => "bool"
  | .int _ => "int"
  | .str _ => "str"
  | .list _ => "list"
  | .tuple _ => "tuple"
  | .dict _ => "dict"
theorem Dq.ty {K : PySem.W.Frag} {F H : Hp} (s : Same F H) {d : PyData} {v : V} (q : Dq F d v) : TyX K H v (.type (tyD d)) := by
  cases q with
  | non => exact .base .non
  | bl b => exact .base (.bl b)
  | int i => exact .base (.int i)
  | str x => exact .base (.str x)
  | lst p h t => exact .base (.lst (s _ _ h))
  | tup p h t => exact .base (.tup (s _ _ h))
  | emp p h => exact .base (.dK (s _ _ h))
def dIsi (f : PyData → Bool) (a : DE) : DE := bd a fun x => fun δ => some (.bool (f x), δ.bag)
/-- what a built-in class answers for each kind of data -/
def IsiF (T : String) (f : PyData → Bool) : Prop := ∀ d, kitB (tyD d) T = some (f d)
theorem lift_isi {T : String} {f : PyData → Bool} (hf : IsiF T f) {a : DE} {σ : L2.St} {H : Hp} {Q : VK} (h : lift (dIsi f a) σ H Q) : tCB (rIsi X.K) (tCons (lift a) (tCons (tC (.ty T)) tNil)) σ H Q := by
  obtain ⟨C, F, δ, d, b', E, e, k⟩ := h
  obtain ⟨x, b1, e1, e⟩ := bd_some e
  cases e
  exact ⟨C, F, δ, x, b1, E, e1, fun F1 H1 v1 E1 s1 q1 => ⟨v1, .ty T, _, _, _, rfl, .ty T, q1.ty E1.sub, kit_ty (hf x), k F1 H1 _ E1 s1 (.bl _)⟩⟩
theorem q_isi {e c : Expr} {p : Pos} {T : String} {f : PyData → Bool} {a : DE} (hf : IsiF T f) (hg : Gl X "isinstance") (hm : X.mg "isinstance" = none) (he : PE X e (lift a)) (hc : PE X c (tC (.ty T)))
    (h1 : starEach [e, c] X.env = (false, eval e X.env) :: starEach [c] X.env := by rfl) (h2 : starEach [c] X.env = (false, eval c X.env) :: starEach [] X.env := by rfl) (hpl : (backTo pos (starEach [c] X.env)).any (·.1) = false := by rfl) :
    PE X (.Call (.Name "isinstance" p) [e, c] [] pos) (lift (dIsi f a)) := pe_le (pe_callB call_isi hg hm (by decide +kernel) (pa_cons he (pa_cons hc pa_nil h2) h1) (by decide) (by decide) h1 hpl) fun _ _ _ => lift_isi hf
def isInt : PyData → Bool
  | .int _ | .bool _ => true
  | _ => false
def isBool : PyData → Bool
  | .bool _ => true
  | _ => false
def isTup : PyData → Bool
  | .tuple _ => true
  | _ => false
def isLst : PyData → Bool
  | .list _ => true
  | _ => false
def isDct : PyData → Bool
  | .dict _ => true
  | _ => false
def isStr : PyData → Bool
  | .str _ => true
  | _ => false
theorem f_int : IsiF "int" isInt := fun d => match d with
  | .none  => show kitB "NoneType" "int" = some false by decide +kernel
  | .bool _ => show kitB "bool" "int" = some true by decide +kernel
  | .int _ => show kitB "int" "int" = some true by decide +kernel
  | .str _ => show kitB "str" "int" = some false by decide +kernel
  | .list _ => show kitB "list" "int" = some false by decide +kernel
  | .tuple _ => show kitB "tuple" "int" = some false by decide +kernel
  | .dict _ => show kitB "dict" "int" = some false by decide +kernel
theorem f_bool : IsiF "bool" isBool := fun d => match d with
  | .none  => show kitB "NoneType" "bool" = some false by decide +kernel
  | .bool _ => show kitB "bool" "bool" = some true by decide +kernel
  | .int _ => show kitB "int" "bool" = some false by decide +kernel
  | .str _ => show kitB "str" "bool" = some false by decide +kernel
  | .list _ => show kitB "list" "bool" = some false by decide +kernel
  | .tuple _ => show kitB "tuple" "bool" = some false by decide +kernel
  | .dict _ => show kitB "dict" "bool" = some false by decide +kernel
theorem f_tup : IsiF "tuple" isTup := fun d => match d with
  | .none  => show kitB "NoneType" "tuple" = some false by decide +kernel
  | .bool _ => show kitB "bool" "tuple" = some false by decide +kernel
  | .int _ => show kitB "int" "tuple" = some false by decide +kernel
  | .str _ => show kitB "str" "tuple" = some false by decide +kernel
  | .list _ => show kitB "list" "tuple" = some false by decide +kernel
  | .tuple _ => show kitB "tuple" "tuple" = some true by decide +kernel
  | .dict _ => show kitB "dict" "tuple" = some false by decide +kernel
theorem f_lst : IsiF "list" isLst := fun d => match d with
  | .none  => show kitB "NoneType" "list" = some false by decide +kernel
  | .bool _ => show kitB "bool" "list" = some false by decide +kernel
  | .int _ => show kitB "int" "list" = some false by decide +kernel
  | .str _ => show kitB "str" "list" = some false by decide +kernel
  | .list _ => show kitB "list" "list" = some true by decide +kernel
  | .tuple _ => show kitB "tuple" "list" = some false by decide +kernel
  | .dict _ => show kitB "dict" "list" = some false by decide +kernel
theorem f_dct : IsiF "dict" isDct := fun d => match d with
  | .none  => show kitB "NoneType" "dict" = some false by decide +kernel
  | .bool _ => show kitB "bool" "dict" = some false by decide +kernel
  | .int _ => show kitB "int" "dict" = some false by decide +kernel
  | .str _ => show kitB "str" "dict" = some false by decide +kernel
  | .list _ => show kitB "list" "dict" = some false by decide +kernel
  | .tuple _ => show kitB "tuple" "dict" = some false by decide +kernel
  | .dict _ => show kitB "dict" "dict" = some true by decide +kernel
theorem f_str : IsiF "str" isStr := fun d => match d with
  | .none  => show kitB "NoneType" "str" = some false by decide +kernel
  | .bool _ => show kitB "bool" "str" = some false by decide +kernel
  | .int _ => show kitB "int" "str" = some false by decide +kernel
  | .str _ => show kitB "str" "str" = some true by decide +kernel
  | .list _ => show kitB "list" "str" = some false by decide +kernel
  | .tuple _ => show kitB "tuple" "str" = some false by decide +kernel
  | .dict _ => show kitB "dict" "str" = some false by decide +kernel
end
end K71

set_option Elab.async false
set_option linter.all false
set_option maxRecDepth 100000
set_option maxHeartbeats 2000000
namespace K71
open PySem L2

section
variable {X : Cx}
/-! ### the bag, read and stored -/
def bagGet (b : Bag) : Int → Option Int
  | 0 => some b.s
  | 1 => some b.c
  | 2 => some b.g
  | _ => none
def bagSet (b : Bag) (z : Int) : Int → Option Bag
  | 1 => some { b with c := z }
  | 2 => some { b with g := z }
  | _ => none
def dBagIx (k : Nat) (j : Int) : DE := fun δ => if δ.bk = some k then (bagGet δ.bag j).map fun z => (.int z, δ.bag) else none
theorem bagGet_at {b : Bag} {j z : Int} (h : bagGet b j = some z) : atI [V.int b.s, V.int b.c, V.int b.g] j = some (.int z) := by
  unfold bagGet at h
  split at h <;> cases h <;> rfl
theorem lift_bagIx (K : PySem.W.Frag) {k : Nat} {j : Int} {σ : L2.St} {H : Hp} {Q : VK} (h : lift (dBagIx k j) σ H Q) : tOp (rIxL K) (tVar k) (tC (.int j)) σ H Q := by
  obtain ⟨C, F, δ, d, b', E, e, kk⟩ := h
  unfold dBagIx at e
  split at e
  · rename_i hk
    obtain ⟨z, e1, e⟩ := Option.map_eq_some_iff.mp e
    cases e
    obtain ⟨b, hb⟩ := E.bag_of hk
    obtain ⟨h1, h2, h3, h4, h5⟩ := E.bg k b hb
    exact ⟨.ref b, h1, b, _, j, _, rfl, rfl, sl_of h3, bagGet_at e1, kk F H _ E (Same.refl F) (.int z)⟩
  · cases e
theorem q_bagIx (k : Nat) {a b : Expr} {pos : Pos} {j : Int} (ha : PE X a (tVar k)) (hb : PE X b (tC (.int j))) (hs : PlainIx b) : PE X (.Subscript a b pos) (lift (dBagIx k j)) := pe_le (pe_ix ix_list ha hb hs) fun _ _ _ => lift_bagIx X.K
def sBagSet (k : Nat) (j : Int) (a : DE) : DS := fun δ => match a δ with
  | some (.int z, b) => if δ.bk = some k then (bagSet b z j).map fun b' => .nx (δ.wb b') else none
  | _ => none
theorem liftS_bagSet {k : Nat} {j : Int} {a : DE} {D : Ends} {σ : L2.St} {H : Hp} (h : liftS (sBagSet k j a) D σ H) : tAsg (lift a) (L2.gSub (tVar k) (tC (.int j)) rSetL) D σ H := by
  obtain ⟨C, F, δ, o, E, e, kk⟩ := h
  unfold sBagSet at e
  split at e
  · rename_i z b1 e1
    split at e
    · rename_i hk
      obtain ⟨b', e2, e⟩ := Option.map_eq_some_iff.mp e
      cases e
      obtain ⟨b, hb⟩ := E.bag_of hk
      refine ⟨C, F, δ, _, b1, E, e1, fun F1 H1 v1 E1 s1 q1 => ?_⟩
      cases q1
      obtain ⟨h1, h2, h3, h4, h5⟩ := E1.bg k b hb
      have hj : ∃ i, ixN 3 j = some i ∧ ([V.int b1.s, V.int b1.c, V.int b1.g].set i (.int z)) = [V.int b'.s, V.int b'.c, V.int b'.g] := by
        unfold bagSet at e2
        split at e2 <;> cases e2
        · exact ⟨1, rfl, rfl⟩
        · exact ⟨2, rfl, rfl⟩
      obtain ⟨i, hi, es⟩ := hj
      refine ⟨.ref b, h1, b, _, j, i, rfl, rfl, h3, hi, ?_⟩
      refine kk F1 _ σ (E1.bagged (bag' := b') hb (fun c u q => by rw [upd_ne (ne_of_none q h4)]; exact E1.sub c u q) (Same.refl F1) (fun p u n q => by rw [upd_ne n]; exact q) (fun _ _ _ _ _ q => q) ?_ h4)
      rw [upd_same]
      exact congrArg (fun l => some (HO.lst l)) es
    · cases e
  · cases e
theorem s_bagSet (k : Nat) {o i e : Expr} {pos pos' : Pos} {j : Int} {a : DE} (he : PE X e (lift a)) (ho : PE X o (tVar k)) (hi : PE X i (tC (.int j))) (hs : swapsWithSole [.Subscript o i pos'] e pos.line X.env = pure false := by rfl) (hw : swappedStores [.Subscript o i pos'] e X.env = pure none := by rfl)
    (h1 : (assignEach [.Subscript o i pos'] X.env).map (·.2) = [assign (.Subscript o i pos') X.env] := by rfl) (ha : ∀ v, assign (.Subscript o i pos') X.env v = (do
      let ov ← holding [v] (eval o X.env)
      let iv ← holding [v, ov] (eval i X.env)
      standAt pos'
      holding [v, ov, iv] (setItem ov iv v)
      release [v, ov, iv] []) := by intro _; rfl) :
    PS X (.Assign [.Subscript o i pos'] e pos) (liftS (sBagSet k j a)) := ps_le (ps_asg he (pg_sub ho hi set_list ha) hs hw h1) fun _ _ _ => liftS_bagSet

/-! ### dicts of one's own: ints, each with True -/
def insK (ks : List Int) (j : Int) : List Int := if j ∈ ks then ks else ks ++ [j]
theorem okV_val (ks : List Int) (j : Int) : (valV (ks.map fun k => ((Sum.inl k : Key), V.bl true)) (Sum.inl j)).isSome = decide (j ∈ ks) := by
  rw [← valV_any]
  induction ks with
  | nil => rfl
  | cons a r ih =>
    rw [List.map_cons, List.any_cons, ih]
    by_cases h : a = j
    · subst h; simp
    · have h1 : ¬ ((Sum.inl a : Key) = Sum.inl j) := fun z => h (Sum.inl.inj z)
      have h2 : ¬ j = a := fun z => h z.symm
      simp [h1, h2]
theorem okV_put (ks : List Int) (j : Int) : putK (ks.map fun k => ((Sum.inl k : Key), V.bl true)) (Sum.inl j) (V.bl true) = (insK ks j).map fun k => ((Sum.inl k : Key), V.bl true) := by
  unfold putK insK
  rw [valV_any, okV_val]
  by_cases h : j ∈ ks
  · rw [if_pos (decide_eq_true h), if_pos h, List.map_map]
    apply List.map_congr_left
    intro a _
    by_cases e : (Sum.inl a : Key) = Sum.inl j
    · simp [e]
    · simp only [Function.comp, if_neg e]
  · rw [decide_eq_false h, if_neg (by decide), if_neg h, List.map_append]
    rfl
def sNewOkd (i : Nat) : DS := fun δ => if offBag [i] δ.bk = true then some (.nx { δ with sl := δ.sl.set i (some (.okd [])) }) else none
theorem liftS_newOkd {i : Nat} {D : Ends} {σ : L2.St} {H : Hp} (h : liftS (sNewOkd i) D σ H) : tAsg tDNewK (gName i) D σ H := by
  obtain ⟨C, F, δ, o, E, e, k⟩ := h
  unfold sNewOkd at e
  split at e
  · rename_i hb
    cases e
    intro p hp
    exact k F _ _ (E.newOwn hp (off1 hb) rfl ⟨p, rfl, upd_same, E.sub.free hp⟩)
  · cases e
theorem s_newOkd {x : Str} {i : Nat} {pos p pos' : Pos} (hN : X.N.Nodup) (hi : X.N[i]? = some x) (hx : L2.Loc X.env.scope x) (hs : swapsWith (.Dict [] [] p) (some (.Name x pos')) pos.line X.env = pure false := by rfl)
    (hf : X.fn x = true ∨ X.env.scope.names.lookup x = some .local := by first | exact .inl rfl | exact .inr rfl | assumption) : PS X (.Assign [.Name x pos'] (.Dict [] [] p) pos) (liftS (sNewOkd i)) := ps_le (ps_set hN hi hx pe_dnewK hs hf) fun _ _ _ => liftS_newOkd
/-- x[e] = True -/
def sPutOkd (i : Nat) (a : DE) : DS := fun δ => match a δ with
  | some (.int z, b) => match slOkd i δ with
    | some ks => if ks.length < sizeLine then some (.nx { sl := δ.sl.set i (some (.okd (insK ks z))), bag := b, bk := δ.bk }) else none
    | none => none
  | _ => none
theorem liftS_putOkd {i : Nat} {a : DE} {D : Ends} {σ : L2.St} {H : Hp} (h : liftS (sPutOkd i a) D σ H) : sDPut (tVar i) (lift a) (tC (.bl true)) D σ H := by
  obtain ⟨C, F, δ, o, E, e, k⟩ := h
  unfold sPutOkd at e
  split at e
  · rename_i z b e1
    split at e
    · rename_i ks e2
      split at e
      · rename_i hl
        cases e
        obtain ⟨p, h1, h2, h3⟩ := E.at_ i _ (slOkd_some e2)
        refine ⟨.ref p, h1, C, F, δ, _, b, E, e1, fun F1 H1 v1 E1 s1 q1 => ?_⟩
        cases q1
        obtain ⟨p', g1, g2, g3⟩ := E1.at_ i _ (slOkd_some (δ := δ.wb b) e2)
        rw [h1] at g1; cases g1
        refine ⟨p, _, rfl, DPut.k (k := Sum.inl z) g2 (by rw [List.length_map]; exact hl), ?_⟩
        rw [okV_put]
        exact k F1 _ σ (E1.updOwn (slOkd_some (δ := δ.wb b) e2) rfl h1 rfl g3 ⟨p, rfl, upd_same, g3⟩)
      · cases e
    · cases e
  · cases e
theorem s_putOkd {i : Nat} {o e : Expr} {j : Nat} {pos pos' p : Pos} {a : DE} (hu : X.A.units + 1 < cLine) (ho : PE X o (tVar i)) (he : PE X e (lift a)) (hs : swapsWith (.Constant (.bool true) j p) (some (.Subscript o e pos')) pos.line X.env = pure false := by rfl) :
    PS X (.Assign [.Subscript o e pos'] (.Constant (.bool true) j p) pos) (liftS (sPutOkd i a)) := ps_le (ps_dput hu ho he pe_bl hs) fun _ _ _ => liftS_putOkd
/-- e in x -/
def dOkdIn (i : Nat) (a : DE) : DE := bd a fun x => fun δ => match slOkd i δ, x with
  | some ks, .int j => some (.bool (decide (j ∈ ks)), δ.bag)
  | _, _ => none
theorem lift_okdIn {i : Nat} {a : DE} {σ : L2.St} {H : Hp} {Q : VK} (h : lift (dOkdIn i a) σ H Q) : tDIn (lift a) (tVar i) σ H Q := by
  obtain ⟨C, F, δ, d, b', E, e, k⟩ := h
  obtain ⟨x, b1, e1, e⟩ := bd_some e
  split at e
  · rename_i ks j e2
    cases e
    refine ⟨C, F, δ, _, b1, E, e1, fun F1 H1 v1 E1 s1 q1 => ?_⟩
    cases q1
    obtain ⟨p, g1, g2, g3⟩ := E1.at_ i _ (slOkd_some e2)
    exact ⟨.ref p, g1, p, _, rfl, DGet.k (k := Sum.inl j) g2, k F1 H1 _ E1 s1 (by rw [okV_val]; exact .bl _)⟩
  · cases e
theorem q_okdIn (i : Nat) {a o : Expr} {pos : Pos} {da : DE} (hu : X.A.units + 1 < cLine) (ha : PE X a (lift da)) (ho : PE X o (tVar i)) (hm : behindInMarks .In o = false := by rfl) : PE X (.Compare a [.In] [o] pos) (lift (dOkdIn i da)) := pe_le (pe_cmp (pc_din hu ha ho) hm) fun _ _ _ => lift_okdIn
/-- list(x) -/
def dOkdList (i : Nat) : DE := fun δ => (slOkd i δ).map fun ks => (.list (ks.map .int), δ.bag)
theorem lift_okdList {i : Nat} {σ : L2.St} {H : Hp} {Q : VK} (h : lift (dOkdList i) σ H Q) : tCB rListD (tCons (tVar i) tNil) σ H Q := by
  obtain ⟨C, F, δ, d, b', E, e, k⟩ := h
  obtain ⟨ks, e1, e⟩ := Option.map_eq_some_iff.mp e
  cases e
  obtain ⟨p, g1, g2, g3⟩ := E.at_ i _ (slOkd_some e1)
  refine ⟨.ref p, g1, p, _, rfl, g2, fun q hq => ?_⟩
  obtain ⟨E2, s2⟩ := E.new (.lst (((ks.map fun k => ((Sum.inl k : Key), V.bl true))).map fun kv => kV kv.1)) hq
  refine k _ _ _ E2 s2 (.lst q upd_same ?_)
  rw [List.map_map]
  exact DqL.ints ks
theorem q_okdList (i : Nat) {e : Expr} {p pos : Pos} (hc : X.calm = true) (hg : Gl X "list") (hm : X.mg "list" = none) (he : PE X e (tVar i)) (h1 : starEach [e] X.env = (false, eval e X.env) :: starEach [] X.env := by rfl) (hpl : (backTo pos (starEach [] X.env)).any (·.1) = false := by rfl) :
    PE X (.Call (.Name "list" p) [e] [] pos) (lift (dOkdList i)) := pe_le (pe_callTy (call_list_dK hc) hg hm (by decide +kernel) (pa_cons he pa_nil h1) (by decide) (by decide) h1 hpl) fun _ _ _ => lift_okdList

/-! ### what is frozen on the way -/
def sFrz (i : Nat) (b : DS) : DS := fun δ => match slOwn i δ with
  | some ds => b { δ with sl := δ.sl.set i (some (.dat (.list ds))) }
  | none => none
theorem liftS_frz {i : Nat} {b : DS} {D : Ends} {σ : L2.St} {H : Hp} (h : liftS (sFrz i b) D σ H) : liftS b D σ H := by
  obtain ⟨C, F, δ, o, E, e, k⟩ := h
  unfold sFrz at e
  split at e
  · rename_i ds e1
    obtain ⟨F', E', _⟩ := E.frz (slOwn_some e1)
    exact ⟨C, F', _, o, E', e, k⟩
  · cases e
theorem ss_frz (i : Nat) {sts : List Stmt} {b : DS} (h : PSs X sts (liftS b)) : PSs X sts (liftS (sFrz i b)) := pss_le h fun _ _ _ => liftS_frz

/-! ### x or y by truth: lists -/
def dOrL (a c : DE) : DE := bd a fun x => fun δ => match x with
  | .list [] => c δ
  | .list (d :: ds) => some (.list (d :: ds), δ.bag)
  | .none => c δ
  | _ => none
theorem lift_orL (K : PySem.W.Frag) {a c : DE} {σ : L2.St} {H : Hp} {Q : VK} (h : lift (dOrL a c) σ H Q) : tOrT K (lift a) (lift c) σ H Q := by
  obtain ⟨C, F, δ, d, b', E, e, k⟩ := h
  obtain ⟨x, b1, e1, e⟩ := bd_some e
  refine ⟨C, F, δ, _, b1, E, e1, fun F1 H1 v1 E1 s1 q1 => ?_⟩
  split at e
  · cases q1 with
    | lst p hp t =>
      cases t
      exact ⟨false, .inl ⟨_, sl_of (E1.sub _ _ hp), rfl⟩, iteF ⟨C, F1, _, d, b', E1, e, fun F2 H2 v2 E2 s2 q2 => k F2 H2 v2 E2 (s1.trans s2) q2⟩⟩
  · cases e
    cases q1 with
    | lst p hp t =>
      cases t with
      | cons t1 t2 => exact ⟨true, .inl ⟨_, sl_of (E1.sub _ _ hp), rfl⟩, iteT (k F1 H1 _ E1 s1 (.lst p hp (.cons t1 t2)))⟩
  · cases q1
    exact ⟨false, rfl, iteF ⟨C, F1, _, d, b', E1, e, fun F2 H2 v2 E2 s2 q2 => k F2 H2 v2 E2 (s1.trans s2) q2⟩⟩
  · cases e
theorem q_orL {a b : Expr} {rest : List Expr} {pos : Pos} {da dc : DE} (ha : PE X a (lift da)) (hc : PE X (.BoolOp .Or (b :: rest) pos) (lift dc)) : PE X (.BoolOp .Or (a :: b :: rest) pos) (lift (dOrL da dc)) := pe_le (pe_orT ha hc) fun _ _ _ => lift_orL X.K
end

/-! ### a def's promise from its body -/
def initP (n : Nat) (ds : List PyData) : Dn := { sl := ds.map (fun d => some (.dat d)) ++ List.replicate (n - ds.length) none, bag := ⟨0, 0, 0⟩, bk := none }
def runP (n : Nat) (b : DS) (ds : List PyData) : Option PyData := match b (initP n ds) with
  | some (.rt d _) => some d
  | some (.nx _) => some .none
  | _ => none
def initB (n : Nat) (g : Bag) (ds : List PyData) : Dn := { sl := none :: ds.map (fun d => some (.dat d)) ++ List.replicate (n - (ds.length + 1)) none, bag := g, bk := some 0 }
def runB (n : Nat) (b : DS) (g : Bag) (ds : List PyData) : Option (PyData × Bag) := match b (initB n g ds) with
  | some (.rt d g') => some (d, g')
  | some (.nx δ) => some (.none, δ.bag)
  | _ => none
theorem init_env {F H : Hp} {n : Nat} {ds : List PyData} {vs : List V} (s : Same F H) (q : DqL F ds vs) (σ : L2.St) (hσ : σ = vs.map some ++ List.replicate (n - vs.length) none) : EnvOk ⟨F, H, fun _ => False, none⟩ F H σ (initP n ds) := by
  subst hσ
  have at' : ∀ (i : Nat) (e : En), (initP n ds).sl[i]? = some (some e) → ∃ d v, e = .dat d ∧ Dq F d v ∧ (vs.map some ++ List.replicate (n - vs.length) (none : Option V))[i]? = some (some v) := fun i e h => by
    have h : (ds.map (fun d => some (En.dat d)) ++ List.replicate (n - ds.length) none)[i]? = some (some e) := h
    by_cases hi : i < ds.length
    · rw [List.getElem?_append_left (by rw [List.length_map]; exact hi), List.getElem?_map, List.getElem?_eq_getElem hi] at h
      cases h
      obtain ⟨v, h1, h2⟩ := q.get (List.getElem?_eq_getElem hi)
      exact ⟨_, v, rfl, h2, by rw [List.getElem?_append_left (by rw [List.length_map, ← q.length]; exact hi), List.getElem?_map, h1]; rfl⟩
    · rw [List.getElem?_append_right (by rw [List.length_map]; omega), List.getElem?_replicate] at h
      split at h <;> cases h
  refine ⟨s, Same.refl F, fun _ _ _ h => h, fun _ _ _ _ _ h => h, by simp [initP, q.length], fun i e h => ?_, fun i j e e' p h1 h2 o1 o2 => ?_, fun i e p h1 o1 => ?_, rfl, fun _ _ h => nomatch h⟩
  · obtain ⟨d, v, rfl, h2, h3⟩ := at' i e h
    exact ⟨v, h3, h2⟩
  · obtain ⟨d, v, rfl, _⟩ := at' i e h1
    cases o1
  · obtain ⟨d, v, rfl, _⟩ := at' i e h1
    cases o1
theorem init_envB {F H : Hp} {n : Nat} {b : Addr} {g : Bag} {ds : List PyData} {vs : List V} (s : Same F H) (q : DqL F ds vs) (hb : H b = some (bagV g)) (hf : F b = none) (σ : L2.St) (hσ : σ = (V.ref b :: vs).map some ++ List.replicate (n - (V.ref b :: vs).length) none) :
    EnvOk ⟨F, H, fun c => c = b, some (0, b)⟩ F H σ (initB n g ds) := by
  subst hσ
  have at' : ∀ (i : Nat) (e : En), (initB n g ds).sl[i]? = some (some e) → ∃ d v, e = .dat d ∧ Dq F d v ∧ ((V.ref b :: vs).map some ++ List.replicate (n - (V.ref b :: vs).length) (none : Option V))[i]? = some (some v) := fun i e h => by
    have h : (none :: ds.map (fun d => some (En.dat d)) ++ List.replicate (n - (ds.length + 1)) none)[i]? = some (some e) := h
    cases i with
    | zero => cases h
    | succ i =>
      have h : (ds.map (fun d => some (En.dat d)) ++ List.replicate (n - (ds.length + 1)) none)[i]? = some (some e) := h
      show ∃ d v, e = .dat d ∧ Dq F d v ∧ (vs.map some ++ List.replicate (n - (V.ref b :: vs).length) (none : Option V))[i]? = some (some v)
      by_cases hi : i < ds.length
      · rw [List.getElem?_append_left (by rw [List.length_map]; exact hi), List.getElem?_map, List.getElem?_eq_getElem hi] at h
        cases h
        obtain ⟨v, h1, h2⟩ := q.get (List.getElem?_eq_getElem hi)
        exact ⟨_, v, rfl, h2, by rw [List.getElem?_append_left (by rw [List.length_map, ← q.length]; exact hi), List.getElem?_map, h1]; rfl⟩
      · rw [List.getElem?_append_right (by rw [List.length_map]; omega), List.getElem?_replicate] at h
        split at h <;> cases h
  refine ⟨s, Same.refl F, fun _ _ _ h => h, fun _ _ _ _ _ h => h, by simp [initB, q.length], fun i e h => ?_, fun i j e e' p h1 h2 o1 o2 => ?_, fun i e p h1 o1 => ?_, rfl, fun k c h => ?_⟩
  · obtain ⟨d, v, rfl, h2, h3⟩ := at' i e h
    exact ⟨v, h3, h2⟩
  · obtain ⟨d, v, rfl, _⟩ := at' i e h1
    cases o1
  · obtain ⟨d, v, rfl, _⟩ := at' i e h1
    cases o1
  · cases h
    exact ⟨rfl, rfl, hb, hf, .inl rfl⟩
section
variable {P : Program} {w : World} {K : PySem.W.Frag} {mg : Str → Option Value} {base : Heap}
theorem fn_P {x qual : Str} {st : Stmt} {f : Addr} {fd : FuncData} {N ps : List Str} {k : Nat} {b : DS} (F : Fun K x qual st f fd) (S : FnScope N ps (defScope st))
    (body : ∀ (cdv : Value) (A : Around) (outer : List Env) (s : Shared) (H : Hp) (E : XK), Room k (A.deeper (PyProof.Rows.envOfC qual (defScope st) s.heap.objs.size f cdv)) → PSs (cxOf CX0 P w K mg base N qual (defScope st) f cdv A outer s H E).nox (defBody st) (liftS b)) :
    FnOk P w K mg base CX0 (k + 1) f fd ps (spP ps.length (runP N.length b)) := by
  refine F.ok S (fun vs H Q E h => h.1) fun cdv A outer s H vs Q E hr h => ⟨liftS b, body cdv A outer s H E hr, ?_⟩
  obtain ⟨hl, F, ds, d, s0, q, e, kk⟩ := h
  have E0 := init_env (n := N.length) s0 q (start N vs) rfl
  unfold runP at e
  split at e
  · rename_i d' b' e1
    cases e
    exact ⟨_, F, _, _, E0, e1, fun F' H' σ' δ' v E' _ qv => kk F' H' v E'.sub E'.sF (fun c o h => E'.sH c o (fun z => z) h) (fun c o h nt hf => E'.nw c o (fun z => z) h nt hf) qv⟩
  · rename_i δ' e1
    cases e
    exact ⟨_, F, _, _, E0, e1, fun F' H' σ' E' => kk F' H' .non E'.sub E'.sF (fun c o h => E'.sH c o (fun z => z) h) (fun c o h nt hf => E'.nw c o (fun z => z) h nt hf) .non⟩
  · cases e
theorem fn_B {x qual : Str} {st : Stmt} {f : Addr} {fd : FuncData} {N ps : List Str} {x0 : Str} {k : Nat} {b : DS} (F : Fun K x qual st f fd) (S : FnScope N (x0 :: ps) (defScope st))
    (body : ∀ (cdv : Value) (A : Around) (outer : List Env) (s : Shared) (H : Hp) (E : XK), Room k (A.deeper (PyProof.Rows.envOfC qual (defScope st) s.heap.objs.size f cdv)) → PSs (cxOf CX0 P w K mg base N qual (defScope st) f cdv A outer s H E).nox (defBody st) (liftS b)) :
    FnOk P w K mg base CX0 (k + 1) f fd (x0 :: ps) (spB ps.length (runB N.length b)) := by
  refine F.ok S (fun vs H Q E h => h.1) fun cdv A outer s H vs Q E hr h => ⟨liftS b, body cdv A outer s H E hr, ?_⟩
  obtain ⟨hl, F, a, ws, g, ds, d, g', s0, rfl, hH, hF, q, e, kk⟩ := h
  have E0 := init_envB (n := N.length) s0 q hH hF (start N (.ref a :: ws)) rfl
  unfold runB at e
  split at e
  · rename_i d' b' e1
    cases e
    refine ⟨_, F, _, _, E0, e1, fun F' H' σ' δ' v E' eb qv => ?_⟩
    obtain ⟨h1, h2, h3, h4, h5⟩ := E'.bg 0 a rfl
    rw [eb] at h3
    exact kk F' H' v E'.sub E'.sF (fun c o n h => E'.sH c o n h) (fun c o n h nt hf => E'.nw c o n h nt hf) h3 h4 qv
  · rename_i δ' e1
    cases e
    refine ⟨_, F, _, _, E0, e1, fun F' H' σ' E' => ?_⟩
    obtain ⟨h1, h2, h3, h4, h5⟩ := E'.bg 0 a rfl
    exact kk F' H' .non E'.sub E'.sF (fun c o n h => E'.sH c o n h) (fun c o n h nt hf => E'.nw c o n h nt hf) h3 h4 .non
  · cases e
end
end K71

set_option Elab.async false
set_option linter.all false
set_option maxRecDepth 100000
set_option maxHeartbeats 2000000
namespace K71
open PySem L2 PyProof.Rows

/-! ### enumerate over a tuple -/
def Iet (a : Addr) : It where
  go := fun i H => ∃ (ts : List V) (y : V), H a = some (.tup ts) ∧ ts[i]? = some y
  yld := fun i H v H' => ∃ T y, v = .ref T ∧ H T = none ∧ H' = upd H T (.tup [.int (i : Nat), y]) ∧ ∀ ts, H a = some (.tup ts) → ts[i]? = some y
  stop := fun i H => ∃ ts : List V, H a = some (.tup ts) ∧ ts.length = i
theorem turn_et {P : Program} {w : World} {K : PySem.W.Frag} {elts : List Expr} {kk : Nat} {tpos : Pos} (a e it : Addr) :
    Turn P w K (.Tuple elts kk tpos) (Iet a) [e, it] e (fun i h => (∃ o, IsEnum h e it ((i : Nat) : Int) o) ∧ h.IsTupleIter it a i ∧ e ≠ it ∧ a ≠ it ∧ a ≠ e) where
  mem := List.mem_cons_self
  obj := fun i h st b hb => by
    obtain ⟨⟨o, he⟩, ⟨u, hu, _, hd⟩, _⟩ := st
    rcases List.mem_cons.mp hb with z | z
    · subst z; exact ⟨_, he, fun v q => nomatch q⟩
    · rw [List.mem_singleton.mp z]; exact ⟨u, hu, fun v q => by rw [hd] at q; cases q⟩
  keep := fun i h h' st k => by
    obtain ⟨⟨o, he⟩, hi, n1, n2, n3⟩ := st
    exact ⟨⟨o, k e List.mem_cons_self _ he⟩, hi.at fun u q => k it (List.mem_cons_of_mem _ List.mem_cons_self) u q, n1, n2, n3⟩
  item := by
    intro X hP hw hK hc i pins s σ H E I hf st hg
    subst hP hw hK
    obtain ⟨⟨old, he⟩, hit, n1, n2, n3⟩ := st
    obtain ⟨ts, y, hq, hy⟩ := hg
    obtain ⟨its, rv, p, hz⟩ := I.tuple (st_of hq)
    obtain ⟨u, hu, ru⟩ := rv.get hy
    have lte : e < s.heap.objs.size := Heap.lt_size he
    have lti : it < s.heap.objs.size := by obtain ⟨_, q, _⟩ := hit; exact Heap.lt_size q
    have hli : i < its.toArray.size := by
      have := (List.getElem?_eq_some_iff.mp hu).1
      simpa using this
    refine wpAny_pyNext_enum_itemC (Draws.tuple (A := X.A.in1) (I.ok.hd hc) it a n2 its.toArray) he ⟨hit, p⟩ hli n1 (fun z => ?_) fun x h' tk hx hout hst hT hsz hk => ?_
    · rcases List.mem_cons.mp z with z | z
      · exact n1 z
      · exact n3 (List.mem_singleton.mp z).symm
    have ex : x = u := by
      have q : its.toArray[i]? = some x := hx
      rw [List.getElem?_toArray, hu] at q
      exact (Option.some.inj q).symm
    subst ex
    refine ⟨_, rfl, wpAny_letOwnedTupleGo_enum (s := { s with heap := h', toks := tk + 1 }) hout fun h2 he2 sb => ?_⟩
    have hT2 : h2.get? s.heap.objs.size = some { cls := .type "tuple", data := .seq #[.int i tk, x] } := (sb.2 _ (Nat.ne_of_gt lte)).trans hT
    have new : ObjOk X.prog X.w (upd H s.heap.objs.size (.tup [.int (i : Nat), y])) h2 s.heap.objs.size (.tup [.int (i : Nat), y]) := by
      refine ⟨?_, [.int i tk, x], .cons ⟨_, rfl⟩ (.cons ru .nil), ⟨_, hT2, rfl, _, rfl⟩⟩
      show 2 ≤ sizeLine
      decide
    have I2 := I.turnedNew (ch := [e, it]) (t' := tk + 1) (fun b o hb q => (sb.2 b fun z => hb (by rw [z]; exact List.mem_cons_self)).trans (hk b o (fun z => hb (by rw [z]; exact List.mem_cons_self)) (fun z => hb (by rw [z]; exact List.mem_cons_of_mem _ List.mem_cons_self)) q)) hf (Nat.le_refl _) new
    refine ⟨.ref s.heap.objs.size, _, I2, rfl, ⟨_, y, rfl, I.hok.fresh (Nat.le_refl _), rfl, fun us h => ?_⟩, ⟨⟨x, ?_⟩, hst.1.at fun o q => (sb.2 it n1.symm).trans q, n1, n2, n3⟩, fun b hb => ?_⟩
    · rw [hq] at h; cases h; exact hy
    · rw [show ((i + 1 : Nat) : Int) = (i : Int) + 1 by omega]
      exact he2
    · have lb : b < s.heap.objs.size := by
        rcases List.mem_cons.mp hb with z | z
        · rw [z]; exact lte
        · rw [List.mem_singleton.mp z]; exact lti
      rw [upd_ne (Nat.ne_of_lt lb)]
      exact (hf b hb).1
  done := by
    intro X hP hw hK hc i pins s σ H E I hf st hg
    subst hP hw hK
    obtain ⟨⟨old, he⟩, hit, n1, n2, n3⟩ := st
    obtain ⟨ts, hq, hl⟩ := hg
    obtain ⟨its, rv, p, hz⟩ := I.tuple (st_of hq)
    obtain ⟨f0, f1, f2, f3, f4, f5⟩ := hf it (List.mem_cons_of_mem _ List.mem_cons_self)
    have hn : its.toArray.size = i := by rw [List.size_toArray, ← rv.length]; exact hl
    refine wpAny_pyNext_enum_endD (Draws.tuple (A := X.A.in1) (I.ok.hd hc) it a n2 its.toArray) he ⟨by rw [hn]; exact hit, p⟩ fun h' hx => ⟨rfl, ?_⟩
    exact I.turned (t' := s.toks) (fun b o hb q => hx b o hb q) f0 f1 f3 f4 f5
  self := fun A i s Q E st h => by
    obtain ⟨⟨_, he⟩, _⟩ := st
    exact wpAny_pyIter_enum he h
/-- enumerate(v), whatever v begins by -/
theorem meets_enum1 {v : Value} {o : Obj} {Hh : Heap → Prop} (B : Begins v o Hh) :
    Meets (Builtin.«enumerate.__new__» ⟨[.type "enumerate", v], []⟩) (fun _ R s => Hh s.heap ∧
      R (.ok (.ret (.ref (s.heap.push o).objs.size))) { s with heap := (s.heap.push o).push { cls := .type "enumerate", data := .fields #[.none, .bool false, .ref s.heap.objs.size, rawInt 0, .none, .none] } }) :=
  .of_wp fun prog w A R s h => by
    obtain ⟨hp, g, d, tk, os⟩ := s
    obtain ⟨hh, hR⟩ := h
    have hsub := sub_enumerate
    have begin' : ∀ {A' : Around} {E : Value → Shared → Prop} {Q : Value → Shared → Prop}, Q (.ref hp.objs.size) ⟨hp.push o, g, d, tk, os⟩ → wpAny (model prog w) A' (pyIter v) Q E ⟨hp, g, d, tk, os⟩ := fun q =>
      B.iter prog w _ _ ⟨hp, g, d, tk, os⟩ _ hh q
    wp_walk using begin'
    refine wpAny_stack_any fun _ => wpAny_pure ?_
    split
    · rename_i c _ _ _ _ _
      cases (c == Value.type "enumerate") <;> (wp_walk using begin'; exact ⟨_, rfl, hR⟩)
    · wp_walk using begin'
      exact ⟨_, rfl, hR⟩
section
variable {prog : Program} {w : World} {A : Around} {E : Value → Shared → Prop} {s : Shared}
theorem call_enum1 {v : Value} {o : Obj} {Hh : Heap → Prop} {Q : Value → Shared → Prop} (B : Begins v o Hh) (h1 : Hh s.heap)
    (h : ∀ h', IsEnum h' (s.heap.objs.size + 1) s.heap.objs.size 0 .none → h'.get? s.heap.objs.size = some o → (∀ b u, s.heap.get? b = some u → h'.get? b = some u) → Q (.ref (s.heap.objs.size + 1)) { s with heap := h' }) :
    wpAny (model prog w) A (call (.type "enumerate") [v]) Q E s := by
  refine callType_new F.called_enumerate (by decide) (F.typeCall_enumerate_1 _) (F.newCall_enumerate_1 _) (fun obj => F.args_object_init_2 obj _) F.entry_enumerate_new (meets_enum1 B) ⟨h1, ?_⟩
  have hz : (s.heap.push o).objs.size = s.heap.objs.size + 1 := Heap.size_push ..
  show _ ∧ _
  rw [hz]
  have he : IsEnum ((s.heap.push o).push { cls := .type "enumerate", data := .fields #[.none, .bool false, .ref s.heap.objs.size, rawInt 0, .none, .none] }) (s.heap.objs.size + 1) s.heap.objs.size 0 .none := by
    have q := Heap.get?_push_size (s.heap.push o) (o := { cls := .type "enumerate", data := .fields #[.none, .bool false, .ref s.heap.objs.size, rawInt 0, .none, .none] }) rfl
    rw [hz] at q
    exact q
  exact ⟨⟨_, he, rfl⟩, h _ he (Heap.get?_push_of_some _ (Heap.get?_push_size _ B.free)) fun b u q => Heap.get?_push_of_some _ (Heap.get?_push_of_some _ q)⟩
end
section
variable {X : Cx}
def iET (ta : TA) : TI := fun σ H R => ta σ H fun vs H1 => ∃ a ts, vs = [.ref a] ∧ H1 a = some (.tup ts) ∧ R (Iet a) H1
theorem pi_enumT {e : Expr} {ta : TA} {p pos tpos : Pos} {elts : List Expr} {kk : Nat} (hg : Gl X "enumerate") (hm : X.mg "enumerate" = none) (ha : PA X [e] ta) (hs : starEach [e] X.env = [(false, eval e X.env)] := by rfl) :
    PI X (.Tuple elts kk tpos) (.Call (.Name "enumerate" p) [e] [] pos) (iET ta) := by
  refine ⟨fun pins s σ H R I h => ?_⟩
  refine Call_ (ld_blt I hg hm boot_enumerate (PyProof.Rows.callWith_type1 (thn (ha.run pos pins s σ H _ I h) fun us s1 ⟨vs, H1, I1, r1, q1⟩ => ?_) hs rfl))
  obtain ⟨a, ts, ex, hq, q⟩ := q1
  subst ex
  cases r1 with
  | cons r rr =>
    cases rr
    cases r
    obtain ⟨its, rv, p', hz⟩ := I1.tuple (st_of hq)
    have hlt : a < s1.heap.objs.size := I1.hok.lt hq
    refine call_enum1 (begins_tuple a its.toArray) p' fun h' he hit hk => wpAny_pyIter_enum he ?_
    refine ⟨s1.heap.objs.size + 1, [s1.heap.objs.size + 1, s1.heap.objs.size], _, _, H1, rfl, I1.kept (t' := s1.toks) hk, turn_et a (s1.heap.objs.size + 1) s1.heap.objs.size,
      ⟨⟨.none, he⟩, ⟨_, hit, rfl, rfl⟩, Nat.succ_ne_self _, Nat.ne_of_lt hlt, Nat.ne_of_lt (Nat.lt_succ_of_lt hlt)⟩, fun b hb => ?_, q⟩
    have hle : s1.heap.objs.size ≤ b := by
      rcases List.mem_cons.mp hb with z | z
      · rw [z]; exact Nat.le_succ _
      · rw [List.mem_singleton.mp z]; exact Nat.le_refl _
    exact I1.fpOk hle (I1.hok.fresh hle)
theorem yields_et {F : Hp} {p : Addr} {xs : List V} {ds : List PyData} (h : F p = some (.tup xs)) (q : DqL F ds xs) : YieldsD (Iet p) F (enumD 0 ds) where
  go := fun i H hi s => ⟨xs, xs[i]'(by rw [← q.length, ← enumD_length 0]; exact hi), s _ _ h, by simp⟩
  stop := fun H s => ⟨xs, s _ _ h, by rw [enumD_length, q.length]⟩
  yld := fun i H H' x C F1 σ δ E s y hi => by
    obtain ⟨T, y1, rfl, hT, rfl, y⟩ := y
    have e := y xs (E.sub _ _ (s _ _ h))
    obtain ⟨d, e1, e2⟩ := q.back e
    obtain ⟨E2, s2⟩ := E.new (.tup [.int (i : Nat), y1]) hT
    refine ⟨_, .tuple [.int (i : Nat), d], E2, s2, by rw [enumD_get, e1]; simp, .tup T upd_same (.cons (.int _) (.cons ((e2.mono s).mono s2) .nil))⟩
def iE2 (a : DE) : DA := bd a fun d => fun δ => match d with
  | .tuple ds => some (enumD 0 ds, δ.bag)
  | _ => none
theorem liftI_enumT {a : DE} {σ : L2.St} {H : Hp} {R : It → Hp → Prop} (h : liftI (iE2 a) σ H R) : iET (tCons (lift a) (liftA aNil)) σ H R := by
  obtain ⟨C, F, δ, ds, b', E, e, k⟩ := h
  obtain ⟨d, b1, e1, e⟩ := bd_some e
  split at e <;> cases e
  refine ⟨C, F, δ, _, b1, E, e1, fun F1 H1 v1 E1 s1 q1 => ⟨C, F1, _, [], b1, E1, rfl, fun F2 H2 vs E2 s2 q2 => ?_⟩⟩
  cases q2
  cases q1 with
  | tup p hp t => exact ⟨p, _, rfl, E2.sub _ _ (s2 _ _ hp), k _ _ _ E2 (s1.trans s2) (yields_et (s2 _ _ hp) (t.mono s2))⟩
theorem i_enumT {e : Expr} {p pos tpos : Pos} {elts : List Expr} {kk : Nat} {a : DE} (hg : Gl X "enumerate") (hm : X.mg "enumerate" = none) (h : PE X e (lift a)) (hs : starEach [e] X.env = [(false, eval e X.env)] := by rfl) :
    PI X (.Tuple elts kk tpos) (.Call (.Name "enumerate" p) [e] [] pos) (liftI (iE2 a)) := pi_le (pi_enumT hg hm (pa_cons h a_nil hs) hs) fun _ _ _ => liftI_enumT
end

/-! ### sorted of a list of tuples of ints -/
def tupI (ns : List Int) : PyData := .tuple (ns.map .int)
/-- the lists of ints, by the order of tuples -/
def sortT (nss : List (List Int)) : List (List Int) := nss.mergeSort (PySem.W.dataLe false tupI)
def rSortedT : List V → Hp → VK → Prop := fun vs H Q => ∃ (a : Addr) (xs : List V) (nss : List (List Int)), vs = [V.ref a] ∧ H a = some (.lst xs) ∧ Paired (fun x ns => ∃ t, x = V.ref t ∧ H t = some (.tup (ns.map V.int)) ∧ ns ≠ []) xs nss ∧ xs.length ≤ sizeLine ∧
  ∀ (ys : List V) (p : Addr), Paired (fun x ns => ∃ t, x = V.ref t ∧ H t = some (.tup (ns.map V.int)) ∧ ns ≠ []) ys (sortT nss) → H p = none → Q (.ref p) (upd H p (.lst ys))
theorem each_of {H : Hp} : ∀ {xs : List V} {its : List Value} {nss : List (List Int)}, Vals xs its → Paired (fun x ns => ∃ t, x = V.ref t ∧ H t = some (.tup (ns.map V.int)) ∧ ns ≠ []) xs nss → PySem.W.EachIs (fun (v : Value) (ns : List Int) => ∃ t, v = Value.ref t ∧ H t = some (.tup (ns.map V.int)) ∧ ns ≠ []) its nss
  | _, _, _, .nil, .nil => .nil
  | _, _, _, .cons r t, .cons p q => by
    obtain ⟨a, rfl, h1, h2⟩ := p
    exact .cons ⟨a, r, h1, h2⟩ (each_of t q)
theorem of_each {H : Hp} : ∀ {its : List Value} {nss : List (List Int)}, PySem.W.EachIs (fun (v : Value) (ns : List Int) => ∃ t, v = Value.ref t ∧ H t = some (.tup (ns.map V.int)) ∧ ns ≠ []) its nss → ∃ ys, Vals ys its ∧ Paired (fun x ns => ∃ t, x = V.ref t ∧ H t = some (.tup (ns.map V.int)) ∧ ns ≠ []) ys nss
  | _, _, .nil => ⟨[], .nil, .nil⟩
  | _, _, .cons p q => by
    obtain ⟨ys, h1, h2⟩ := of_each q
    obtain ⟨a, e, h3, h4⟩ := p
    exact ⟨V.ref a :: ys, .cons e h1, .cons ⟨a, rfl, h3, h4⟩ h2⟩
theorem each_mem2 {α β : Type} {R : α → β → Prop} : ∀ {as : List α} {bs : List β}, PySem.W.EachIs R as bs → ∀ b ∈ bs, ∃ a, R a b
  | _, _, .nil, _, h => nomatch h
  | _, _, .cons p q, b, h => by
    rcases List.mem_cons.mp h with z | z
    · exact ⟨_, by rw [z]; exact p⟩
    · exact each_mem2 q b z
theorem dp_ints {K : PySem.W.Frag} {H : Hp} : ∀ ns : List Int, DpAll K H (ns.map V.int) (ns.map .int)
  | [] => .nil
  | n :: ns => .cons (.int n) (dp_ints ns)
section
variable {X : Cx}
theorem cr_sortedT (hu : X.A.units + 64 < cLine) : CallR X (.builtin "sorted") rSortedT := by
  intro pins s σ H vs us Q I r h
  obtain ⟨a, xs, nss, rfl, ha, hp, hl, q⟩ := h
  obtain ⟨its, rv, hL, hz⟩ := I.list (sl_of ha)
  rw [Vals.ref1 r]
  have e := each_of rv hp
  have er : PySem.W.EachIs (fun v ns => ∃ as, Reads s.heap v (tupI ns) as) its nss := e.mono fun v ns h => by
    obtain ⟨t, rfl, h1, _⟩ := h
    exact Dp.reads I (tupI ns) (.ref t) (.ref t) (.tup (st_of h1) (dp_ints ns)) rfl
  have hal : PySem.W.AllAlike (nss.map tupI) := PySem.W.AllAlike.of fun b b' => by
    show PySem.W.alike (.tuple (b.map .int)) (.tuple (b'.map .int)) = true
    rw [PySem.W.alike]
    exact PySem.W.alike_ints b b'
  have hk : PySem.W.Sortable (nss.map tupI) := .inl fun d hd => by
    obtain ⟨ns, hm, rfl⟩ := List.mem_map.mp hd
    obtain ⟨v, t, _, _, hne⟩ := each_mem2 e ns hm
    cases ns with
    | nil => exact absurd rfl hne
    | cons n ns => exact ⟨.int n, ns.map .int, rfl⟩
  have hlen : its.length = nss.length := e.length
  have hxs : xs.length = its.length := rv.length
  refine PySem.W.sorted_data hL.isList e er hal hk (by omega) (fun b _ => ?_) fun out ho eo => ?_
  · show X.A.units + 2 + (PyData.tuple (b.map .int)).depth < cLine
    rw [PyData.depth, PySem.W.depth_ints]
    omega
  · obtain ⟨ys, h1, h2⟩ := of_each eo
    obtain ⟨ep, he'⟩ := PyProof.Rows.sortedAll_at s.heap its out.toArray
    have hy : ys.length ≤ sizeLine := by
      have := h1.length
      omega
    exact ⟨.ref _, upd H (s.heap.objs.size + 1) (.lst ys), I.laid (t' := s.toks) (fun _ _ => PyProof.Rows.sortedAll_old) (Nat.le_succ _) ⟨hy, out, ep, h1, he'⟩, rfl, q ys _ h2 (I.hok.fresh (Nat.le_succ _))⟩
end
end K71

set_option Elab.async false
set_option linter.all false
set_option maxRecDepth 100000
set_option maxHeartbeats 2000000
namespace K71
open PySem PySem.Spec L2 PyProof.Rows

/-! ### a comprehension that fills a dict whose keys are tuples -/
theorem room_t {P : Program} {w : World} {A : Around} (h : A.units < cLine) : (tupleKind (mixKind P w)).room A := h
/-- one store -/
theorem put_dT {X : Cx} {pins : List (Addr × Obj)} {σ : L2.St} {H : Hp} {s : Shared} {E : Value → Shared → Prop} {D b : Addr} {kvs : List (List Key × V)} {k : List Key} {v : V} {r : Value} {Q : Unit → Shared → Prop} (hu : X.A.units < cLine) (I : Inv X pins σ H s)
    (hD : H D = some (.dT kvs)) (hb : H b = some (.tup (k.map kV))) (hz : kvs.length < sizeLine) (rv : RelV v r) (h : ∀ s', Inv X pins σ (upd H D (.dT (putK kvs k v))) s' → Q () s') : wpAny (model X.prog X.w) X.A (dictSet D (.ref b) r) Q E s := by
  obtain ⟨hl0, hd, xs, rel, dd⟩ := dt_of I.hok hD
  have hx : xs.length ≤ sizeLine := by rw [← Paired.length rel]; exact hl0
  have hl1 : (putK kvs k v).length ≤ sizeLine := by have := length_putK kvs k v; omega
  refine wpAny_dictSet_heap (hsz := hx) (room_t hu) (key_of I.hok hb) dd fun h' dd2 hs => h _ ?_
  obtain ⟨o, es, ep, g1, g2, g3, g4, _, g5⟩ := dd2
  refine d_write I (by rw [hD]; exact True.intro) hs ⟨o, g1⟩ ⟨hl1, hd, _, (rel.put k hb rv).keeps fun c ys ec => ?_, o, es, ep, g1, g2, g3, g4, g5⟩
  have nc : c ≠ D := ne_of ec hD fun z => nomatch z
  rw [upd_ne nc]
  exact ec
section
variable {X : Cx}
/-- what one turn of it asks -/
def DtTurn (J : It) (g : TG) (tk tv : TE) (vs : List Nat) (σ : L2.St) (D : Addr) (Q : Hp → Prop) (W : Nat → Nat → Hp → Prop) : Prop := ∀ i m H, W i m H → (J.stop i H ∧ Q H) ∨
  (J.go i H ∧ ∃ Nx : Hp → Prop, (∀ H', Nx H' → ∃ m', m' < m ∧ W (i + 1) m' H') ∧ ∀ x H', J.yld i H x H' → g x (wipe σ vs) H' fun σ2 H2 => wipe σ2 vs = wipe σ vs ∧
    tk σ2 H2 fun y H4 => tv σ2 H4 fun z H5 => ∃ kvs k b, y = .ref b ∧ H5 b = some (.tup (k.map kV)) ∧ H5 D = some (.dT kvs) ∧ kvs.length < sizeLine ∧ Nx (upd H5 D (.dT (putK kvs k z))))
def tDct (wi : TI) (g : TG) (tk tv : TE) (vs : List Nat) : TE := fun σ H Q => wi σ H fun J H1 => ∀ D, H1 D = none → ∃ W : Nat → Nat → Hp → Prop, (∃ m, W 0 m (upd H1 D (.dT []))) ∧ DtTurn J g tk tv vs σ D (fun H => Q (.ref D) H) W
theorem pe_dct {kx vx tg iter : Expr} {scope : Scope} {own : List (Str × Nat)} {pos : Pos} {wi : TI} {g : TG} {tk tv : TE} (hu : X.A.units < cLine) (hc : X.calm = true) (hN : X.N.Nodup) (hi : PI X tg iter wi) (ok : BlkOk X.N X.env.scope scope own)
    (hg : ∀ (s : Shared) (H : Hp) (C : Addr) (cl : List (Str × Addr)) (fp : List Addr), PG (X.blk s H scope (compEnvC scope cl C X.env) fp) tg g)
    (hk : ∀ (s : Shared) (H : Hp) (C : Addr) (cl : List (Str × Addr)) (fp : List Addr), PE (X.blk s H scope (compEnvC scope cl C X.env) fp) kx tk)
    (hv : ∀ (s : Shared) (H : Hp) (C : Addr) (cl : List (Str × Addr)) (fp : List Addr), PE (X.blk s H scope (compEnvC scope cl C X.env) fp) vx tv) (hs : ∀ x, foldedSetIterable iter X.env x = pure x := by intro _; rfl) :
    PE X (.DictComp kx vx [⟨tg, iter, [], 0⟩] scope pos) (tDct wi g tk tv (own.map (·.2))) := by
  refine ⟨fun pins s σ H Q I h => ?_⟩
  rw [arm_eval_DictComp]
  have closes : ∀ y ∈ scope.names, y.2 = .free → ∃ c, X.env.cells.lookup y.1 = some c := fun y hy e => (ok.free y hy e).elim (fun k => I.ok.has _ (.inl k)) fun k => I.ok.has _ (.inr k)
  refine wpAny_comprehension_free (use := none) rfl hs (closure_ok closes) ok.kind (fun y hy e => by rw [ok.uniq y hy, e]) (thn (hi.run pins s σ H _ I h) fun xv s1 hx => thn hx fun itv s2 h2 => ?_)
  obtain ⟨it, fp, tn, J, H2, e, I2, T, st2, f2, q⟩ := h2
  subst e
  refine wpAny_newObj_type (newEnv_comp ?_)
  generalize eD : s2.heap.objs.size = D
  have freshD : H2 D = none := I2.hok.fresh (Nat.le_of_eq eD)
  obtain ⟨W, ⟨m0, w0⟩, turn⟩ := q D freshD
  -- the dict
  generalize e3 : ({ s2 with heap := s2.heap.push { cls := .type "dict", data := .dict #[] } } : Shared) = s3
  have I3 : Inv X pins σ (upd H2 D (.dT [])) s3 := by
    rw [← e3]
    refine I2.laid (t' := s2.toks) (fun b o z => Heap.get?_push_of_some _ z) (Nat.le_of_eq eD) ?_
    rw [← eD]
    exact dt_empty s2.heap I2.big
  have hp3 : s3.heap = s2.heap.push { cls := .type "dict", data := .dict #[] } := by rw [← e3]
  have below : ∀ b ∈ fp, b < s2.heap.objs.size := fun b hb => let ⟨o, z, _⟩ := T.obj _ _ st2 b hb; Heap.lt_size z
  have f3 : ∀ b ∈ fp, FpOk X pins (upd H2 D (.dT [])) b ∧ b < s3.heap.objs.size := fun b hb => by
    have lt := below b hb
    have nb : b ≠ D := by rw [← eD]; exact Nat.ne_of_lt lt
    exact ⟨⟨by rw [upd_ne nb]; exact (f2 b hb).1, (f2 b hb).2⟩, by rw [hp3, Heap.size_push]; exact Nat.lt_succ_of_lt lt⟩
  have st3 : tn 0 s3.heap := T.keep _ _ _ st2 fun b _ o z => by rw [hp3]; exact Heap.get?_push_of_some _ z
  have I4 := block_start I3 ok hN f3
  generalize eB : compEnvC scope (cellsFrom (s3.heap.objs.size + 1) scope.names (cloFrom X.env.cells scope.names [])) s3.heap.objs.size X.env = ce at I4
  have bg := hg s3 (upd H2 D (.dT [])) s3.heap.objs.size (cellsFrom (s3.heap.objs.size + 1) scope.names (cloFrom X.env.cells scope.names [])) fp
  have bk := hk s3 (upd H2 D (.dT [])) s3.heap.objs.size (cellsFrom (s3.heap.objs.size + 1) scope.names (cloFrom X.env.cells scope.names [])) fp
  have bv := hv s3 (upd H2 D (.dT [])) s3.heap.objs.size (cellsFrom (s3.heap.objs.size + 1) scope.names (cloFrom X.env.cells scope.names [])) fp
  rw [eB] at bg bk bv
  have ceL : ce.locals = s3.heap.objs.size := by rw [← eB]; rfl
  have n3 : ∀ b ∈ fp, (upd H2 D (.dT [])) b = none := fun b hb => (f3 b hb).1.1
  generalize eH : upd H2 D (.dT []) = H3 at I3 I4 bg bk bv w0 n3 f3
  show codeAny _ _ (.compStart (.DictComp kx vx [⟨tg, iter, [], 0⟩] scope pos) 0 (.ref it) (.ref D) (compEnvC scope (cellsFrom (s3.heap.objs.size + 1) scope.names (cloFrom X.env.cells scope.names [])) s3.heap.objs.size X.env))
    (compPost (model X.prog X.w) X.A X.xe none (EP X pins σ Q) (.ref D) s3.heap.objs.size) { s3 with heap := pushCells (s3.heap.push { cls := .type "dict", data := .dict #[] }) scope.names }
  rw [eB]
  generalize e4 : ({ s3 with heap := pushCells (s3.heap.push { cls := .type "dict", data := .dict #[] }) scope.names } : Shared) = s4 at I4 ⊢
  have st4 : tn 0 s4.heap := T.keep _ _ _ st3 fun b _ o z => by rw [← e4]; exact pushCells_keeps _ _ _ _ (Heap.get?_push_of_some _ z)
  have fpB : ∀ {σ' : L2.St} {H' : Hp} {s' : Shared}, Inv (X.blk s3 H3 scope ce fp) [] σ' H' s' → (∀ b ∈ fp, H' b = none) → ∀ b ∈ fp, FpOk (X.blk s3 H3 scope ce fp) [] H' b := fun {σ' H' s'} I' hn b hb =>
    ⟨hn b hb, (I'.ok.exf b hb).1, I'.ok.exfs b hb, .inl hb, fun x c z => (I'.ok.exf b hb).2 x c z, fun p hp => absurd (show p ∈ ([] : List (Addr × Obj)) ++ [] from hp) (by simp)⟩
  have walk : codeAny (model X.prog X.w) X.A (.compLoop (.DictComp kx vx [⟨tg, iter, [], 0⟩] scope pos) 0 (.ref it) (.ref D) ce) (compPost (model X.prog X.w) X.A X.xe none (EP X pins σ Q) (.ref D) s3.heap.objs.size) s4 := by
    refine compLoop_anyD (fun n s' => ∃ i H', Inv (X.blk s3 H3 scope ce fp) [] (wipe σ (own.map (·.2))) H' s' ∧ tn i s'.heap ∧ (∀ b ∈ fp, H' b = none) ∧ W i n H') ?_ m0 ⟨0, H3, I4, st4, n3, w0⟩
    rintro n s5 ⟨i, H5, I5, st5, n5, w5⟩
    rcases turn i n H5 w5 with ⟨stop, qq⟩ | ⟨go, Nx, hNx, step⟩
    · refine thnF (T.done (X.blk s3 H3 scope ce fp) rfl rfl rfl hc i [] s5 _ H5 (fun _ _ => False) I5 (fpB I5 n5) st5 stop) fun r s6 ⟨hr, I6⟩ => ?_
      subst hr
      have I7 : Inv X pins σ H5 s6 := I3.call' (ch := fp) I6.os I6.base I6.hok I6.bare fun b hb => ⟨(f3 b hb).1.2.2.2.1, (f3 b hb).1.2.1, (f3 b hb).1.2.2.2.2.1, (f3 b hb).1.2.2.2.2.2⟩
      have nC : H5 s3.heap.objs.size = none := by
        have z : H5 ce.locals = none := I6.free
        rw [ceL] at z
        exact z
      obtain ⟨m, hn, _⟩ := I6.loc
      have hn : s6.heap.Ns ce.locals m := hn
      rw [ceL] at hn
      obtain ⟨f0, f1, f2, f3', f4, f5⟩ := I3.fpOk (Nat.le_refl _) nC
      exact ⟨m, hn, fun h'' sb => ⟨.ref D, H5, I7.turned (t' := s6.toks) (fun b o hb z => (sb.2 b hb).trans z) f0 f1 f3' f4 f5, rfl, qq⟩⟩
    · refine thnF (T.item (X.blk s3 H3 scope ce fp) rfl rfl rfl hc i [] s5 _ H5 (fun _ _ => False) I5 (fpB I5 n5) st5 go) fun r s6 ⟨u, hr, h6⟩ => ?_
      subst hr
      refine thnF h6 fun _ s7 ⟨x, H7, I7, r7, y7, st7, n7⟩ => ?_
      have Ip := I7.pinned (fpB I7 n7) (T.obj _ _ st7)
      refine thnF (bg.run _ s7 _ H7 x u _ Ip r7 (step x H7 y7)) fun _ s8 ⟨σ8, H8, I8, hw8, q8⟩ => ?_
      refine thnF (wpAny_tests_nil (A := X.A) (E := fun _ _ => False) (Q := fun b s' => b = true ∧ s' = s8) ⟨rfl, rfl⟩) fun b s9 hb => ?_
      obtain ⟨rfl, rfl⟩ := hb
      simp only [if_true]
      refine thnF (bk.run _ s9 σ8 H8 _ I8 q8) fun z s10 ⟨yk, H10, I10, r10, q10⟩ => ?_
      refine thnF (bv.run _ s10 σ8 H10 _ I10 q10) fun z2 s11 ⟨yv, H11, I11, r11, kvs, k, b, ek, hb, hD11, hz11, nx⟩ => ?_
      subst ek
      cases r10
      refine put_dT (X := X.blk s3 H3 scope ce fp) hu I11 hD11 hb hz11 r11 fun s12 I12 => ?_
      obtain ⟨m', hm, w'⟩ := hNx _ nx
      have kept : ∀ b ∈ fp, ∀ o, s7.heap.get? b = some o → s12.heap.get? b = some o ∧ _ = none := fun b hb o z =>
        let y := I12.pin (b, o) (List.mem_append_right _ (List.mem_append_right _ (mem_pinsAt hb z)))
        ⟨y.1, y.2.1⟩
      have hl : (wipe σ (own.map (·.2))).length = σ8.length := by rw [← hw8, wipe_length]
      refine ⟨m', hm, i + 1, _, (I12.unpinned (pins := [])).weak hl (fun j v z => ?_), T.keep _ _ _ st7 fun b hb o z => (kept b hb o z).1, fun b hb => ?_, w'⟩
      · rw [← hw8] at z
        exact (wipe_some z).1
      · obtain ⟨o, z, _⟩ := T.obj _ _ st7 b hb
        exact (kept b hb o z).2
  exact codeAny_compStart_dict walk (T.self X.A 0 _ _ _ st4 walk)
end
end K71

set_option Elab.async false
set_option linter.all false
set_option maxRecDepth 100000
set_option maxHeartbeats 2000000
namespace K71
open PySem PySem.Spec L2 PyProof.Rows

/-! ### list({key: True for ..}), the keys tuples of ints -/
def insT (acc : List (List Int)) (ns : List Int) : List (List Int) := if ns ∈ acc then acc else acc ++ [ns]
def keysD (t : Tg) (tk : DE) : List PyData → Dn → List (List Int) → Option (List (List Int) × Bag)
  | [], δ, acc => some (acc, δ.bag)
  | d :: ds, δ, acc => match putTg t d δ with
    | none => none
    | some δ1 => match tk δ1 with
      | some (.tuple es, b) => match asInts es with
        | some ns => keysD t tk ds (δ.wb b) (insT acc ns)
        | none => none
      | _ => none
def dKeys (di : DA) (t : Tg) (tk : DE) (vs : List Nat) : DE := fun δ => match di δ with
  | none => none
  | some (ds, b) => if ds.length ≤ sizeLine ∧ free vs δ = true ∧ within t.slots vs = true then
      match keysD t tk ds { sl := wipeD δ.sl vs, bag := b, bk := δ.bk } [] with
      | none => none
      | some (nss, b') => some (.list (nss.map tupI), b')
    else none
def dtV (nss : List (List Int)) : List (List Key × V) := nss.map fun ns => (ns.map Sum.inl, V.bl true)
theorem inl_inj : ∀ {a b : List Int}, a.map (Sum.inl : Int → Key) = b.map Sum.inl → a = b
  | [], [], _ => rfl
  | [], _ :: _, h => by simp at h
  | _ :: _, [], h => by simp at h
  | x :: xs, y :: ys, h => by
    rw [List.map_cons, List.map_cons] at h
    injection h with h1 h2
    rw [Sum.inl.inj h1, inl_inj h2]
theorem dtV_any (nss : List (List Int)) (ns : List Int) : ((dtV nss).any fun kv => decide (kv.1 = ns.map Sum.inl)) = decide (ns ∈ nss) := by
  induction nss with
  | nil => rfl
  | cons a r ih =>
    show (decide (a.map Sum.inl = ns.map (Sum.inl : Int → Key)) || (dtV r).any fun kv => decide (kv.1 = ns.map Sum.inl)) = _
    rw [ih]
    by_cases h : a = ns
    · subst h; simp
    · have h1 : ¬ a.map Sum.inl = ns.map (Sum.inl : Int → Key) := fun z => h (inl_inj z)
      have h2 : ¬ ns = a := fun z => h z.symm
      simp [h1, h2]
theorem dtV_put (nss : List (List Int)) (ns : List Int) : putK (dtV nss) (ns.map Sum.inl) (V.bl true) = dtV (insT nss ns) := by
  unfold putK insT
  rw [dtV_any]
  by_cases h : ns ∈ nss
  · rw [if_pos (decide_eq_true h), if_pos h]
    unfold dtV
    rw [List.map_map]
    apply List.map_congr_left
    intro a _
    by_cases e : a.map Sum.inl = ns.map (Sum.inl : Int → Key)
    · simp [e]
    · simp only [Function.comp, if_neg e]
  · rw [decide_eq_false h, if_neg (by decide), if_neg h]
    unfold dtV
    rw [List.map_append]
    rfl
theorem dtV_length (nss : List (List Int)) : (dtV nss).length = nss.length := by unfold dtV; rw [List.length_map]
theorem insT_length (acc : List (List Int)) (ns : List Int) : (insT acc ns).length ≤ acc.length + 1 := by
  unfold insT
  split
  · exact Nat.le_succ _
  · rw [List.length_append]; exact Nat.le_refl _
theorem keyV_ints (ns : List Int) : (ns.map (Sum.inl : Int → Key)).map kV = ns.map V.int := by
  rw [List.map_map]
  rfl
/-- the keys' own tuples are frozen -/
theorem freeze_keys : ∀ (nss : List (List Int)) (bs : List Addr) {C : Ctx} {F H : Hp} {σ : L2.St} {δ : Dn}, EnvOk C F H σ δ → IsKeys H (dtV nss) bs → ∃ F', EnvOk C F' H σ δ ∧ Same F F' ∧ DqL F' (nss.map tupI) (bs.map V.ref)
  | [], [], _, F, _, _, _, E, .nil => ⟨F, E, Same.refl F, .nil⟩
  | ns :: nss, b :: bs, C, F, H, σ, δ, E, .cons h t => by
    have h' : H b = some (.tup (ns.map V.int)) := by
      have q : H b = some (.tup ((ns.map (Sum.inl : Int → Key)).map kV)) := h
      rw [keyV_ints] at q
      exact q
    obtain ⟨E1, s1⟩ := E.tup h'
    obtain ⟨F2, E2, s2, q⟩ := freeze_keys nss bs E1 t
    exact ⟨F2, E2, s1.trans s2, .cons (.tup b (s2 _ _ upd_same) (DqL.ints ns)) q⟩
theorem lift_keys (K : PySem.W.Frag) {di : DA} {t : Tg} {tk : DE} {vs : List Nat} {σ : L2.St} {H : Hp} {Q : VK} (h : lift (dKeys di t tk vs) σ H Q) :
    tCB (fun xs H Q => ∃ d kvs, xs = [V.ref d] ∧ Rd H d (.dT kvs) ∧ ∀ p bs, H p = none → IsKeys H kvs bs → Q (.ref p) (upd H p (.lst (bs.map V.ref)))) (tCons (tDct (liftI di) (gOf K t) (lift tk) (tC (.bl true)) vs) tNil) σ H Q := by
  obtain ⟨C, F, δ, d, b', E, e, k⟩ := h
  unfold dKeys at e
  split at e
  · cases e
  rename_i ds b e1
  split at e
  case isFalse => cases e
  rename_i hc
  obtain ⟨hlen, hfree, hwi⟩ := hc
  split at e
  · cases e
  rename_i nss bE e2
  obtain ⟨rfl, rfl⟩ : PyData.list (nss.map tupI) = d ∧ bE = b' := ⟨(Prod.mk.inj (Option.some.inj e)).1, (Prod.mk.inj (Option.some.inj e)).2⟩
  clear e
  refine ⟨C, F, δ, ds, b, E, e1, fun F1 H1 J E1 s1 Y => fun D hD => ?_⟩
  have hwm := within_mem hwi
  generalize hδw : ({ sl := wipeD δ.sl vs, bag := b, bk := δ.bk } : Dn) = δw at e2
  have Ew : EnvOk (C.here F1 H1 σ (δ.wb b)) F1 H1 (wipe σ vs) δw := by
    rw [← hδw]
    exact EnvOk.wipe vs E1.here (free_off hfree)
  have ow : ∀ {i : Nat} {e : En}, δw.sl[i]? = some (some e) → i ∉ vs ∧ δ.sl[i]? = some (some e) := fun {i e} q => by
    rw [← hδw] at q
    exact wipeD_own q
  have aw : ∀ bi, Apart (C.here F1 H1 σ (δ.wb b)) (wipe σ vs) (δw.wb bi) D := fun bi => ⟨(Ew.apart hD).1, (Ew.apart hD).2⟩
  have c0 : (C.here F1 H1 σ (δ.wb b)).M D ∨ (C.here F1 H1 σ (δ.wb b)).H0 D = none := .inr hD
  have hF1 : F1 D = none := E1.sub.free hD
  refine ⟨fun i m H' => m = ds.length - i ∧ i ≤ ds.length ∧ ∃ F' bi acc, EnvOk (C.here F1 H1 σ (δ.wb b)) F' H' (wipe σ vs) (δw.wb bi) ∧ H' D = some (.dT (dtV acc)) ∧ F' D = none ∧ acc.length ≤ i ∧ keysD t tk (ds.drop i) (δw.wb bi) acc = some (nss, bE), ⟨_, rfl, Nat.zero_le _, F1, b, [], ?_, upd_same, hF1, Nat.le_refl _, ?_⟩, ?_⟩
  · have := Ew.newH (.dT []) hD
    rw [← hδw] at this ⊢
    exact this
  · rw [← hδw] at e2 ⊢
    simpa using e2
  rintro i m H' ⟨rfl, hi, F', bi, acc, E', hacc, hF', hal, el⟩
  by_cases hlt : i < ds.length
  · have Eh := E'.here
    have nM : ¬ ((C.here F1 H1 σ (δ.wb b)).here F' H' (wipe σ vs) (δw.wb bi)).M D := (aw bi).notM
    refine .inr ⟨Y.go i H' hlt (E'.sF.trans E'.sub), fun H2 => ∃ F2 bi acc, EnvOk (C.here F1 H1 σ (δ.wb b)) F2 H2 (wipe σ vs) (δw.wb bi) ∧ H2 D = some (.dT (dtV acc)) ∧ F2 D = none ∧ acc.length ≤ i + 1 ∧ keysD t tk (ds.drop (i + 1)) (δw.wb bi) acc = some (nss, bE), fun H2 q => ⟨_, by omega, rfl, hlt, q⟩, fun x H2 y => ?_⟩
    obtain ⟨F2, d, E2, s2, ed, qd⟩ := Y.yld i H' H2 x _ F' (wipe σ vs) (δw.wb bi) Eh E'.sF y hlt
    rw [List.drop_eq_getElem_cons hlt] at el
    have ed' : ds[i] = d := by
      rw [List.getElem?_eq_getElem hlt] at ed
      exact Option.some.inj ed
    rw [ed'] at el
    unfold keysD at el
    split at el
    · cases el
    rename_i δ1 ep
    refine g_put K E2 qd ep fun σ3 E3 ag => ⟨?_, ?_⟩
    · rw [ag.wipe hwm]
      apply List.ext_getElem?
      intro j
      rw [wipe_get, wipe_get]
      by_cases z : j ∈ vs
      · rw [if_pos z, if_pos z, Option.map_map]
        rfl
      · rw [if_neg z, if_neg z]
    have own3 : ∀ (i : Nat) (e : En), (δw.wb bi).sl[i]? = some (some e) → isOwn e = true → δ1.sl[i]? = some (some e) ∧ σ3[i]? = (wipe σ vs)[i]? := fun j e q1 q2 => by
      have nj : j ∉ t.slots := fun z => (ow q1).1 (hwm j z)
      exact ⟨by rw [putTg_get ep nj]; exact q1, ag.get j nj⟩
    split at el
    · rename_i es b5 ee
      split at el
      · rename_i ns en
        have en := asInts_some en
        subst en
        refine ⟨_, F2, δ1, _, b5, E3, ee, fun F5 H5 v5 E5 s5 q5 => ?_⟩
        have R := E'.restore E5 own3
        have h5 := E5.sH D _ nM hacc
        have f5 := E5.nw D _ nM hacc (fun _ z => nomatch z) hF'
        cases q5 with
        | tup q hq tq =>
          have eq1 := tq.ints_of
          subst eq1
          refine ⟨dtV acc, ns.map Sum.inl, q, rfl, by rw [keyV_ints]; exact E5.sub _ _ hq, h5, by rw [dtV_length]; omega, F5, b5, insT acc ns, R.poke _ f5 (aw b5) c0, ?_, f5, Nat.le_trans (insT_length _ _) (by omega), el⟩
          rw [upd_same, dtV_put]
      · cases el
    · cases el
  · have ei : i = ds.length := by omega
    subst ei
    rw [List.drop_length] at el
    obtain ⟨hr, hb⟩ : acc = nss ∧ bi = bE := ⟨(Prod.mk.inj (Option.some.inj el)).1, (Prod.mk.inj (Option.some.inj el)).2⟩
    subst hr hb
    refine .inl ⟨Y.stop H' (E'.sF.trans E'.sub), ?_⟩
    have R : EnvOk C F' H' σ (δ.wb bi) := E1.restore E' fun j e q1 q2 => by
      have nj := free_own hfree (i := j) q1 q2
      refine ⟨?_, by rw [wipe_get, if_neg nj]⟩
      show δw.sl[j]? = _
      rw [← hδw]
      show (wipeD δ.sl vs)[j]? = _
      rw [wipeD_get, if_neg nj]
      exact q1
    refine ⟨D, _, rfl, .inl hacc, fun p bs hp hk => ?_⟩
    obtain ⟨F2, E2, s2, q2⟩ := freeze_keys acc bs R hk
    obtain ⟨E3, s3⟩ := E2.new (.lst (bs.map V.ref)) hp
    exact k _ _ _ E3 (((s1.trans E'.sF).trans s2).trans s3) (.lst p upd_same (q2.mono s3))
section
variable {X : Cx}
theorem q_keys {kx tg iter : Expr} {scope : Scope} {own : List (Str × Nat)} {j : Nat} {p p2 pos cpos : Pos} {di : DA} {t : Tg} {tk : DE} (hu : X.A.units < cLine) (hc : X.calm = true) (hN : X.N.Nodup) (hgl : Gl X "list") (hml : X.mg "list" = none) (hi : PI X tg iter (liftI di)) (ok : BlkOk X.N X.env.scope scope own)
    (hg : ∀ (s : Shared) (H : Hp) (C : Addr) (cl : List (Str × Addr)) (fp : List Addr), PG (X.blk s H scope (compEnvC scope cl C X.env) fp) tg (gOf X.K t))
    (hk : ∀ (s : Shared) (H : Hp) (C : Addr) (cl : List (Str × Addr)) (fp : List Addr), PE (X.blk s H scope (compEnvC scope cl C X.env) fp) kx (lift tk)) (hs : ∀ x, foldedSetIterable iter X.env x = pure x := by intro _; rfl) :
    PE X (.Call (.Name "list" p) [.DictComp kx (.Constant (.bool true) j p2) [⟨tg, iter, [], 0⟩] scope pos] [] cpos) (lift (dKeys di t tk (own.map (·.2)))) :=
  pe_le (pe_callTy (call_list_dT hc) hgl hml (by decide +kernel) (pa_cons (pe_dct hu hc hN hi ok hg hk (fun _ _ _ _ _ => pe_bl) hs) pa_nil)) fun _ _ _ => lift_keys X.K

/-! ### sorted of such a list -/
def asTups : List PyData → Option (List (List Int))
  | [] => some []
  | .tuple es :: ds => match asInts es, asTups ds with
    | some (n :: ns), some r => some ((n :: ns) :: r)
    | _, _ => none
  | _ :: _ => none
theorem asTups_some : ∀ {ds : List PyData} {r : List (List Int)}, asTups ds = some r → ds = r.map tupI ∧ ∀ ns ∈ r, ns ≠ []
  | [], _, h => by cases h; exact ⟨rfl, fun _ h => nomatch h⟩
  | .tuple es :: ds, _, h => by
    unfold asTups at h
    split at h
    · rename_i n ns r h1 h2
      cases h
      obtain ⟨a, b⟩ := asTups_some h2
      have c := asInts_some h1
      subst a c
      refine ⟨rfl, fun ms hm => ?_⟩
      rcases List.mem_cons.mp hm with z | z
      · rw [z]; exact fun z => nomatch z
      · exact b ms z
    · cases h
  | .none :: _, _, h => nomatch h
  | .bool _ :: _, _, h => nomatch h
  | .int _ :: _, _, h => nomatch h
  | .str _ :: _, _, h => nomatch h
  | .list _ :: _, _, h => nomatch h
  | .dict _ :: _, _, h => nomatch h
def gSortT : List PyData → Option PyData
  | [.list ds] => if ds.length ≤ sizeLine then (asTups ds).map fun r => .list ((sortT r).map tupI) else none
  | _ => none
theorem tups_in {F H : Hp} (s : Same F H) : ∀ {r : List (List Int)} {xs : List V}, DqL F (r.map tupI) xs → (∀ ns ∈ r, ns ≠ []) → Paired (fun x ns => ∃ t, x = V.ref t ∧ H t = some (.tup (ns.map V.int)) ∧ ns ≠ []) xs r
  | [], _, .nil, _ => .nil
  | ns :: r, _, .cons h t, hn => by
    refine .cons ?_ (tups_in s t fun ms hm => hn ms (List.mem_cons_of_mem _ hm))
    cases h with
    | tup q hq tq =>
      have e := tq.ints_of
      subst e
      exact ⟨q, rfl, s _ _ hq, hn ns List.mem_cons_self⟩
theorem tups_out : ∀ {r : List (List Int)} {xs : List V} {C : Ctx} {F H : Hp} {σ : L2.St} {δ : Dn}, EnvOk C F H σ δ → Paired (fun x ns => ∃ t, x = V.ref t ∧ H t = some (.tup (ns.map V.int)) ∧ ns ≠ []) xs r → ∃ F', EnvOk C F' H σ δ ∧ Same F F' ∧ DqL F' (r.map tupI) xs
  | [], _, _, F, _, _, _, E, .nil => ⟨F, E, Same.refl F, .nil⟩
  | ns :: r, _, C, F, H, σ, δ, E, .cons h t => by
    obtain ⟨b, rfl, h1, _⟩ := h
    obtain ⟨E1, s1⟩ := E.tup h1
    obtain ⟨F2, E2, s2, q⟩ := tups_out E1 t
    exact ⟨F2, E2, s1.trans s2, .cons (.tup b (s2 _ _ upd_same) (DqL.ints ns)) q⟩
theorem c_sortT : CallD gSortT rSortedT := by
  intro C F H σ δ xs ds dz Q E q e k
  unfold gSortT at e
  split at e
  · split at e
    · rename_i hl
      obtain ⟨r, h1, h2⟩ := Option.map_eq_some_iff.mp e
      subst h2
      obtain ⟨a, b⟩ := asTups_some h1
      subst a
      cases q with
      | cons q1 q2 =>
        cases q2
        cases q1 with
        | lst p hp tp =>
          refine ⟨p, _, r, rfl, E.sub _ _ hp, tups_in E.sub tp b, by rw [← tp.length]; exact hl, fun ys p' hy hp' => ?_⟩
          obtain ⟨F2, E2, s2, q2⟩ := tups_out E hy
          obtain ⟨E3, s3⟩ := E2.new (.lst ys) hp'
          exact k _ _ _ E3 (s2.trans s3) (.lst p' upd_same (q2.mono s3))
    · cases e
  · cases e

/-! ### x = {k: True for k in t}, the keys ints -/
def okdD (t : Tg) (tk : DE) : List PyData → Dn → List Int → Option (List Int × Bag)
  | [], δ, acc => some (acc, δ.bag)
  | d :: ds, δ, acc => match putTg t d δ with
    | none => none
    | some δ1 => match tk δ1 with
      | some (.int n, b) => okdD t tk ds (δ.wb b) (insK acc n)
      | _ => none
def sOkdOf (i : Nat) (di : DA) (t : Tg) (tk : DE) (vs : List Nat) : DS := fun δ => match di δ with
  | none => none
  | some (ds, b) => if ds.length ≤ sizeLine ∧ free vs δ = true ∧ within t.slots vs = true ∧ offBag [i] δ.bk = true then
      match okdD t tk ds { sl := wipeD δ.sl vs, bag := b, bk := δ.bk } [] with
      | none => none
      | some (ks, b') => some (.nx { sl := δ.sl.set i (some (.okd ks)), bag := b', bk := δ.bk })
    else none
theorem insK_length (acc : List Int) (n : Int) : (insK acc n).length ≤ acc.length + 1 := by
  unfold insK
  split
  · exact Nat.le_succ _
  · rw [List.length_append]; exact Nat.le_refl _
/-- a new object of one's own that stood for a while -/
theorem EnvOk.ownNow {C : Ctx} {F H : Hp} {σ : L2.St} {δ : Dn} (E : EnvOk C F H σ δ) {i : Nat} {p : Addr} {e' : En} {o : HO} (hp : H p = some o) (hF : F p = none) (a : Apart C σ δ p) (h0 : C.M p ∨ C.H0 p = none) (hb : δ.bk ≠ some i) (h4 : isOwn e' = true) (ha : EnAt F H (some (some (.ref p))) e') :
    EnvOk C F H (σ.set i (some (.ref p))) { δ with sl := δ.sl.set i (some e') } := by
  have self : ∀ {j : Nat} {u : En}, (δ.sl.set i (some e'))[j]? = some (some u) → (j = i ∧ u = e' ∧ (σ.set i (some (V.ref p)))[j]? = some (some (.ref p))) ∨ (j ≠ i ∧ δ.sl[j]? = some (some u) ∧ (σ.set i (some (V.ref p)))[j]? = σ[j]?) := fun {j u} q => by
    by_cases z : j = i
    · subst z
      have hl : j < δ.sl.length := by
        have := (List.getElem?_eq_some_iff.mp q).1
        simpa using this
      rw [List.getElem?_set_self hl] at q
      cases q
      exact .inl ⟨rfl, rfl, List.getElem?_set_self (by rw [E.len]; exact hl)⟩
    · rw [List.getElem?_set_ne (fun y => z y.symm)] at q
      exact .inr ⟨z, q, List.getElem?_set_ne (fun y => z y.symm)⟩
  refine ⟨E.sub, E.sF, E.sH, E.nw, by rw [List.length_set, List.length_set]; exact E.len, fun j u q => ?_, fun j k u u' b q1 q2 o1 o2 s1 s2 => ?_, fun j u b q1 o1 s1 => ?_, E.bk, fun k b q => ?_⟩
  · rcases self q with ⟨rfl, rfl, s⟩ | ⟨z, q', s⟩
    · rw [s]; exact ha
    · rw [s]; exact E.at_ j u q'
  · rcases self q1 with ⟨rfl, rfl, s⟩ | ⟨z, q', s⟩
    · rcases self q2 with ⟨rfl, rfl, s'⟩ | ⟨z', q'', s'⟩
      · rfl
      · rw [s] at s1; cases s1
        rw [s'] at s2
        exact absurd s2 (a.1 k u' q'' o2)
    · rcases self q2 with ⟨rfl, rfl, s'⟩ | ⟨z', q'', s'⟩
      · rw [s'] at s2; cases s2
        rw [s] at s1
        exact absurd s1 (a.1 j u q' o1)
      · rw [s] at s1; rw [s'] at s2
        exact E.sep j k u u' b q' q'' o1 o2 s1 s2
  · rcases self q1 with ⟨rfl, rfl, s⟩ | ⟨z, q', s⟩
    · rw [s] at s1; cases s1
      exact ⟨h0, fun k b q z => by subst z; exact a.2 k q⟩
    · rw [s] at s1
      exact E.mine j u b q' o1 s1
  · obtain ⟨g1, g2, g3, g4, g5⟩ := E.bg k b q
    have n : i ≠ k := fun z => hb (by rw [← E.bk, q]; simp [z])
    exact ⟨by rw [List.getElem?_set_ne n]; exact g1, by rw [List.getElem?_set_ne n]; exact g2, g3, g4, g5⟩
theorem liftS_okdOf (K : PySem.W.Frag) {i0 : Nat} {di : DA} {t : Tg} {tk : DE} {vs : List Nat} {Ds : Ends} {σ : L2.St} {H : Hp} (h : liftS (sOkdOf i0 di t tk vs) Ds σ H) : tAsg (tDc (liftI di) (gOf K t) tYes (lift tk) (tC (.bl true)) vs) (gName i0) Ds σ H := by
  obtain ⟨C, F, δ, o, E, e, k⟩ := h
  unfold sOkdOf at e
  split at e
  · cases e
  rename_i ds b e1
  split at e
  case isFalse => cases e
  rename_i hc
  obtain ⟨hlen, hfree, hwi, hoff⟩ := hc
  split at e
  · cases e
  rename_i nss bE e2
  obtain rfl := Option.some.inj e
  clear e
  refine ⟨C, F, δ, ds, b, E, e1, fun F1 H1 J E1 s1 Y => fun D hD => ?_⟩
  have hwm := within_mem hwi
  generalize hδw : ({ sl := wipeD δ.sl vs, bag := b, bk := δ.bk } : Dn) = δw at e2
  have Ew : EnvOk (C.here F1 H1 σ (δ.wb b)) F1 H1 (wipe σ vs) δw := by
    rw [← hδw]
    exact EnvOk.wipe vs E1.here (free_off hfree)
  have ow : ∀ {i : Nat} {e : En}, δw.sl[i]? = some (some e) → i ∉ vs ∧ δ.sl[i]? = some (some e) := fun {i e} q => by
    rw [← hδw] at q
    exact wipeD_own q
  have aw : ∀ bi, Apart (C.here F1 H1 σ (δ.wb b)) (wipe σ vs) (δw.wb bi) D := fun bi => ⟨(Ew.apart hD).1, (Ew.apart hD).2⟩
  have c0 : (C.here F1 H1 σ (δ.wb b)).M D ∨ (C.here F1 H1 σ (δ.wb b)).H0 D = none := .inr hD
  have hF1 : F1 D = none := E1.sub.free hD
  refine ⟨fun i m H' => m = ds.length - i ∧ i ≤ ds.length ∧ ∃ F' bi acc, EnvOk (C.here F1 H1 σ (δ.wb b)) F' H' (wipe σ vs) (δw.wb bi) ∧ H' D = some (okV acc) ∧ F' D = none ∧ acc.length ≤ i ∧ okdD t tk (ds.drop i) (δw.wb bi) acc = some (nss, bE), ⟨_, rfl, Nat.zero_le _, F1, b, [], ?_, upd_same, hF1, Nat.le_refl _, ?_⟩, ?_⟩
  · have := Ew.newH (.dK []) hD
    rw [← hδw] at this ⊢
    exact this
  · rw [← hδw] at e2 ⊢
    simpa using e2
  rintro i m H' ⟨rfl, hi, F', bi, acc, E', hacc, hF', hal, el⟩
  by_cases hlt : i < ds.length
  · have Eh := E'.here
    have nM : ¬ ((C.here F1 H1 σ (δ.wb b)).here F' H' (wipe σ vs) (δw.wb bi)).M D := (aw bi).notM
    refine .inr ⟨Y.go i H' hlt (E'.sF.trans E'.sub), fun H2 => ∃ F2 bi acc, EnvOk (C.here F1 H1 σ (δ.wb b)) F2 H2 (wipe σ vs) (δw.wb bi) ∧ H2 D = some (okV acc) ∧ F2 D = none ∧ acc.length ≤ i + 1 ∧ okdD t tk (ds.drop (i + 1)) (δw.wb bi) acc = some (nss, bE), fun H2 q => ⟨_, by omega, rfl, hlt, q⟩, fun x H2 y => ?_⟩
    obtain ⟨F2, d, E2, s2, ed, qd⟩ := Y.yld i H' H2 x _ F' (wipe σ vs) (δw.wb bi) Eh E'.sF y hlt
    rw [List.drop_eq_getElem_cons hlt] at el
    have ed' : ds[i] = d := by
      rw [List.getElem?_eq_getElem hlt] at ed
      exact Option.some.inj ed
    rw [ed'] at el
    unfold okdD at el
    split at el
    · cases el
    rename_i δ1 ep
    refine g_put K E2 qd ep fun σ3 E3 ag => ⟨?_, ?_⟩
    · rw [ag.wipe hwm]
      apply List.ext_getElem?
      intro j
      rw [wipe_get, wipe_get]
      by_cases z : j ∈ vs
      · rw [if_pos z, if_pos z, Option.map_map]
        rfl
      · rw [if_neg z, if_neg z]
    have own3 : ∀ (i : Nat) (e : En), (δw.wb bi).sl[i]? = some (some e) → isOwn e = true → δ1.sl[i]? = some (some e) ∧ σ3[i]? = (wipe σ vs)[i]? := fun j e q1 q2 => by
      have nj : j ∉ t.slots := fun z => (ow q1).1 (hwm j z)
      exact ⟨by rw [putTg_get ep nj]; exact q1, ag.get j nj⟩
    simp only [tYes, if_true]
    split at el
    · rename_i n b5 ee
      refine ⟨_, F2, δ1, _, b5, E3, ee, fun F5 H5 v5 E5 s5 q5 => ?_⟩
      have R := E'.restore E5 own3
      have h5 := E5.sH D _ nM hacc
      have f5 := E5.nw D _ nM hacc (fun _ z => nomatch z) hF'
      cases q5
      refine ⟨_, Sum.inl n, rfl, h5, by rw [List.length_map]; omega, F5, b5, insK acc n, R.poke _ f5 (aw b5) c0, ?_, f5, Nat.le_trans (insK_length _ _) (by omega), el⟩
      rw [upd_same, okV_put]
      rfl
    · cases el
  · have ei : i = ds.length := by omega
    subst ei
    rw [List.drop_length] at el
    obtain ⟨hr, hb⟩ : acc = nss ∧ bi = bE := ⟨(Prod.mk.inj (Option.some.inj el)).1, (Prod.mk.inj (Option.some.inj el)).2⟩
    subst hr hb
    refine .inl ⟨Y.stop H' (E'.sF.trans E'.sub), ?_⟩
    have R : EnvOk C F' H' σ (δ.wb bi) := E1.restore E' fun j e q1 q2 => by
      have nj := free_own hfree (i := j) q1 q2
      refine ⟨?_, by rw [wipe_get, if_neg nj]⟩
      show δw.sl[j]? = _
      rw [← hδw]
      show (wipeD δ.sl vs)[j]? = _
      rw [wipeD_get, if_neg nj]
      exact q1
    have aD : Apart C σ (δ.wb bi) D := ⟨(E1.apart hD).1, (E1.apart hD).2⟩
    exact k F' H' _ (R.ownNow hacc hF' aD (E1.fresh0 hD) (off1 hoff) rfl ⟨D, rfl, hacc, hF'⟩)
theorem s_okdOf {x : Str} {kx tg iter : Expr} {scope : Scope} {own : List (Str × Nat)} {i j : Nat} {p2 pos pos' spos : Pos} {di : DA} {t : Tg} {tk : DE} (hc : X.calm = true) (hN : X.N.Nodup) (hy : X.N[i]? = some x) (hx : L2.Loc X.env.scope x) (hi : PI X tg iter (liftI di)) (ok : BlkOk X.N X.env.scope scope own)
    (hg : ∀ (s : Shared) (H : Hp) (C : Addr) (cl : List (Str × Addr)) (fp : List Addr), PG (X.blk s H scope (compEnvC scope cl C X.env) fp) tg (gOf X.K t))
    (hk : ∀ (s : Shared) (H : Hp) (C : Addr) (cl : List (Str × Addr)) (fp : List Addr), PE (X.blk s H scope (compEnvC scope cl C X.env) fp) kx (lift tk))
    (hs : swapsWith (.DictComp kx (.Constant (.bool true) j p2) [⟨tg, iter, [], 0⟩] scope pos) (some (.Name x pos')) spos.line X.env = pure false := by rfl)
    (hf : X.fn x = true ∨ X.env.scope.names.lookup x = some .local := by first | exact .inl rfl | exact .inr rfl | assumption) (hs2 : ∀ x, foldedSetIterable iter X.env x = pure x := by intro _; rfl) :
    PS X (.Assign [.Name x pos'] (.DictComp kx (.Constant (.bool true) j p2) [⟨tg, iter, [], 0⟩] scope pos) spos) (liftS (sOkdOf i di t tk (own.map (·.2)))) :=
  ps_le (ps_set hN hy hx (pe_dc hc hN hi ok hg (fun _ _ _ _ _ => pts_nil) hk (fun _ _ _ _ _ => pe_bl) hs2) hs hf) fun _ _ _ => liftS_okdOf X.K
end
end K71

set_option Elab.async false
set_option linter.all false
set_option maxRecDepth 100000
set_option maxHeartbeats 2000000
namespace K71
open PySem PySem.Spec L2 PyProof.Rows

/-! ### X(), an own error without arguments -/
section
variable {X : Cx}
theorem pmk_bare {C : Addr} {bmB : List Value} {B newId initId : String} {x : Str} {p pos : Pos} (Fx : ExcBaseFacts B newId initId bmB) (q : PySem.W.excIn X.K C bmB newId = true) (gC : X.mg x = some (.ref C)) (kC : PySem.W.keepIn X.K (.ref C) = true) (r : Raises X (.ref C)) (hg : Gl X x)
    (hdb : (x == ("__debug__" : Str)) = false := by decide) : PMk X (.Call (.Name x p) [] [] pos) (fun _ H Q => Q (.ref C) none H) := by
  intro pins s σ H Q I h
  refine wpAny_Call_Name_kw (ld_glob I hg gC ?_ hdb)
  refine PySem.W.callWith_K0 I.kIn kC ?_
  show wpAny _ _ (call (.ref C) []) _ _ _
  obtain ⟨bm, N, nm, qn, bs, hdct, sn, sub, ab, col, dd, k0, k1, k2, k3, k5, mN, hC, hN, hni, T⟩ := exc_obj I.kIn q
  refine wpAny_call_exc_subT Fx T hC hN hni (fun h' e hm => ?_) (Nat.zero_le _)
  exact mk_of I hm r h (I.hok.gone hm.new)

/-! ### a dict whose keys are names -/
def tieV : Option Int → V
  | none => .non
  | some i => .int i
def NIn (H : Hp) (k : List Int × Option Int) (b : Addr) : Prop := ∃ t, H b = some (.tup [.ref t, tieV k.2]) ∧ H t = some (.tup (k.1.map V.int))
theorem Dq.nin {F H : Hp} (s : Same F H) {k : List Int × Option Int} {b : Addr} (q : Dq F (nameD k) (.ref b)) : NIn H k b := by
  obtain ⟨ns, t⟩ := k
  cases q with
  | tup p h tq =>
    cases tq with
    | cons q1 q2 =>
      cases q2 with
      | cons q2 q3 =>
        cases q3
        cases q1 with
        | tup p' h' tq' =>
          have e := tq'.ints_of
          subst e
          refine ⟨p', ?_, s _ _ h'⟩
          rw [s _ _ h]
          cases t with
          | none => cases q2; rfl
          | some i => cases q2; rfl
theorem nin_of {F : Hp} {k : List Int × Option Int} {b t : Addr} (h : F b = some (.tup [.ref t, tieV k.2])) (h' : F t = some (.tup (k.1.map V.int))) : Dq F (nameD k) (.ref b) := by
  obtain ⟨ns, tt⟩ := k
  refine .tup b h (.cons (.tup t h' (DqL.ints ns)) (.cons ?_ .nil))
  cases tt with
  | none => exact .non
  | some i => exact .int i
theorem hashes_nums (w : World) : ∀ ns : List Int, NestedKey.hashes w (ns.map .num) = ns.map hashInt
  | [] => rfl
  | n :: ns => by
    show NestedKey.hashes w (.num n :: ns.map .num) = hashInt n :: ns.map hashInt
    rw [NestedKey.hashes, NestedKey.hash, hashes_nums w ns]
theorem hash_name (w : World) (k : List Int × Option Int) : (nameK k).hash w = nameH k := by
  obtain ⟨ns, t⟩ := k
  show (NestedKey.tup [.tup (ns.map .num), tieK t]).hash w = _
  rw [NestedKey.hash, NestedKey.hashes, NestedKey.hash, NestedKey.hashes, NestedKey.hashes, hashes_nums]
  cases t with
  | none => show reduceHash (Builtin.Tuple.tupleHashOf [_, NestedKey.hash w .none]) = _; rw [NestedKey.hash]; rfl
  | some i => show reduceHash (Builtin.Tuple.tupleHashOf [_, NestedKey.hash w (.num i)]) = _; rw [NestedKey.hash]; rfl
theorem num_inj : ∀ {a b : List Int}, a.map NestedKey.num = b.map NestedKey.num → a = b
  | [], [], _ => rfl
  | [], _ :: _, h => by simp at h
  | _ :: _, [], h => by simp at h
  | x :: xs, y :: ys, h => by
    rw [List.map_cons, List.map_cons] at h
    injection h with h1 h2
    rw [NestedKey.num.inj h1, num_inj h2]
theorem nameK_inj {a b : List Int × Option Int} (h : nameK a = nameK b) : a = b := by
  obtain ⟨ns, t⟩ := a
  obtain ⟨ms, u⟩ := b
  have h : [NestedKey.tup (ns.map .num), tieK t] = [NestedKey.tup (ms.map .num), tieK u] := NestedKey.tup.inj h
  injection h with h1 h2
  injection h2 with h2 _
  have e1 := num_inj (NestedKey.tup.inj h1)
  subst e1
  cases t with
  | none => cases u with
    | none => rfl
    | some j => exact nomatch (show NestedKey.none = NestedKey.num j from h2)
  | some i => cases u with
    | none => exact nomatch (show NestedKey.num i = NestedKey.none from h2)
    | some j => rw [NestedKey.num.inj (show NestedKey.num i = NestedKey.num j from h2)]
theorem depths_nums : ∀ ns : List Int, NestedKey.depthAll (ns.map .num) = 0
  | [] => rfl
  | n :: ns => by
    show NestedKey.depthAll (.num n :: ns.map .num) = 0
    rw [NestedKey.depthAll, NestedKey.depth, depths_nums ns]
    rfl
theorem depth_name (k : List Int × Option Int) : (nameK k).depth ≤ 8 := by
  obtain ⟨ns, t⟩ := k
  show (NestedKey.tup [.tup (ns.map .num), tieK t]).depth ≤ 8
  rw [NestedKey.depth, NestedKey.depthAll, NestedKey.depth, NestedKey.depthAll, NestedKey.depthAll, depths_nums]
  cases t with
  | none => show max (0 + 1) (max (NestedKey.depth .none) 0) + 1 ≤ 8; rw [NestedKey.depth]; decide
  | some i => show max (0 + 1) (max (NestedKey.depth (.num i)) 0) + 1 ≤ 8; rw [NestedKey.depth]; decide
theorem nested_nums {h : Heap} : ∀ {ns : List Int} {us : List Value}, Vals (ns.map V.int) us → NestedAll h (ns.map .num) us
  | [], _, .nil => .nil
  | n :: ns, _, .cons r t => by
    obtain ⟨tk, rfl⟩ := r
    exact .cons (.int n tk) (nested_nums t)
section
variable {P : Program} {w : World}
theorem is_name {H : Hp} {h : Heap} {k : List Int × Option Int} {b : Addr} (ok : HOk P w H h) (n : NIn H k b) : (nestedKind P w).is h (nameK k) b := by
  obtain ⟨ns, tt⟩ := k
  obtain ⟨t, hb, ht⟩ := n
  obtain ⟨_, its, r, o, g1, g2, m, g3⟩ := (show ObjOk P w H h b (.tup [.ref t, tieV tt]) from ok b _ hb)
  obtain ⟨_, its', r', o', g1', g2', m', g3'⟩ := (show ObjOk P w H h t (.tup (ns.map V.int)) from ok t _ ht)
  refine ⟨?_, depth_name (ns, tt)⟩
  show NestedIs h (.tup [.tup (ns.map .num), tieK tt]) (.ref b)
  refine .tup g1 g2 g3 ?_
  cases r with
  | cons r1 r2 =>
    cases r1
    cases r2 with
    | cons r2 r3 =>
      cases r3
      refine .cons (.tup g1' g2' g3' (by simpa using nested_nums r')) (.cons ?_ .nil)
      cases tt with
      | none => cases r2; exact .none
      | some i => obtain ⟨tk, rfl⟩ := r2; exact .int i tk
def trip (x : (List Int × Option Int) × Addr) : NestedKey × Addr × Value := (nameK x.1, x.2, .bool true)
theorem trip_entries (xs : List ((List Int × Option Int) × Addr)) : (xs.map fun x => (⟨nameH x.1, .ref x.2, .bool true⟩ : DictEntry)) = (xs.map trip).map (entryOfKey (nestedKind P w)) := by
  rw [List.map_map]
  apply List.map_congr_left
  intro x _
  show (⟨nameH x.1, .ref x.2, .bool true⟩ : DictEntry) = ⟨(nameK x.1).hash w, .ref x.2, .bool true⟩
  rw [hash_name]
theorem trip_keys (xs : List ((List Int × Option Int) × Addr)) (h : (xs.map (·.1)).Nodup) : ((xs.map trip).map (·.1)).Nodup := by
  have e : (xs.map trip).map (·.1) = (xs.map (·.1)).map nameK := by rw [List.map_map, List.map_map]; rfl
  rw [e]
  exact List.Pairwise.map nameK (fun a b n z => n (nameK_inj z)) h
theorem raw_dict {H : Hp} {h : Heap} {p : Addr} {xs : List ((List Int × Option Int) × Addr)} (ok : HOk P w H h) (hp : H p = some (rawO p xs)) (hk : ∀ x ∈ xs, NIn H x.1 x.2) (hn : (xs.map (·.1)).Nodup) : h.DictOfH (nestedKind P w) p (xs.map trip) := by
  obtain ⟨⟨o, es, ep, g1, g2, g3, g4⟩, _⟩ := (show ObjOk P w H h p (rawO p xs) from ok p _ hp)
  refine ⟨o, es, ep, g1, g2, g3, by rw [g4]; exact trip_entries xs, fun x hx => ?_, trip_keys xs hn⟩
  obtain ⟨y, hy, rfl⟩ := List.mem_map.mp hx
  exact is_name ok (hk y hy)
theorem raw_new {H' : Hp} {h : Heap} {p : Addr} {xs : List ((List Int × Option Int) × Addr)} (d : h.DictOfH (nestedKind P w) p (xs.map trip)) : ObjOk P w H' h p (rawO p xs) := by
  obtain ⟨o, es, ep, g1, g2, g3, g4, _⟩ := d
  refine ⟨⟨o, es, ep, g1, g2, g3, by rw [g4]; exact (trip_entries xs).symm⟩, ⟨o, g1⟩, fun h1 h2 ⟨o, es, ep, g1, g2, g3, g4⟩ k => ⟨o, es, ep, k o g1, g2, g3, g4⟩⟩
end
def putN (xs : List ((List Int × Option Int) × Addr)) (k : List Int × Option Int) (b : Addr) : List ((List Int × Option Int) × Addr) := if k ∈ xs.map (·.1) then xs else xs ++ [(k, b)]
theorem atKey_trip (xs : List ((List Int × Option Int) × Addr)) (k : List Int × Option Int) : (atKey (xs.map trip) (nameK k)).isSome = decide (k ∈ xs.map (·.1)) := by
  induction xs with
  | nil => rfl
  | cons x r ih =>
    by_cases h : x.1 = k
    · have h' : (trip x).1 = nameK k := congrArg nameK h
      simp [atKey, List.find?_cons, h', h]
    · have h' : ¬ (trip x).1 = nameK k := fun z => h (nameK_inj z)
      have h2 : ¬ k = x.1 := fun z => h z.symm
      have e : atKey (List.map trip (x :: r)) (nameK k) = atKey (List.map trip r) (nameK k) := by simp [atKey, List.find?_cons, h']
      rw [e, ih, List.map_cons]
      simp [h2]
theorem stored_trip (xs : List ((List Int × Option Int) × Addr)) (k : List Int × Option Int) (b : Addr) : storedH (xs.map trip) (nameK k) b (.bool true) = (putN xs k b).map trip := by
  unfold storedH putN
  rw [atKey_trip]
  by_cases h : k ∈ xs.map (·.1)
  · rw [if_pos (decide_eq_true h), if_pos h, List.map_map]
    apply List.map_congr_left
    intro x _
    show putAt (nameK k) (.bool true) (trip x) = trip x
    unfold putAt
    split <;> rfl
  · rw [decide_eq_false h, if_neg (by decide), if_neg h, List.map_append]
    rfl
theorem putN_length (xs : List ((List Int × Option Int) × Addr)) (k : List Int × Option Int) (b : Addr) : (putN xs k b).length ≤ xs.length + 1 := by
  unfold putN
  split
  · exact Nat.le_succ _
  · rw [List.length_append]; exact Nat.le_refl _
def rSetN : TSet := fun o i v H Q => ∃ (p b : Addr) (xs : List ((List Int × Option Int) × Addr)) (k : List Int × Option Int), o = .ref p ∧ i = .ref b ∧ v = .bl true ∧ H p = some (rawO p xs) ∧ NIn H k b ∧ (∀ x ∈ xs, NIn H x.1 x.2) ∧ (xs.map (·.1)).Nodup ∧ xs.length < sizeLine ∧ Q (upd H p (rawO p (putN xs k b)))
theorem set_names (hu : X.A.units + 64 < cLine) : PSet X rSetN := by
  intro pins s σ H o i v ov iv u Q I ro ri rv h
  obtain ⟨p, b, xs, k, rfl, rfl, rfl, hp, hb, hk, hn, hl, q⟩ := h
  cases ro
  cases ri
  cases rv
  have d := raw_dict I.hok hp hk hn
  refine wpAny_setItem_heap (hsz := by rw [List.length_map]; omega) (show X.A.units + 1 + 8 < cLine by omega) (is_name I.hok hb) d fun h' d' hs => ?_
  rw [stored_trip] at d'
  have ho : ∃ q, h'.get? p = some q := let ⟨o, _, _, z, _⟩ := d'; ⟨o, z⟩
  exact ⟨_, d_write I (by rw [hp]; exact True.intro) hs ho (raw_new d'), q⟩
def tDNewN : TE := fun _ H Q => ∀ p, H p = none → (p == sysModules) = false → Q (.ref p) (upd H p (rawO p []))
theorem pe_newN {pos : Pos} : PE X (.Dict [] [] pos) tDNewN := ⟨fun pins s σ H Q I h => by
  have big := I.big
  refine wpAny_Dict_empty ⟨.ref s.heap.objs.size, _, I.laid (a := s.heap.objs.size) (o := rawO s.heap.objs.size []) (t' := s.toks) (fun _ _ q => Heap.get?_push_of_some _ q) (Nat.le_refl _) ?_, rfl, h _ (I.hok.fresh (Nat.le_refl _)) (beq_eq_false_iff_ne.mpr (Nat.ne_of_gt big))⟩
  refine ⟨⟨_, #[], 0, Heap.get?_push_size _ rfl, ⟨rfl, rfl, rfl⟩, rfl, rfl⟩, ⟨_, Heap.get?_push_size _ rfl⟩, fun h1 h2 ⟨o, es, ep, g1, g2, g3, g4⟩ k => ⟨o, es, ep, k o g1, g2, g3, g4⟩⟩⟩
def rLenN : List V → Hp → VK → Prop := fun vs H Q => ∃ (p : Addr) (xs : List ((List Int × Option Int) × Addr)), vs = [.ref p] ∧ H p = some (rawO p xs) ∧ (∀ x ∈ xs, NIn H x.1 x.2) ∧ (xs.map (·.1)).Nodup ∧ (p == sysModules) = false ∧ xs.length ≤ sizeLine ∧ Q (.int xs.length) H
theorem call_lenN : CallR X (.builtin "len") rLenN := by
  intro pins s σ H vs us Q I r h
  obtain ⟨p, xs, rfl, hp, hk, hn, hs, hl, q⟩ := h
  rw [Vals.ref1 r]
  have d := raw_dict I.hok hp hk hn
  have dk : s.heap.DictKeyed (nestedKind X.prog X.w) p (pairsH (xs.map trip)) := ⟨_, d, rfl⟩
  have el : (pairsH (xs.map trip)).length = xs.length := by rw [pairsH_length, List.length_map]
  have hz := sizeLine_eq
  refine PyProof.Rows.call_len_slot (n := (pairsH (xs.map trip)).length) dk.typeIs F.slot_dict_len (fun Q' hq => len_keyed hs dk hq) (by omega) (by rw [el]; omega) ?_
  rw [el]
  exact ⟨.int xs.length, H, I.tok _, ⟨_, rfl⟩, q⟩

/-! the same over data -/
def asName : PyData → Option (List Int × Option Int)
  | .tuple [.tuple es, .none] => (asInts es).map fun ns => (ns, none)
  | .tuple [.tuple es, .int i] => (asInts es).map fun ns => (ns, some i)
  | _ => none
theorem asName_some {d : PyData} {k : List Int × Option Int} (h : asName d = some k) : d = nameD k := by
  unfold asName at h
  split at h
  · obtain ⟨ns, h1, rfl⟩ := Option.map_eq_some_iff.mp h
    rw [asInts_some h1]
    rfl
  · obtain ⟨ns, h1, rfl⟩ := Option.map_eq_some_iff.mp h
    rw [asInts_some h1]
    rfl
  · cases h
theorem asName_name (k : List Int × Option Int) : asName (nameD k) = some k := by
  obtain ⟨ns, t⟩ := k
  cases t with
  | none => show (asInts (ns.map .int)).map _ = _; rw [asInts_map]; rfl
  | some i => show (asInts (ns.map .int)).map _ = _; rw [asInts_map]; rfl
def insN (ks : List (List Int × Option Int)) (k : List Int × Option Int) : List (List Int × Option Int) := if k ∈ ks then ks else ks ++ [k]
theorem putN_keys (xs : List ((List Int × Option Int) × Addr)) (k : List Int × Option Int) (b : Addr) : (putN xs k b).map (·.1) = insN (xs.map (·.1)) k := by
  unfold putN insN
  by_cases h : k ∈ xs.map (·.1)
  · rw [if_pos h, if_pos h]
  · rw [if_neg h, if_neg h, List.map_append]
    rfl
theorem insN_nodup {ks : List (List Int × Option Int)} {k : List Int × Option Int} (h : ks.Nodup) : (insN ks k).Nodup := by
  unfold insN
  split
  · exact h
  · rename_i hn
    exact List.nodup_append.mpr ⟨h, List.pairwise_singleton _ _, fun a ha b hb e => by
      rw [List.mem_singleton.mp hb] at e
      exact hn (by rw [← e]; exact ha)⟩
def slOkn (i : Nat) (δ : Dn) : Option (List (List Int × Option Int)) := match δ.sl[i]? with
  | some (some (.okn ds)) => some ds
  | _ => none
theorem slOkn_some {i : Nat} {δ : Dn} {ds : List (List Int × Option Int)} (h : slOkn i δ = some ds) : δ.sl[i]? = some (some (.okn ds)) := by
  unfold slOkn at h
  split at h <;> cases h
  assumption
def sNewOkn (i : Nat) : DS := fun δ => if offBag [i] δ.bk = true then some (.nx { δ with sl := δ.sl.set i (some (.okn [])) }) else none
theorem liftS_newOkn {i : Nat} {D : Ends} {σ : L2.St} {H : Hp} (h : liftS (sNewOkn i) D σ H) : tAsg tDNewN (gName i) D σ H := by
  obtain ⟨C, F, δ, o, E, e, k⟩ := h
  unfold sNewOkn at e
  split at e
  · rename_i hb
    cases e
    intro p hp hs
    exact k F _ _ (E.newOwn hp (off1 hb) rfl ⟨p, [], rfl, upd_same, E.sub.free hp, rfl, List.nodup_nil, hs, fun _ h => nomatch h⟩)
  · cases e
theorem s_newOkn {x : Str} {i : Nat} {pos p pos' : Pos} (hN : X.N.Nodup) (hi : X.N[i]? = some x) (hx : L2.Loc X.env.scope x) (hs : swapsWith (.Dict [] [] p) (some (.Name x pos')) pos.line X.env = pure false := by rfl)
    (hf : X.fn x = true ∨ X.env.scope.names.lookup x = some .local := by first | exact .inl rfl | exact .inr rfl | assumption) : PS X (.Assign [.Name x pos'] (.Dict [] [] p) pos) (liftS (sNewOkn i)) := ps_le (ps_set hN hi hx pe_newN hs hf) fun _ _ _ => liftS_newOkn
def sPutOkn (i : Nat) (a : DE) : DS := fun δ => match a δ with
  | some (d, b) => match asName d, slOkn i δ with
    | some k, some ks => if ks.length < sizeLine then some (.nx { sl := δ.sl.set i (some (.okn (insN ks k))), bag := b, bk := δ.bk }) else none
    | _, _ => none
  | _ => none
theorem liftS_putOkn {i : Nat} {a : DE} {D : Ends} {σ : L2.St} {H : Hp} (h : liftS (sPutOkn i a) D σ H) : tAsg (tC (.bl true)) (L2.gSub (tVar i) (lift a) rSetN) D σ H := by
  obtain ⟨C, F, δ, o, E, e, kk⟩ := h
  unfold sPutOkn at e
  split at e
  · rename_i d b e1
    split at e
    · rename_i k ks e2 e3
      split at e
      · rename_i hl
        cases e
        have e2 := asName_some e2
        subst e2
        obtain ⟨p, xs, h1, _⟩ := E.at_ i _ (slOkn_some e3)
        refine ⟨.ref p, h1, C, F, δ, _, b, E, e1, fun F1 H1 v1 E1 s1 q1 => ?_⟩
        obtain ⟨p', xs', g1, g2, g3, g4, g5, g6, g7⟩ := E1.at_ i _ (slOkn_some (δ := δ.wb b) e3)
        rw [h1] at g1; cases g1
        cases id q1 with
        | tup q hq tq =>
          subst g4
          refine ⟨p, q, xs', k, rfl, rfl, rfl, g2, q1.nin E1.sub, fun x hx => (g7 x hx).nin E1.sub, g5, by rw [List.length_map] at hl; exact hl, ?_⟩
          refine kk F1 _ σ (E1.updOwn (slOkn_some (δ := δ.wb b) e3) rfl h1 rfl g3 ⟨p, _, rfl, upd_same, g3, putN_keys xs' k q, insN_nodup g5, g6, fun x hx => ?_⟩)
          unfold putN at hx
          split at hx
          · exact g7 x hx
          · rcases List.mem_append.mp hx with z | z
            · exact g7 x z
            · rw [List.mem_singleton.mp z]; exact q1
      · cases e
    · cases e
  · cases e
theorem s_putOkn {i : Nat} {o e : Expr} {j : Nat} {pos pos' p : Pos} {a : DE} (hu : X.A.units + 64 < cLine) (ho : PE X o (tVar i)) (he : PE X e (lift a)) (hs : swapsWithSole [.Subscript o e pos'] (.Constant (.bool true) j p) pos.line X.env = pure false := by rfl) (hw : swappedStores [.Subscript o e pos'] (.Constant (.bool true) j p) X.env = pure none := by rfl)
    (h1 : (assignEach [.Subscript o e pos'] X.env).map (·.2) = [assign (.Subscript o e pos') X.env] := by rfl) (ha : ∀ v, assign (.Subscript o e pos') X.env v = (do
      let ov ← holding [v] (eval o X.env)
      let iv ← holding [v, ov] (eval e X.env)
      standAt pos'
      holding [v, ov, iv] (setItem ov iv v)
      release [v, ov, iv] []) := by intro _; rfl) :
    PS X (.Assign [.Subscript o e pos'] (.Constant (.bool true) j p) pos) (liftS (sPutOkn i a)) := ps_le (ps_asg pe_bl (pg_sub ho he (set_names hu) ha) hs hw h1) fun _ _ _ => liftS_putOkn
def dOknLen (i : Nat) : DE := fun δ => match slOkn i δ with
  | some ks => if ks.length ≤ sizeLine then some (.int ks.length, δ.bag) else none
  | none => none
theorem lift_oknLen {i : Nat} {σ : L2.St} {H : Hp} {Q : VK} (h : lift (dOknLen i) σ H Q) : tCB rLenN (tCons (tVar i) tNil) σ H Q := by
  obtain ⟨C, F, δ, d, b', E, e, k⟩ := h
  unfold dOknLen at e
  split at e
  · rename_i ks e1
    split at e
    · rename_i hl
      cases e
      obtain ⟨p, xs, g1, g2, g3, g4, g5, g6, g7⟩ := E.at_ i _ (slOkn_some e1)
      subst g4
      rw [List.length_map] at hl
      refine ⟨.ref p, g1, p, xs, rfl, g2, fun x hx => (g7 x hx).nin E.sub, g5, g6, hl, ?_⟩
      exact k F H _ E (Same.refl F) (by rw [List.length_map]; exact .int _)
    · cases e
  · cases e
theorem q_oknLen (i : Nat) {e : Expr} {p pos : Pos} (hg : Gl X "len") (hm : X.mg "len" = none) (he : PE X e (tVar i)) (h1 : starEach [e] X.env = (false, eval e X.env) :: starEach [] X.env := by rfl) (hpl : (backTo pos (starEach [] X.env)).any (·.1) = false := by rfl) :
    PE X (.Call (.Name "len" p) [e] [] pos) (lift (dOknLen i)) := pe_le (pe_callB call_lenN hg hm (by decide +kernel) (pa_cons he pa_nil h1) (by decide) (by decide) h1 hpl) fun _ _ _ => lift_oknLen

/-! ### t[::-1], t a tuple -/
end
section
variable {prog : Program} {w : World} {A : Around} {E : Value → Shared → Prop} {s : Shared}
theorem fm_congr {α β : Type} {f g : α → Option β} : ∀ {l : List α}, (∀ x ∈ l, f x = g x) → l.filterMap f = l.filterMap g
  | [], _ => rfl
  | a :: l, h => by
    rw [List.filterMap_cons, List.filterMap_cons, h a List.mem_cons_self, fm_congr fun x hx => h x (List.mem_cons_of_mem _ hx)]
theorem back_pick (xs : Array Value) : ((List.range xs.size).filterMap fun (k : Nat) => xs[(((xs.size : Int) - 1) + (k : Int) * (-1)).toNat]?) = xs.toList.reverse := by
  apply List.ext_getElem?
  intro j
  have e : (fun (k : Nat) => xs[(((xs.size : Int) - 1) + (k : Int) * (-1)).toNat]?) = fun k => if k < xs.size then xs[xs.size - 1 - k]? else xs[0]? := by
    funext k
    split
    · congr 1; omega
    · congr 1; omega
  have h : (List.range xs.size).filterMap (fun (k : Nat) => xs[(((xs.size : Int) - 1) + (k : Int) * (-1)).toNat]?) = (List.range xs.size).map fun k => xs.toList.reverse.getD k .none := by
    rw [e, ← List.filterMap_eq_map]
    apply fm_congr
    intro k hk
    have hk := List.mem_range.mp hk
    rw [if_pos hk]
    have h1 : xs.size - 1 - k < xs.size := by omega
    simp only [Function.comp]
    rw [Array.getElem?_eq_getElem h1, List.getD_eq_getElem?_getD, List.getElem?_reverse (by simpa using hk)]
    simp [h1]
  rw [h]
  by_cases hj : j < xs.size
  · have h2 : j < xs.toList.reverse.length := by simpa using hj
    rw [List.getElem?_map, List.getElem?_range hj]
    simp [List.getD_eq_getElem?_getD, List.getElem?_eq_getElem h2]
  · rw [List.getElem?_eq_none (by simp; omega), List.getElem?_eq_none (by simp; omega)]
theorem tup_back {t sl : Addr} {items : Array Value} {u : Tok} {Q : Value → Shared → Prop} (ht : IsTup s.heap t items) (hs : s.heap.IsSliceOf sl .none .none (.int (-1) u))
    (h : Q (.ref s.heap.objs.size) { s with heap := s.heap.push { cls := .type "tuple", data := .seq items.toList.reverse.toArray } }) (hsz : items.size ≤ sizeLine) : wpAny (model prog w) A (getItem (.ref t) (.ref sl)) Q E s := by
  have hok : sizeOk (.seq items.toList.reverse.toArray) := by
    show items.toList.reverse.toArray.size ≤ sizeLine
    simpa using hsz
  obtain ⟨os, hos, hcs, hds⟩ := id hs
  have hTs : s.TypeIs (.ref sl) "slice" := ⟨os, hos, hcs⟩
  unfold getItem
  try with_reducible refine wpAny_holding ?_
  first | refine wpAny_bind (wpAny_pure ?_) | skip
  refine wpAny_bind (wpAny_sequenceKey ht.typeIs (by decide) ?_)
  refine wpAny_bind (wpAny_callSpecial?_slot (name := Str.ofString "__getitem__") ht.typeIs PyProof.Rows.slot_tuple_getitem (wpAny_call_entry PyProof.Rows.slot_tuple_getitem ht.typeIs entry_tuple_getitem ?_ (args_tuple_getitem _ _)))
  show wpAny _ _ (Builtin.Tuple.tupleItemsOf (.ref t) >>= _) _ _ s
  refine wpAny_bind (tupleItemsOf_ ht ?_)
  refine wpAny_bind (wpAny_typeOf hTs ?_)
  rw [if_pos (by decide)]
  refine wpAny_bind ?_
  unfold Builtin.Slice.sliceApplied Builtin.Slice.sliceFields
  refine wpAny_bind (wpAny_bind (wpAny_field hos hds (x := .none) rfl (wpAny_bind (wpAny_field hos hds (x := .none) rfl (wpAny_bind (wpAny_field hos hds (x := .int (-1) u) rfl (wpAny_pure ?_)))))))
  refine wpAny_bind (slicePart_int ?_)
  show wpAny _ _ (if ((-1 : Int) == 0) = true then _ else _) _ _ s
  rw [if_neg (by decide)]
  refine wpAny_bind (slicePart_none (wpAny_bind (slicePart_none (wpAny_bind (wpAny_pure ?_)))))
  have e1 : Builtin.Slice.sliceAdjust none none (-1) (items.size : Int) = ((items.size : Int) - 1, -1) := rfl
  show wpAny _ _ (match Builtin.Slice.sliceAdjust none none (-1) (items.size : Int) with | (lo, hi) => pure (lo, (-1 : Int), Builtin.Slice.slicePlaces lo hi (-1))) _ _ s
  rw [e1]
  have e2 : Builtin.Slice.slicePlaces ((items.size : Int) - 1) (-1) (-1) = items.size := by
    unfold Builtin.Slice.slicePlaces
    rw [if_neg (by decide)]
    split
    · rw [show (-(-1) : Int) = 1 from rfl, Int.ediv_one]; omega
    · omega
  show wpAny _ _ (pure ((items.size : Int) - 1, (-1 : Int), Builtin.Slice.slicePlaces ((items.size : Int) - 1) (-1) (-1))) _ _ s
  rw [e2]
  refine wpAny_pure ?_
  have hno : ¬ ((((items.size : Int) - 1) == 0 && (-1 : Int) == 1 && items.size == items.size) = true) := by simp
  show wpAny _ _ (if (((items.size : Int) - 1) == 0 && (-1 : Int) == 1 && items.size == items.size) = true then _ else _) _ _ s
  rw [if_neg hno, back_pick]
  first
    | exact wpAny_bind (m := Builtin.Tuple.tupleExact _) (wpAny_newObj_type (wpAny_pure ⟨_, rfl, wpAny_pure h⟩) hok)
    | exact wpAny_bind (wpAny_bind (m := Builtin.Tuple.tupleExact _) (wpAny_newObj_type (wpAny_pure (wpAny_pure ⟨_, rfl, wpAny_pure h⟩)) hok))
    | exact wpAny_bind (wpAny_bind (m := Builtin.Tuple.tupleExact _) (wpAny_newObj_type (wpAny_pure ⟨_, rfl, wpAny_pure h⟩) hok))
end
section
variable {X : Cx}
def tRevT (te : TE) : TE := fun σ H Q => te σ H fun x H1 => ∃ a ts, x = .ref a ∧ H1 a = some (.tup ts) ∧ ∀ p, H1 p = none → Q (.ref p) (upd H1 p (.tup ts.reverse))
theorem pe_revT {e : Expr} {te : TE} {k : Nat} {p1 p2 p3 pos : Pos} (he : PE X e te) : PE X (.Subscript e (.Slice none none (some (.UnaryOp .USub (.Constant (.int 1) k p1) p2)) p3) pos) (tRevT te) := by
  refine ⟨fun pins s σ H Q I h => ?_⟩
  refine Subscript_ (thn (he.run pins s σ H _ I h) fun v s1 ⟨x, H1, I1, r1, q1⟩ => ?_)
  obtain ⟨a, ts, ex, hx, q⟩ := q1
  subst ex
  cases r1
  have minus : PO X (some (.UnaryOp .USub (.Constant (.int 1) k p1) p2)) (tPart (tUn (rU fun i => .int (-i)) (tC (.int 1)))) := po_some (pe_un un_neg pe_int)
  refine wpAny_Slice (thn (po_none.run pins s1 σ H1 (fun o H2 => o = none ∧ H2 = H1) I1 ⟨rfl, rfl⟩) fun vl s2 ⟨l, H2, I2, pl, el, e2⟩ => ?_)
  subst el e2
  refine thn (po_none.run pins s2 σ H2 (fun o H3 => o = none ∧ H3 = H2) I2 ⟨rfl, rfl⟩) fun vu s3 ⟨u, H3, I3, pu, eu, e3⟩ => ?_
  subst eu e3
  refine thn (minus.run pins s3 σ H3 (fun o H4 => o = some (-1) ∧ H4 = H3) I3 ⟨1, rfl, -1, rfl, rfl, rfl⟩) fun vs s4 ⟨o, H4, I4, ps, eo, e4⟩ => ?_
  subst eo e4
  cases pl
  cases pu
  cases ps with
  | int _ tk =>
    have I5 : Inv X pins σ H4 { s4 with heap := s4.heap.push { cls := .type "slice", data := .fields #[.none, .none, .int (-1) tk] } } := I4.kept (t' := s4.toks) fun b ob q => Heap.get?_push_of_some _ q
    obtain ⟨its, r, ht, hz⟩ := I5.tuple (st_of hx)
    have hlen := r.length
    show wpAny (model X.prog X.w) X.A (subscriptTail e (.Slice none none (some (.UnaryOp .USub (.Constant (.int 1) k p1) p2)) p3) (.ref a) (.ref s4.heap.objs.size)) (EP X pins σ Q) X.xe { s4 with heap := s4.heap.push { cls := .type "slice", data := .fields #[.none, .none, .int (-1) tk] } }
    refine tail_any (ops := [.ref a, .ref s4.heap.objs.size]) ht.typeIs (PyProof.Rows.slot_tuple_getitem.lookup) ?_ (by with_unfolding_all rfl)
    refine tup_back ht (Heap.IsSliceOf.new _ .none .none (.int (-1) tk)) ?_ (by rw [List.size_toArray]; omega)
    refine ⟨.ref _, _, I5.laid (t' := s4.toks) (o := .tup ts.reverse) (fun b ob q => Heap.get?_push_of_some _ q) (Nat.le_refl _) ?_, rfl, q _ (I5.hok.fresh (Nat.le_refl _))⟩
    exact ⟨by rw [List.length_reverse]; exact hz, its.reverse, by simpa using r.reverse, ⟨_, Heap.get?_push_size _ rfl, rfl, 0, by simp⟩⟩
def dRev (a : DE) : DE := bd a fun x => fun δ => match x with
  | .tuple ds => some (.tuple ds.reverse, δ.bag)
  | _ => none
theorem lift_rev {a : DE} {σ : L2.St} {H : Hp} {Q : VK} (h : lift (dRev a) σ H Q) : tRevT (lift a) σ H Q := by
  obtain ⟨C, F, δ, d, b', E, e, k⟩ := h
  obtain ⟨x, b1, e1, e⟩ := bd_some e
  split at e
  · cases e
    refine ⟨C, F, δ, _, b1, E, e1, fun F1 H1 v1 E1 s1 q1 => ?_⟩
    cases q1 with
    | tup p hp t =>
      refine ⟨p, _, rfl, E1.sub _ _ hp, fun q hq => ?_⟩
      obtain ⟨E2, s2⟩ := E1.new (.tup _) hq
      exact k _ _ _ E2 (s1.trans s2) (.tup q upd_same (t.reverse.mono s2))
  · cases e
theorem q_rev {e : Expr} {k : Nat} {p1 p2 p3 pos : Pos} {a : DE} (he : PE X e (lift a)) : PE X (.Subscript e (.Slice none none (some (.UnaryOp .USub (.Constant (.int 1) k p1) p2)) p3) pos) (lift (dRev a)) := pe_le (pe_revT he) fun _ _ _ => lift_rev
end
end K71

set_option Elab.async false
set_option linter.all false
set_option maxRecDepth 100000
set_option maxHeartbeats 2000000
namespace K71
open PySem L2

/-! ### further rules in short -/
section
variable {X : Cx}
theorem t_cmp {a b : Expr} {op : CmpOp} {pos : Pos} {da db : DE} {g : PyData → PyData → Option PyData} {r : R2} (ho : OpR X (compareOp op) r) (o : OpD g r) (ha : PE X a (lift da)) (hb : PE X b (lift db)) (hm : behindInMarks op b = false) :
    PT X (.Compare a [op] [b] pos) (liftT (tst (dOp g da db))) := pt_le (pt_cmpR ho ha hb hm) fun _ _ _ h => lift_op o (liftT_B h)
theorem t_chain {a b c : Expr} {op op' : CmpOp} {pos : Pos} {da db dc : DE} {g g' : PyData → PyData → Option PyData} {r r' : R2} (ho : OpR X (compareOp op) r) (ho' : OpR X (compareOp op') r') (o : OpD g r) (o' : OpD g' r') (ha : PE X a (lift da)) (hb : PE X b (lift db)) (hc : PE X c (lift dc)) (hm : lastMarks [op, op'] [b, c] = false := by with_unfolding_all rfl) :
    PT X (.Compare a [op, op'] [b, c] pos) (liftT (tst (dChain g g' da db dc))) := pt_le (pt_chain ho ho' ha hb hc hm) fun _ _ _ h => lift_chain o o' (liftT_B h)
theorem g_two {es : List Expr} {k : Nat} {pos : Pos} {i j : Nat} (hc : X.calm = true) (h : PGs X es (gCons (gName i) (gCons (gName j) gNil))) (hn : (assignEach es X.env).length = 2 := by rfl) (hst : (assignEach es X.env).findIdx? (·.1) = none := by rfl) : PG X (.Tuple es k pos) (gOf X.K (.many [i, j])) :=
  pg_tup hc h hn hst
theorem g_three {es : List Expr} {k : Nat} {pos : Pos} {i j l : Nat} (hc : X.calm = true) (h : PGs X es (gCons (gName i) (gCons (gName j) (gCons (gName l) gNil)))) (hn : (assignEach es X.env).length = 3 := by rfl) (hst : (assignEach es X.env).findIdx? (·.1) = none := by rfl) : PG X (.Tuple es k pos) (gOf X.K (.many [i, j, l])) :=
  pg_tup hc h hn hst
theorem g_one {x : Str} {pos : Pos} (i : Nat) (hN : X.N.Nodup) (hi : X.N[i]? = some x) (hx : L2.Loc X.env.scope x) (hf : X.fn x = true ∨ X.env.scope.names.lookup x = some .local := by first | exact .inl rfl | exact .inr rfl | assumption) : PG X (.Name x pos) (gOf X.K (.one i)) := pg_name hN hi hx hf
theorem ss_never {sts : List Stmt} : PSs X sts (liftS sNever) := pss_le pss_never fun _ _ _ ⟨_, _, _, _, _, e, _⟩ => nomatch e
theorem s_appB {i : Nat} {o e : Expr} {apos cpos pos : Pos} {a : DE} (ho : PE X o (tVar i)) (he : PE X e (lift a)) (hbase : attributeBase o "append" X.env (eval o X.env) = eval o X.env := by rfl)
    (hfew : ((backTo cpos (starEach [e] X.env)).all (fun x => !x.1) && (backToKw cpos (keywordEach [] X.env)).all (fun x => x.1.isSome)
      && decide (([e] : List Expr).length + ([] : List Keyword).length + (if ([] : List Keyword).isEmpty then 0 else 1) < 30)) = true := by rfl)
    (hline : (apos.endLine == cpos.line) = true := by rfl) (hs : starEach [e] X.env = (false, eval e X.env) :: starEach [] X.env := by rfl) (hplain : (backTo cpos (starEach [] X.env)).any (·.1) = false := by rfl)
    (hsw : swapsWith (.Call (.Attribute o "append" apos) [e] [] cpos) none pos.line X.env = pure false := by rfl) : PS X (.Expr (.Call (.Attribute o "append" apos) [e] [] cpos) pos) (liftS (sAppB i a)) :=
  ps_le (ps_expr (pe_bm PySem.F.plainAttrs_list PySem.F.slot_list_append PySem.F.type_list_append mt_append ho (pa_cons he pa_nil hs) hbase hfew hline hs hplain) hsw) fun _ _ _ => liftS_appB X.K
/-- isinstance(x, (S, T)) -/
theorem lift_isi2 {S T : String} {f g : PyData → Bool} (hf : IsiF S f) (hg : IsiF T g) {a : DE} {σ : L2.St} {H : Hp} {Q : VK} (h : lift (dIsi (fun d => f d || g d) a) σ H Q) : tCB (rIsiT X.K) (tCons (lift a) (tCons (tTup (tCons (tC (.ty S)) (tCons (tC (.ty T)) tNil))) tNil)) σ H Q := by
  obtain ⟨C, F, δ, d, b', E, e, k⟩ := h
  obtain ⟨x, b1, e1, e⟩ := bd_some e
  cases e
  refine ⟨C, F, δ, x, b1, E, e1, fun F1 H1 v1 E1 s1 q1 => ⟨by show 2 ≤ sizeLine; decide, fun p hp => ?_⟩⟩
  obtain ⟨E2, s2⟩ := E1.new (.tup [.ty S, .ty T]) hp
  refine ⟨v1, p, _, _, _, _, rfl, upd_same, .cons (.ty S) (.cons (.ty T) .nil), (q1.mono s2).ty E2.sub, ?_, k _ _ _ E2 (s1.trans s2) (.bl _)⟩
  refine kitAny_cons (kit_ty (hf x)) (fun z => ?_) (fun z => by simp [z])
  refine kitAny_cons (kit_ty (hg x)) (fun y => ?_) (fun y => by simp [y])
  rw [kitAny_nil]
  simp [z, y]
theorem q_isi2 {e c : Expr} {p pos : Pos} {S T : String} {f g : PyData → Bool} {a : DE} (hf : IsiF S f) (hg' : IsiF T g) (hg : Gl X "isinstance") (hm : X.mg "isinstance" = none) (h : PA X [e, c] (tCons (lift a) (tCons (tTup (tCons (tC (.ty S)) (tCons (tC (.ty T)) tNil))) tNil)))
    (h1 : starEach [e, c] X.env = (false, eval e X.env) :: starEach [c] X.env := by rfl) (hpl : (backTo pos (starEach [c] X.env)).any (·.1) = false := by rfl) :
    PE X (.Call (.Name "isinstance" p) [e, c] [] pos) (lift (dIsi (fun d => f d || g d) a)) := pe_le (pe_callB call_isiT hg hm (by decide +kernel) h (by decide) (by decide) h1 hpl) fun _ _ _ => lift_isi2 hf hg'
end

/-! ### the text by places, a def as it stands -/
def top (i : Nat) : Stmt := PySem.Challenge.pw_putbetween_k71_whole_tied_names_told.main.body.getD i (.Pass ⟨0, 0, 0, 0⟩)
structure DefAt (K : PySem.W.Frag) (mg : Str → Option Value) (x : Str) (st : Stmt) (ps : List Str) (f : Addr) (fd : FuncData) : Prop where
  F : Fun K x x st f fd
  g : mg x = some (.ref f)
  b : Binds K fd ps []
structure Txt (K : PySem.W.Frag) (mg : Str → Option Value) (A : Nat → Addr) (D : Nat → FuncData) (tk : Tok) : Prop where
  n_len : mg "len" = none
  n_sum : mg "sum" = none
  n_sorted : mg "sorted" = none
  n_abs : mg "abs" = none
  n_all : mg "all" = none
  n_int : mg "int" = none
  n_tuple : mg "tuple" = none
  n_list : mg "list" = none
  n_bool : mg "bool" = none
  n_str : mg "str" = none
  n_dict : mg "dict" = none
  n_range : mg "range" = none
  n_enumerate : mg "enumerate" = none
  n_isinstance : mg "isinstance" = none
  n_ValueError : mg "ValueError" = none
  most : mg "MOST_ITEMS" = some (.int 40 tk)
  d_is_integer : DefAt K mg "is_integer" (top 7) ["thing"] (A 7) (D 7)
  d_is_within : DefAt K mg "is_within" (top 8) ["thing", "least", "most"] (A 8) (D 8)
  d_are_items : DefAt K mg "are_items" (top 9) ["thing", "bound"] (A 9) (D 9)
  d_is_sound : DefAt K mg "is_sound" (top 10) ["thing"] (A 10) (D 10)
  d_check_plan : DefAt K mg "check_plan" (top 11) ["thing"] (A 11) (D 11)
  d_ending_of : DefAt K mg "ending_of" (top 13) ["plan"] (A 13) (D 13)
  d_many_chains : DefAt K mg "many_chains" (top 14) ["plan"] (A 14) (D 14)
  d_chain_key : DefAt K mg "chain_key" (top 16) ["chain"] (A 16) (D 16)
  d_is_place : DefAt K mg "is_place" (top 18) ["thing"] (A 18) (D 18)
  d_own_chains : DefAt K mg "own_chains" (top 19) ["plan", "run"] (A 19) (D 19)
  d_checked_chains : DefAt K mg "checked_chains" (top 20) ["plan", "run"] (A 20) (D 20)
  d_tie_names : DefAt K mg "tie_names" (top 21) ["plan", "run"] (A 21) (D 21)
  d_many_tie_names : DefAt K mg "many_tie_names" (top 22) ["plan"] (A 22) (D 22)
  d_is_tie_name : DefAt K mg "is_tie_name" (top 23) ["thing"] (A 23) (D 23)
  d_told_of : DefAt K mg "told_of" (top 24) ["one", "other"] (A 24) (D 24)
  d_tie_told : DefAt K mg "tie_told" (top 25) ["one", "other"] (A 25) (D 25)
  d_l_bag : DefAt K mg "_law_bag" (top 27) ["_law_script"] (A 27) (D 27)
  d_l_draw : DefAt K mg "_law_draw" (top 28) ["_law_bag_here", "_law_many"] (A 28) (D 28)
  d_l_any : DefAt K mg "_law_any" (top 29) ["_law_bag_here", "_law_things"] (A 29) (D 29)
  d_l_is : DefAt K mg "_law_is" (top 30) ["_law_told_here", "_law_due"] (A 30) (D 30)
  d_l_has : DefAt K mg "_law_has" (top 31) ["_law_told_here", "_law_due", "_law_key"] (A 31) (D 31)
  d_l_closed : DefAt K mg "_law_closed" (top 32) ["_law_rows"] (A 32) (D 32)
  d_l_sized : DefAt K mg "_law_sized" (top 33) ["_law_bag_here", "_law_size"] (A 33) (D 33)
  d_l_ends : DefAt K mg "_law_ends" (top 34) ["_law_plan_here"] (A 34) (D 34)
  d_l_plan : DefAt K mg "_law_plan" (top 35) ["_law_bag_here", "_law_most"] (A 35) (D 35)
  d_l_is_index : DefAt K mg "_law_is_index" (top 36) ["_law_thing", "_law_bound"] (A 36) (D 36)
  d_l_home : DefAt K mg "_law_home" (top 37) ["_law_row", "_law_item"] (A 37) (D 37)
  d_l_seen_groups : DefAt K mg "_law_seen_groups" (top 38) ["_law_row", "_law_seen"] (A 38) (D 38)
  d_l_tie_run : DefAt K mg "_law_tie_run" (top 39) ["_law_bag_here", "_law_plan_here"] (A 39) (D 39)
  d_l_put : DefAt K mg "_law_put" (top 40) ["_law_row", "_law_seen", "_law_item", "_law_place"] (A 40) (D 40)
  d_l_chain : DefAt K mg "_law_chain" (top 41) ["_law_row", "_law_chains", "_law_seen", "_law_item", "_law_place"] (A 41) (D 41)
  d_l_tie_runs : DefAt K mg "_law_tie_runs" (top 42) ["_law_plan_here", "_law_most"] (A 42) (D 42)
  d_l_tie_names : DefAt K mg "_law_tie_names" (top 43) ["_law_run", "_law_chains"] (A 43) (D 43)
  d_l_stands : DefAt K mg "_law_stands" (top 44) ["_law_row", "_law_one", "_law_other"] (A 44) (D 44)
  d_l_is_tied_name : DefAt K mg "_law_is_tied_name" (top 45) ["_law_thing"] (A 45) (D 45)
  d_l_told : DefAt K mg "_law_told" (top 46) ["_law_one", "_law_other"] (A 46) (D 46)
  d_l_spoiled : DefAt K mg "_law_spoiled" (top 47) ["_law_bag_here", "_law_name"] (A 47) (D 47)
  d_l_all_names : DefAt K mg "_law_all_names" (top 48) ["_law_plan_here"] (A 48) (D 48)
  d_law : DefAt K mg "law" (top 49) ["_law_script"] (A 49) (D 49)
end K71

set_option Elab.async false
set_option linter.all false
set_option maxRecDepth 100000
set_option maxHeartbeats 4000000
namespace K71
open PySem L2
section
variable {P : Program} {w : World} {K : PySem.W.Frag} {mg : Str → Option Value} {base : Heap} {A : Nat → Addr} {D : Nat → FuncData} {tk : Tok}
/-! ### is_integer -/
abbrev s_is_integer : Stmt := top 7
abbrev N_is_integer : List Str := ["thing"]
theorem sc_is_integer : FnScope N_is_integer ["thing"] (defScope s_is_integer) := ⟨rfl, rfl, rfl, by decide +kernel, rfl, by decide +kernel, by decide +kernel⟩
def d_is_integer : DS :=
  (sRet (dAnd (dIsi isInt (dVar 0)) (dNot (dIsi isBool (dVar 0)))))
def f_is_integer : List PyData → Option PyData := runP N_is_integer.length d_is_integer
theorem ok_is_integer (T : Txt K mg A D tk) : FnOk P w K mg base CX0 1 (A 7) (D 7) ["thing"] (spP 1 f_is_integer) := by
  refine fn_P (b := d_is_integer) T.d_is_integer.F sc_is_integer fun cdv A outer s H E hr => ?_
  have nd := sc_is_integer.nd
  exact s_one (s_ret (q_and (q_isi f_int rfl T.n_isinstance (qv 0) (pe_bltn (by rfl) T.n_int (by decide +kernel) rfl)) (pe_one (q_not (q_isi f_bool rfl T.n_isinstance (qv 0) (pe_bltn (by rfl) T.n_bool (by decide +kernel) rfl))))))
/-! ### is_within -/
abbrev s_is_within : Stmt := top 8
abbrev N_is_within : List Str := ["thing", "least", "most"]
theorem sc_is_within : FnScope N_is_within ["thing", "least", "most"] (defScope s_is_within) := ⟨rfl, rfl, rfl, by decide +kernel, rfl, by decide +kernel, by decide +kernel⟩
def d_is_within : DS :=
  (sRet (dAnd (dFn 1 f_is_integer (aCons (dVar 0) aNil)) (dChain gLe gLe (dVar 1) (dVar 0) (dVar 2))))
def f_is_within : List PyData → Option PyData := runP N_is_within.length d_is_within
theorem ok_is_within (T : Txt K mg A D tk) : FnOk P w K mg base CX0 2 (A 8) (D 8) ["thing", "least", "most"] (spP 3 f_is_within) := by
  refine fn_P (b := d_is_within) T.d_is_within.F sc_is_within fun cdv A outer s H E hr => ?_
  have nd := sc_is_within.nd
  exact s_one (s_ret (q_and (q_call (ok_is_integer T) (hr.mono (by decide)) rfl T.d_is_integer.g T.d_is_integer.F.kp T.d_is_integer.b (a_cons (qv 0) a_nil)) (pe_one (q_chain op_le op_le o_le o_le (qv 1) (qv 0) (qv 2)))))
/-! ### are_items -/
abbrev s_are_items : Stmt := top 9
abbrev N_are_items : List Str := ["thing", "bound", "last", "item"]
theorem sc_are_items : FnScope N_are_items ["thing", "bound"] (defScope s_are_items) := ⟨rfl, rfl, rfl, by decide +kernel, rfl, by decide +kernel, by decide +kernel⟩
def d_are_items : DS :=
  (sSeq (sIf (tOrD (tNotD (tst (dIsi isTup (dVar 0)))) (tNotD (tst (dCall gAll (aCons (dLc (iT (dVar 0)) (.one 3) tTrue (dFn 1 f_is_integer (aCons (dVar 3) aNil)) [3]) aNil))))) (sRet (dC (.bool false))) sNil)
  (sSeq (sAsg (.one 2) (dUn gNeg (dC (.int 1))))
  (sSeq (sFor (iT (dVar 0)) (.one 3)
  (sSeq (sIf (tOrD (tst (dOp gLe (dVar 3) (dVar 2))) (tst (dOp gGe (dVar 3) (dVar 1)))) (sRet (dC (.bool false))) sNil)
  (sAsg (.one 2) (dVar 3))))
  (sRet (dC (.bool true))))))
def f_are_items : List PyData → Option PyData := runP N_are_items.length d_are_items
theorem ok_are_items (T : Txt K mg A D tk) : FnOk P w K mg base CX0 2 (A 9) (D 9) ["thing", "bound"] (spP 2 f_are_items) := by
  refine fn_P (b := d_are_items) T.d_are_items.F sc_are_items fun cdv A outer s H E hr => ?_
  have nd := sc_are_items.nd
  exact s_cons (s_if (PW.pt (w_or (t_not (t_val (q_isi f_tup rfl T.n_isinstance (qv 0) (pe_bltn (by rfl) T.n_tuple (by decide +kernel) rfl)))) (pw_or1 (t_not (t_val (q_cb (cr_all rfl) c_all rfl T.n_all (by decide +kernel) (a_cons (q_lc (own := [("item", 3)]) (t := (.one 3)) rfl nd (i_tup (qv 0)) (blkOk_by (own := [("item", 3)]) (N := N_are_items) (sc := (defScope s_are_items)) (by decide +kernel)) (fun _ _ _ _ _ => g_one 3 nd rfl (by first | exact Or.inl rfl | exact Or.inr rfl)) (fun _ _ _ _ _ => ts_nil) (fun _ _ _ _ _ => q_call (ok_is_integer T) (hr.mono (by decide)) rfl T.d_is_integer.g T.d_is_integer.F.kp T.d_is_integer.b (a_cons (qv 3) a_nil))) a_nil))))))) (s_one (s_ret (q_bl))) (s_nil))
      (s_cons (s_set nd rfl (by first | exact Or.inl rfl | exact Or.inr rfl) (q_un un_neg o_neg (q_int)))
      (s_cons (s_for (t := (.one 3)) PassesOwn.never rfl (i_tup (qv 0)) (g_one 3 nd rfl (by first | exact Or.inl rfl | exact Or.inr rfl))
      (s_cons (s_if (PW.pt (w_or (t_cmp op_le o_le (qv 3) (qv 2) (nomark _)) (pw_or1 (t_cmp op_ge o_ge (qv 3) (qv 1) (nomark _))))) (s_one (s_ret (q_bl))) (s_nil))
      (s_one (s_set nd rfl (by first | exact Or.inl rfl | exact Or.inr rfl) (qv 3)))))
      (s_one (s_ret (q_bl)))))
/-! ### is_sound -/
abbrev s_is_sound : Stmt := top 10
abbrev N_is_sound : List Str := ["thing", "item", "seen", "known", "other", "more"]
theorem sc_is_sound : FnScope N_is_sound ["thing"] (defScope s_is_sound) := ⟨rfl, rfl, rfl, by decide +kernel, rfl, by decide +kernel, by decide +kernel⟩
def d_is_sound : DS :=
  (sSeq (sIf (tOrD (tNotD (tst (dIsi isTup (dVar 0)))) (tst (dOp gGt (dCall gLen (aCons (dVar 0) aNil)) (dC (.int 40))))) (sRet (dC (.bool false))) sNil)
  (sSeq (sFor (iE2 (dVar 0)) (.many [1, 2])
  (sSeq (sIf (tNotD (tst (dFn 2 f_are_items (aCons (dVar 2) (aCons (dVar 1) aNil))))) (sRet (dC (.bool false))) sNil)
  (sSeq (sOkdOf 3 (iT (dVar 2)) (.one 4) (dVar 4) [4])
  (sFor (iT (dVar 2)) (.one 4)
  (sIf (tNotD (tst (dCall gAll (aCons (dLc (iT (dOp gIx (dVar 0) (dVar 4))) (.one 5) tTrue (dOkdIn 3 (dVar 5)) [5]) aNil)))) (sRet (dC (.bool false))) sNil)))))
  (sRet (dC (.bool true)))))
def f_is_sound : List PyData → Option PyData := runP N_is_sound.length d_is_sound
theorem ok_is_sound (T : Txt K mg A D tk) : FnOk P w K mg base CX0 3 (A 10) (D 10) ["thing"] (spP 1 f_is_sound) := by
  refine fn_P (b := d_is_sound) T.d_is_sound.F sc_is_sound fun cdv A outer s H E hr => ?_
  have nd := sc_is_sound.nd
  exact s_cons (s_if (PW.pt (w_or (t_not (t_val (q_isi f_tup rfl T.n_isinstance (qv 0) (pe_bltn (by rfl) T.n_tuple (by decide +kernel) rfl)))) (pw_or1 (t_cmp op_gt o_gt (q_cb call_len c_len rfl T.n_len (by decide +kernel) (a_cons (qv 0) a_nil)) (q_glob rfl T.most) (nomark _))))) (s_one (s_ret (q_bl))) (s_nil))
      (s_cons (s_for (t := (.many [1, 2])) PassesOwn.never rfl (i_enumT rfl T.n_enumerate (qv 0)) (g_two rfl (pgs_cons (pg_name (i := 1) nd rfl (by first | exact Or.inl rfl | exact Or.inr rfl)) (pgs_cons (pg_name (i := 2) nd rfl (by first | exact Or.inl rfl | exact Or.inr rfl)) pgs_nil)))
      (s_cons (s_if (t_not (t_val (q_call (ok_are_items T) (hr.mono (by decide)) rfl T.d_are_items.g T.d_are_items.F.kp T.d_are_items.b (a_cons (qv 2) (a_cons (qv 1) a_nil))))) (s_one (s_ret (q_bl))) (s_nil))
      (s_cons (s_okdOf (own := [("other", 4)]) (t := (.one 4)) rfl nd rfl (by first | exact Or.inl rfl | exact Or.inr rfl) (i_tup (qv 2)) (blkOk_by (own := [("other", 4)]) (N := N_is_sound) (sc := (defScope s_is_sound)) (by decide +kernel)) (fun _ _ _ _ _ => g_one 4 nd rfl (by first | exact Or.inl rfl | exact Or.inr rfl)) (fun _ _ _ _ _ => qv 4))
      (s_one (s_for (t := (.one 4)) PassesOwn.never rfl (i_tup (qv 2)) (g_one 4 nd rfl (by first | exact Or.inl rfl | exact Or.inr rfl))
      (s_one (s_if (t_not (t_val (q_cb (cr_all rfl) c_all rfl T.n_all (by decide +kernel) (a_cons (q_lc (own := [("more", 5)]) (t := (.one 5)) rfl nd (i_tup (q_ix ix_seq o_ix (qv 0) (qv 4) (fun _ _ => rfl))) (blkOk_by (own := [("more", 5)]) (N := N_is_sound) (sc := (defScope s_is_sound)) (by decide +kernel)) (fun _ _ _ _ _ => g_one 5 nd rfl (by first | exact Or.inl rfl | exact Or.inr rfl)) (fun _ _ _ _ _ => ts_nil) (fun _ _ _ _ _ => q_okdIn 3 (hu_of hr) (qv 5) (pv 3))) a_nil)))) (s_one (s_ret (q_bl))) (s_nil))))))))
      (s_one (s_ret (q_bl))))
/-! ### check_plan -/
abbrev s_check_plan : Stmt := top 11
abbrev N_check_plan : List Str := ["thing"]
theorem sc_check_plan : FnScope N_check_plan ["thing"] (defScope s_check_plan) := ⟨rfl, rfl, rfl, by decide +kernel, rfl, by decide +kernel, by decide +kernel⟩
def d_check_plan : DS :=
  (sIf (tNotD (tst (dFn 1 f_is_sound (aCons (dVar 0) aNil)))) sNever sNil)
def f_check_plan : List PyData → Option PyData := runP N_check_plan.length d_check_plan
theorem ok_check_plan (T : Txt K mg A D tk) : FnOk P w K mg base CX0 4 (A 11) (D 11) ["thing"] (spP 1 f_check_plan) := by
  refine fn_P (b := d_check_plan) T.d_check_plan.F sc_check_plan fun cdv A outer s H E hr => ?_
  have nd := sc_check_plan.nd
  exact s_one (s_if (t_not (t_val (q_call (ok_is_sound T) (hr.mono (by decide)) rfl T.d_is_sound.g T.d_is_sound.F.kp T.d_is_sound.b (a_cons (qv 0) a_nil)))) (s_one (s_never)) (s_nil))
/-! ### ending_of -/
abbrev s_ending_of : Stmt := top 13
abbrev N_ending_of : List Str := ["plan", "found", "seen", "item"]
theorem sc_ending_of : FnScope N_ending_of ["plan"] (defScope s_ending_of) := ⟨rfl, rfl, rfl, by decide +kernel, rfl, by decide +kernel, by decide +kernel⟩
def d_ending_of : DS :=
  (sSeq (sNewOwn 1)
  (sSeq (sFor (iT (dVar 0)) (.one 2)
  (sApp 1 (dOp gAdd (dC (.int 1)) (dCall gSum (aCons (dLc (iT (dVar 2)) (.one 3) tTrue (dOwnIx 1 (dVar 3)) [3]) aNil)))))
  (sFrz 1 (sRet (dVar 1)))))
def f_ending_of : List PyData → Option PyData := runP N_ending_of.length d_ending_of
theorem ok_ending_of (T : Txt K mg A D tk) : FnOk P w K mg base CX0 1 (A 13) (D 13) ["plan"] (spP 1 f_ending_of) := by
  refine fn_P (b := d_ending_of) T.d_ending_of.F sc_ending_of fun cdv A outer s H E hr => ?_
  have nd := sc_ending_of.nd
  exact s_cons (s_newOwn nd rfl (by first | exact Or.inl rfl | exact Or.inr rfl))
      (s_cons (s_for (t := (.one 2)) PassesOwn.never rfl (i_tup (qv 0)) (g_one 2 nd rfl (by first | exact Or.inl rfl | exact Or.inr rfl))
      (s_one (s_app (pv 1) (q_op op_add3 o_add (q_int) (q_cb (cr_sum rfl) c_sum rfl T.n_sum (by decide +kernel) (a_cons (q_lc (own := [("item", 3)]) (t := (.one 3)) rfl nd (i_tup (qv 2)) (blkOk_by (own := [("item", 3)]) (N := N_ending_of) (sc := (defScope s_ending_of)) (by decide +kernel)) (fun _ _ _ _ _ => g_one 3 nd rfl (by first | exact Or.inl rfl | exact Or.inr rfl)) (fun _ _ _ _ _ => ts_nil) (fun _ _ _ _ _ => q_ownIx 1 (pv 1) (qv 3) (fun _ _ => rfl))) a_nil))))))
      (ss_frz 1 (s_one (s_ret (qv 1)))))
/-! ### many_chains -/
abbrev s_many_chains : Stmt := top 14
abbrev N_many_chains : List Str := ["plan"]
theorem sc_many_chains : FnScope N_many_chains ["plan"] (defScope s_many_chains) := ⟨rfl, rfl, rfl, by decide +kernel, rfl, by decide +kernel, by decide +kernel⟩
def d_many_chains : DS :=
  (sRet (dCall gSum (aCons (dFn 1 f_ending_of (aCons (dVar 0) aNil)) aNil)))
def f_many_chains : List PyData → Option PyData := runP N_many_chains.length d_many_chains
theorem ok_many_chains (T : Txt K mg A D tk) : FnOk P w K mg base CX0 2 (A 14) (D 14) ["plan"] (spP 1 f_many_chains) := by
  refine fn_P (b := d_many_chains) T.d_many_chains.F sc_many_chains fun cdv A outer s H E hr => ?_
  have nd := sc_many_chains.nd
  exact s_one (s_ret (q_cb (cr_sum rfl) c_sum rfl T.n_sum (by decide +kernel) (a_cons (q_call (ok_ending_of T) (hr.mono (by decide)) rfl T.d_ending_of.g T.d_ending_of.F.kp T.d_ending_of.b (a_cons (qv 0) a_nil)) a_nil)))
/-! ### chain_key -/
abbrev s_chain_key : Stmt := top 16
abbrev N_chain_key : List Str := ["chain", "item"]
theorem sc_chain_key : FnScope N_chain_key ["chain"] (defScope s_chain_key) := ⟨rfl, rfl, rfl, by decide +kernel, rfl, by decide +kernel, by decide +kernel⟩
def d_chain_key : DS :=
  (sRet (dCall gTuple (aCons (dLc (iT (dVar 0)) (.one 1) tTrue (dUn gNeg (dVar 1)) [1]) aNil)))
def f_chain_key : List PyData → Option PyData := runP N_chain_key.length d_chain_key
theorem ok_chain_key (T : Txt K mg A D tk) : FnOk P w K mg base CX0 1 (A 16) (D 16) ["chain"] (spP 1 f_chain_key) := by
  refine fn_P (b := d_chain_key) T.d_chain_key.F sc_chain_key fun cdv A outer s H E hr => ?_
  have nd := sc_chain_key.nd
  exact s_one (s_ret (q_cty call_tuple_of c_tuple rfl T.n_tuple (by decide +kernel) (a_cons (q_lc (own := [("item", 1)]) (t := (.one 1)) rfl nd (i_tup (qv 0)) (blkOk_by (own := [("item", 1)]) (N := N_chain_key) (sc := (defScope s_chain_key)) (by decide +kernel)) (fun _ _ _ _ _ => g_one 1 nd rfl (by first | exact Or.inl rfl | exact Or.inr rfl)) (fun _ _ _ _ _ => ts_nil) (fun _ _ _ _ _ => q_un un_neg o_neg (qv 1))) a_nil)))
/-! ### is_place -/
abbrev s_is_place : Stmt := top 18
abbrev N_is_place : List Str := ["thing"]
theorem sc_is_place : FnScope N_is_place ["thing"] (defScope s_is_place) := ⟨rfl, rfl, rfl, by decide +kernel, rfl, by decide +kernel, by decide +kernel⟩
def d_is_place : DS :=
  (sSeq (sIf (tOrD (tNotD (tst (dIsi isTup (dVar 0)))) (tOrD (tst (dOp gNe (dCall gLen (aCons (dVar 0) aNil)) (dC (.int 2)))) (tNotD (tst (dIsi isStr (dOp gIx (dVar 0) (dC (.int 0)))))))) (sRet (dC (.bool false))) sNil)
  (sRet (dAnd (dOp (gIn false) (dOp gIx (dVar 0) (dC (.int 0))) (dTup (aCons (dC (.str "gap")) (aCons (dC (.str "tie")) aNil)))) (dFn 3 f_is_within (aCons (dOp gIx (dVar 0) (dC (.int 1))) (aCons (dC (.int 0)) (aCons (dC (.int 40)) aNil)))))))
def f_is_place : List PyData → Option PyData := runP N_is_place.length d_is_place
theorem ok_is_place (T : Txt K mg A D tk) : FnOk P w K mg base CX0 3 (A 18) (D 18) ["thing"] (spP 1 f_is_place) := by
  refine fn_P (b := d_is_place) T.d_is_place.F sc_is_place fun cdv A outer s H E hr => ?_
  have nd := sc_is_place.nd
  exact s_cons (s_if (PW.pt (w_or (t_not (t_val (q_isi f_tup rfl T.n_isinstance (qv 0) (pe_bltn (by rfl) T.n_tuple (by decide +kernel) rfl)))) (w_or (t_cmp (op_neD hr.units) o_ne (q_cb call_len c_len rfl T.n_len (by decide +kernel) (a_cons (qv 0) a_nil)) (q_int) (nomark _)) (pw_or1 (t_not (t_val (q_isi f_str rfl T.n_isinstance (q_ix ix_seq o_ix (qv 0) (q_int) (fun _ _ => rfl)) (pe_bltn (by rfl) T.n_str (by decide +kernel) rfl)))))))) (s_one (s_ret (q_bl))) (s_nil))
      (s_one (s_ret (q_and (q_cmp op_in_seq (o_in false) (q_ix ix_seq o_ix (qv 0) (q_int) (fun _ _ => rfl)) (q_tup (a_cons (q_str) (a_cons (q_str) a_nil))) rfl) (pe_one (q_call (ok_is_within T) (hr.mono (by decide)) rfl T.d_is_within.g T.d_is_within.F.kp T.d_is_within.b (a_cons (q_ix ix_seq o_ix (qv 0) (q_int) (fun _ _ => rfl)) (a_cons (q_int) (a_cons (q_glob rfl T.most) a_nil))))))))
/-! ### own_chains -/
abbrev s_own_chains : Stmt := top 19
abbrev N_own_chains : List Str := ["plan", "run", "found", "item", "seen", "word", "number", "groups", "ahead", "other", "part"]
theorem sc_own_chains : FnScope N_own_chains ["plan", "run"] (defScope s_own_chains) := ⟨rfl, rfl, rfl, by decide +kernel, rfl, by decide +kernel, by decide +kernel⟩
def d_own_chains : DS :=
  (sSeq (sNewOwn 2)
  (sSeq (sFor (iE2 (dVar 0)) (.many [3, 4])
  (sSeq (sAsg (.many [5, 6]) (dOp gIx (dVar 1) (dVar 3)))
  (sIf (tst (dOp gEq (dVar 5) (dC (.str "tie")))) (sSeq (sIf (tst (dOp (gIn true) (dVar 6) (dVar 4))) (sRet (dC .none)) sNil)
  (sApp 2 (dOwnIx 2 (dVar 6)))) (sSeq (sAsg (.one 7) (dCall gSortT (aCons (dKeys (iT (dVar 4)) (.one 9) (dFn 1 f_chain_key (aCons (dOwnIx 2 (dVar 9)) aNil)) [9]) aNil)))
  (sSeq (sIf (tst (dOp gGt (dVar 6) (dCall gLen (aCons (dVar 7) aNil)))) (sRet (dC .none)) sNil)
  (sSeq (sAsg (.one 8) (dIf (tst (dOp gEq (dVar 6) (dC (.int 0)))) (dTup aNil) (dCall gTuple (aCons (dLc (iT (dOp gIx (dVar 7) (dOp gSub (dVar 6) (dC (.int 1))))) (.one 10) tTrue (dUn gNeg (dVar 10)) [10]) aNil))))
  (sApp 2 (dOp gAdd (dVar 8) (dTup (aCons (dVar 3) aNil))))))))))
  (sFrz 2 (sRet (dVar 2)))))
def f_own_chains : List PyData → Option PyData := runP N_own_chains.length d_own_chains
theorem ok_own_chains (T : Txt K mg A D tk) : FnOk P w K mg base CX0 2 (A 19) (D 19) ["plan", "run"] (spP 2 f_own_chains) := by
  refine fn_P (b := d_own_chains) T.d_own_chains.F sc_own_chains fun cdv A outer s H E hr => ?_
  have nd := sc_own_chains.nd
  exact s_cons (s_newOwn nd rfl (by first | exact Or.inl rfl | exact Or.inr rfl))
      (s_cons (s_for (t := (.many [3, 4])) PassesOwn.never rfl (i_enumT rfl T.n_enumerate (qv 0)) (g_two rfl (pgs_cons (pg_name (i := 3) nd rfl (by first | exact Or.inl rfl | exact Or.inr rfl)) (pgs_cons (pg_name (i := 4) nd rfl (by first | exact Or.inl rfl | exact Or.inr rfl)) pgs_nil)))
      (s_cons (s_asg (t := (.many [5, 6])) (q_ix ix_seq o_ix (qv 1) (qv 3) (fun _ _ => rfl)) (g_two rfl (pgs_cons (pg_name (i := 5) nd rfl (by first | exact Or.inl rfl | exact Or.inr rfl)) (pgs_cons (pg_name (i := 6) nd rfl (by first | exact Or.inl rfl | exact Or.inr rfl)) pgs_nil))))
      (s_one (s_if (t_cmp (op_eqD hr.units) o_eq (qv 5) (q_str) (nomark _)) (s_cons (s_if (t_cmp op_notIn_seq (o_in true) (qv 6) (qv 4) rfl) (s_one (s_ret (q_non))) (s_nil))
      (s_one (s_app (pv 2) (q_ownIx 2 (pv 2) (qv 6) (fun _ _ => rfl))))) (s_cons (s_set nd rfl (by first | exact Or.inl rfl | exact Or.inr rfl) (q_cb (cr_sortedT hr.units) c_sortT rfl T.n_sorted (by decide +kernel) (a_cons (q_keys (own := [("other", 9)]) (t := (.one 9)) hr.units0 rfl nd rfl T.n_list (i_tup (qv 4)) (blkOk_by (own := [("other", 9)]) (N := N_own_chains) (sc := (defScope s_own_chains)) (by decide +kernel)) (fun _ _ _ _ _ => g_one 9 nd rfl (by first | exact Or.inl rfl | exact Or.inr rfl)) (fun _ _ _ _ _ => q_call (ok_chain_key T) (hr.mono (by decide)) rfl T.d_chain_key.g T.d_chain_key.F.kp T.d_chain_key.b (a_cons (q_ownIx 2 (pv 2) (qv 9) (fun _ _ => rfl)) a_nil))) a_nil)))
      (s_cons (s_if (t_cmp op_gt o_gt (qv 6) (q_cb call_len c_len rfl T.n_len (by decide +kernel) (a_cons (qv 7) a_nil)) (nomark _)) (s_one (s_ret (q_non))) (s_nil))
      (s_cons (s_set nd rfl (by first | exact Or.inl rfl | exact Or.inr rfl) (q_if (t_cmp (op_eqD hr.units) o_eq (qv 6) (q_int) (nomark _)) (q_tup a_nil) (q_cty call_tuple_of c_tuple rfl T.n_tuple (by decide +kernel) (a_cons (q_lc (own := [("part", 10)]) (t := (.one 10)) rfl nd (i_tup (q_ix ix_seq o_ix (qv 7) (q_op op_sub o_sub (qv 6) (q_int)) (fun _ _ => rfl))) (blkOk_by (own := [("part", 10)]) (N := N_own_chains) (sc := (defScope s_own_chains)) (by decide +kernel)) (fun _ _ _ _ _ => g_one 10 nd rfl (by first | exact Or.inl rfl | exact Or.inr rfl)) (fun _ _ _ _ _ => ts_nil) (fun _ _ _ _ _ => q_un un_neg o_neg (qv 10))) a_nil))))
      (s_one (s_app (pv 2) (q_op op_add3 o_add (qv 8) (q_tup (a_cons (qv 3) a_nil))))))))))))
      (ss_frz 2 (s_one (s_ret (qv 2)))))
/-! ### checked_chains -/
abbrev s_checked_chains : Stmt := top 20
abbrev N_checked_chains : List Str := ["plan", "run", "found", "place"]
theorem sc_checked_chains : FnScope N_checked_chains ["plan", "run"] (defScope s_checked_chains) := ⟨rfl, rfl, rfl, by decide +kernel, rfl, by decide +kernel, by decide +kernel⟩
def d_checked_chains : DS :=
  (sSeq (sExpr (dFn 1 f_check_plan (aCons (dVar 0) aNil)))
  (sSeq (sIf (tOrD (tNotD (tst (dIsi isTup (dVar 1)))) (tOrD (tst (dOp gNe (dCall gLen (aCons (dVar 1) aNil)) (dCall gLen (aCons (dVar 0) aNil)))) (tNotD (tst (dCall gAll (aCons (dLc (iT (dVar 1)) (.one 3) tTrue (dFn 1 f_is_place (aCons (dVar 3) aNil)) [3]) aNil)))))) sNever sNil)
  (sSeq (sAsg (.one 2) (dFn 2 f_own_chains (aCons (dVar 0) (aCons (dVar 1) aNil))))
  (sSeq (sIf (tst (dOp (gIsN false) (dVar 2) (dC .none))) sNever sNil)
  (sRet (dVar 2))))))
def f_checked_chains : List PyData → Option PyData := runP N_checked_chains.length d_checked_chains
theorem ok_checked_chains (T : Txt K mg A D tk) : FnOk P w K mg base CX0 5 (A 20) (D 20) ["plan", "run"] (spP 2 f_checked_chains) := by
  refine fn_P (b := d_checked_chains) T.d_checked_chains.F sc_checked_chains fun cdv A outer s H E hr => ?_
  have nd := sc_checked_chains.nd
  exact s_cons (s_expr (q_call (ok_check_plan T) (hr.mono (by decide)) rfl T.d_check_plan.g T.d_check_plan.F.kp T.d_check_plan.b (a_cons (qv 0) a_nil)))
      (s_cons (s_if (PW.pt (w_or (t_not (t_val (q_isi f_tup rfl T.n_isinstance (qv 1) (pe_bltn (by rfl) T.n_tuple (by decide +kernel) rfl)))) (w_or (t_cmp (op_neD hr.units) o_ne (q_cb call_len c_len rfl T.n_len (by decide +kernel) (a_cons (qv 1) a_nil)) (q_cb call_len c_len rfl T.n_len (by decide +kernel) (a_cons (qv 0) a_nil)) (nomark _)) (pw_or1 (t_not (t_val (q_cb (cr_all rfl) c_all rfl T.n_all (by decide +kernel) (a_cons (q_lc (own := [("place", 3)]) (t := (.one 3)) rfl nd (i_tup (qv 1)) (blkOk_by (own := [("place", 3)]) (N := N_checked_chains) (sc := (defScope s_checked_chains)) (by decide +kernel)) (fun _ _ _ _ _ => g_one 3 nd rfl (by first | exact Or.inl rfl | exact Or.inr rfl)) (fun _ _ _ _ _ => ts_nil) (fun _ _ _ _ _ => q_call (ok_is_place T) (hr.mono (by decide)) rfl T.d_is_place.g T.d_is_place.F.kp T.d_is_place.b (a_cons (qv 3) a_nil))) a_nil)))))))) (s_one (s_never)) (s_nil))
      (s_cons (s_set nd rfl (by first | exact Or.inl rfl | exact Or.inr rfl) (q_call (ok_own_chains T) (hr.mono (by decide)) rfl T.d_own_chains.g T.d_own_chains.F.kp T.d_own_chains.b (a_cons (qv 0) (a_cons (qv 1) a_nil))))
      (s_cons (s_if (t_cmp op_isN o_isN (qv 2) (q_non) (nomark _)) (s_one (s_never)) (s_nil))
      (s_one (s_ret (qv 2))))))
/-! ### tie_names -/
abbrev s_tie_names : Stmt := top 21
abbrev N_tie_names : List Str := ["plan", "run", "lines", "item", "line"]
theorem sc_tie_names : FnScope N_tie_names ["plan", "run"] (defScope s_tie_names) := ⟨rfl, rfl, rfl, by decide +kernel, rfl, by decide +kernel, by decide +kernel⟩
def d_tie_names : DS :=
  (sSeq (sAsg (.one 2) (dFn 2 f_checked_chains (aCons (dVar 0) (aCons (dVar 1) aNil))))
  (sRet (dCall gTuple (aCons (dLc (iEL (dVar 2)) (.many [3, 4]) tTrue (dTup (aCons (dVar 4) (aCons (dIf (tst (dOp gEq (dOp gIx (dOp gIx (dVar 1) (dVar 3)) (dC (.int 0))) (dC (.str "tie")))) (dVar 3) (dC .none)) aNil))) [3, 4]) aNil))))
def f_tie_names : List PyData → Option PyData := runP N_tie_names.length d_tie_names
theorem ok_tie_names (T : Txt K mg A D tk) : FnOk P w K mg base CX0 6 (A 21) (D 21) ["plan", "run"] (spP 2 f_tie_names) := by
  refine fn_P (b := d_tie_names) T.d_tie_names.F sc_tie_names fun cdv A outer s H E hr => ?_
  have nd := sc_tie_names.nd
  exact s_cons (s_set nd rfl (by first | exact Or.inl rfl | exact Or.inr rfl) (q_call (ok_checked_chains T) (hr.mono (by decide)) rfl T.d_checked_chains.g T.d_checked_chains.F.kp T.d_checked_chains.b (a_cons (qv 0) (a_cons (qv 1) a_nil))))
      (s_one (s_ret (q_cty call_tuple_of c_tuple rfl T.n_tuple (by decide +kernel) (a_cons (q_lc (own := [("item", 3), ("line", 4)]) (t := (.many [3, 4])) rfl nd (i_enum rfl T.n_enumerate (qv 2)) (blkOk_by (own := [("item", 3), ("line", 4)]) (N := N_tie_names) (sc := (defScope s_tie_names)) (by decide +kernel)) (fun _ _ _ _ _ => g_two rfl (pgs_cons (pg_name (i := 3) nd rfl (by first | exact Or.inl rfl | exact Or.inr rfl)) (pgs_cons (pg_name (i := 4) nd rfl (by first | exact Or.inl rfl | exact Or.inr rfl)) pgs_nil))) (fun _ _ _ _ _ => ts_nil) (fun _ _ _ _ _ => q_tup (a_cons (qv 4) (a_cons (q_if (t_cmp (op_eqD hr.units) o_eq (q_ix ix_seq o_ix (q_ix ix_seq o_ix (qv 1) (qv 3) (fun _ _ => rfl)) (q_int) (fun _ _ => rfl)) (q_str) (nomark _)) (qv 3) (q_non)) a_nil)))) a_nil))))
/-! ### many_tie_names -/
abbrev s_many_tie_names : Stmt := top 22
abbrev N_many_tie_names : List Str := ["plan"]
theorem sc_many_tie_names : FnScope N_many_tie_names ["plan"] (defScope s_many_tie_names) := ⟨rfl, rfl, rfl, by decide +kernel, rfl, by decide +kernel, by decide +kernel⟩
def d_many_tie_names : DS :=
  (sSeq (sExpr (dFn 1 f_check_plan (aCons (dVar 0) aNil)))
  (sRet (dOp gSub (dOp gMulC (dC (.int 2)) (dFn 1 f_many_chains (aCons (dVar 0) aNil))) (dCall gLen (aCons (dVar 0) aNil)))))
def f_many_tie_names : List PyData → Option PyData := runP N_many_tie_names.length d_many_tie_names
theorem ok_many_tie_names (T : Txt K mg A D tk) : FnOk P w K mg base CX0 5 (A 22) (D 22) ["plan"] (spP 1 f_many_tie_names) := by
  refine fn_P (b := d_many_tie_names) T.d_many_tie_names.F sc_many_tie_names fun cdv A outer s H E hr => ?_
  have nd := sc_many_tie_names.nd
  exact s_cons (s_expr (q_call (ok_check_plan T) (hr.mono (by decide)) rfl T.d_check_plan.g T.d_check_plan.F.kp T.d_check_plan.b (a_cons (qv 0) a_nil)))
      (s_one (s_ret (q_op op_sub o_sub (q_op op_mul o_mul (q_int) (q_call (ok_many_chains T) (hr.mono (by decide)) rfl T.d_many_chains.g T.d_many_chains.F.kp T.d_many_chains.b (a_cons (qv 0) a_nil))) (q_cb call_len c_len rfl T.n_len (by decide +kernel) (a_cons (qv 0) a_nil)))))
/-! ### is_tie_name -/
abbrev s_is_tie_name : Stmt := top 23
abbrev N_is_tie_name : List Str := ["thing", "last", "item"]
theorem sc_is_tie_name : FnScope N_is_tie_name ["thing"] (defScope s_is_tie_name) := ⟨rfl, rfl, rfl, by decide +kernel, rfl, by decide +kernel, by decide +kernel⟩
def d_is_tie_name : DS :=
  (sSeq (sIf (tOrD (tNotD (tst (dIsi isTup (dVar 0)))) (tOrD (tst (dOp gNe (dCall gLen (aCons (dVar 0) aNil)) (dC (.int 2)))) (tOrD (tNotD (tst (dIsi isTup (dOp gIx (dVar 0) (dC (.int 0)))))) (tst (dOp gEq (dCall gLen (aCons (dOp gIx (dVar 0) (dC (.int 0))) aNil)) (dC (.int 0))))))) (sRet (dC (.bool false))) sNil)
  (sSeq (sAsg (.one 1) (dUn gNeg (dC (.int 1))))
  (sSeq (sFor (iT (dOp gIx (dVar 0) (dC (.int 0)))) (.one 2)
  (sSeq (sIf (tNotD (tst (dFn 3 f_is_within (aCons (dVar 2) (aCons (dOp gAdd (dVar 1) (dC (.int 1))) (aCons (dOp gSub (dC (.int 40)) (dC (.int 1))) aNil)))))) (sRet (dC (.bool false))) sNil)
  (sAsg (.one 1) (dVar 2))))
  (sRet (dOr (dOp (gIsN false) (dOp gIx (dVar 0) (dC (.int 1))) (dC .none)) (dFn 3 f_is_within (aCons (dOp gIx (dVar 0) (dC (.int 1))) (aCons (dOp gAdd (dVar 1) (dC (.int 1))) (aCons (dOp gSub (dC (.int 40)) (dC (.int 1))) aNil)))))))))
def f_is_tie_name : List PyData → Option PyData := runP N_is_tie_name.length d_is_tie_name
theorem ok_is_tie_name (T : Txt K mg A D tk) : FnOk P w K mg base CX0 3 (A 23) (D 23) ["thing"] (spP 1 f_is_tie_name) := by
  refine fn_P (b := d_is_tie_name) T.d_is_tie_name.F sc_is_tie_name fun cdv A outer s H E hr => ?_
  have nd := sc_is_tie_name.nd
  exact s_cons (s_if (PW.pt (w_or (t_not (t_val (q_isi f_tup rfl T.n_isinstance (qv 0) (pe_bltn (by rfl) T.n_tuple (by decide +kernel) rfl)))) (w_or (t_cmp (op_neD hr.units) o_ne (q_cb call_len c_len rfl T.n_len (by decide +kernel) (a_cons (qv 0) a_nil)) (q_int) (nomark _)) (w_or (t_not (t_val (q_isi f_tup rfl T.n_isinstance (q_ix ix_seq o_ix (qv 0) (q_int) (fun _ _ => rfl)) (pe_bltn (by rfl) T.n_tuple (by decide +kernel) rfl)))) (pw_or1 (t_cmp (op_eqD hr.units) o_eq (q_cb call_len c_len rfl T.n_len (by decide +kernel) (a_cons (q_ix ix_seq o_ix (qv 0) (q_int) (fun _ _ => rfl)) a_nil)) (q_int) (nomark _))))))) (s_one (s_ret (q_bl))) (s_nil))
      (s_cons (s_set nd rfl (by first | exact Or.inl rfl | exact Or.inr rfl) (q_un un_neg o_neg (q_int)))
      (s_cons (s_for (t := (.one 2)) PassesOwn.never rfl (i_tup (q_ix ix_seq o_ix (qv 0) (q_int) (fun _ _ => rfl))) (g_one 2 nd rfl (by first | exact Or.inl rfl | exact Or.inr rfl))
      (s_cons (s_if (t_not (t_val (q_call (ok_is_within T) (hr.mono (by decide)) rfl T.d_is_within.g T.d_is_within.F.kp T.d_is_within.b (a_cons (qv 2) (a_cons (q_op op_add3 o_add (qv 1) (q_int)) (a_cons (q_op op_sub o_sub (q_glob rfl T.most) (q_int)) a_nil)))))) (s_one (s_ret (q_bl))) (s_nil))
      (s_one (s_set nd rfl (by first | exact Or.inl rfl | exact Or.inr rfl) (qv 2)))))
      (s_one (s_ret (q_or (q_cmp op_isN o_isN (q_ix ix_seq o_ix (qv 0) (q_int) (fun _ _ => rfl)) (q_non) (nomark _)) (pe_one (q_call (ok_is_within T) (hr.mono (by decide)) rfl T.d_is_within.g T.d_is_within.F.kp T.d_is_within.b (a_cons (q_ix ix_seq o_ix (qv 0) (q_int) (fun _ _ => rfl)) (a_cons (q_op op_add3 o_add (qv 1) (q_int)) (a_cons (q_op op_sub o_sub (q_glob rfl T.most) (q_int)) a_nil))))))))))
/-! ### told_of -/
abbrev s_told_of : Stmt := top 24
abbrev N_told_of : List Str := ["one", "other"]
theorem sc_told_of : FnScope N_told_of ["one", "other"] (defScope s_told_of) := ⟨rfl, rfl, rfl, by decide +kernel, rfl, by decide +kernel, by decide +kernel⟩
def d_told_of : DS :=
  (sSeq (sIf (tst (dOp gEq (dVar 0) (dVar 1))) (sRet (dC (.str "tied"))) sNil)
  (sRet (dIf (tst (dOp gLt (dFn 1 f_chain_key (aCons (dVar 0) aNil)) (dFn 1 f_chain_key (aCons (dVar 1) aNil)))) (dC (.str "ahead")) (dC (.str "behind")))))
def f_told_of : List PyData → Option PyData := runP N_told_of.length d_told_of
theorem ok_told_of (T : Txt K mg A D tk) : FnOk P w K mg base CX0 2 (A 24) (D 24) ["one", "other"] (spP 2 f_told_of) := by
  refine fn_P (b := d_told_of) T.d_told_of.F sc_told_of fun cdv A outer s H E hr => ?_
  have nd := sc_told_of.nd
  exact s_cons (s_if (t_cmp (op_eqD hr.units) o_eq (qv 0) (qv 1) (nomark _)) (s_one (s_ret (q_str))) (s_nil))
      (s_one (s_ret (q_if (t_cmp (op_lt2 hr.units0) o_lt (q_call (ok_chain_key T) (hr.mono (by decide)) rfl T.d_chain_key.g T.d_chain_key.F.kp T.d_chain_key.b (a_cons (qv 0) a_nil)) (q_call (ok_chain_key T) (hr.mono (by decide)) rfl T.d_chain_key.g T.d_chain_key.F.kp T.d_chain_key.b (a_cons (qv 1) a_nil)) (nomark _)) (q_str) (q_str))))
end
end K71

set_option Elab.async false
set_option linter.all false
set_option maxRecDepth 100000
set_option maxHeartbeats 4000000
namespace K71
open PySem L2
section
variable {P : Program} {w : World} {K : PySem.W.Frag} {mg : Str → Option Value} {base : Heap} {A : Nat → Addr} {D : Nat → FuncData} {tk : Tok}
/-! ### l_draw -/
abbrev s_l_draw : Stmt := top 28
abbrev N_l_draw : List Str := ["_law_bag_here", "_law_many", "_law_value", "_law_digit"]
theorem sc_l_draw : FnScope N_l_draw ["_law_bag_here", "_law_many"] (defScope s_l_draw) := ⟨rfl, rfl, rfl, by decide +kernel, rfl, by decide +kernel, by decide +kernel⟩
def d_l_draw : DS :=
  (sSeq (sIf (tst (dOp gGt (dBagIx 0 2) (dC (.int 0)))) (sSeq (sAsg (.one 3) (dOp gMod (dCall gInt (aCons (dBagIx 0 2) aNil)) (dVar 1)))
  (sSeq (sBagSet 0 2 (dOp gDiv (dBagIx 0 2) (dVar 1)))
  (sRet (dVar 3)))) sNil)
  (sSeq (sBagSet 0 1 (dOp gAdd (dBagIx 0 1) (dC (.int 1))))
  (sSeq (sAsg (.one 2) (dOp gMod (dCall gInt (aCons (dOp gAdd (dOp gMulC (dOp gAdd (dBagIx 0 0) (dOp gMulC (dBagIx 0 1) (dC (.int 7919)))) (dC (.int 48271))) (dC (.int 11))) aNil)) (dC (.int 2147483647))))
  (sSeq (sAsg (.one 2) (dOp gMod (dCall gInt (aCons (dOp gAdd (dOp gMulC (dVar 2) (dOp gAdd (dOp gDiv (dVar 2) (dC (.int 1009))) (dC (.int 69621)))) (dBagIx 0 1)) aNil)) (dC (.int 2147483629))))
  (sSeq (sAsg (.one 2) (dOp gMod (dCall gInt (aCons (dOp gMulC (dVar 2) (dOp gAdd (dOp gDiv (dVar 2) (dC (.int 2003))) (dC (.int 40692)))) aNil)) (dC (.int 2147483399))))
  (sRet (dOp gMod (dCall gInt (aCons (dOp gDiv (dVar 2) (dC (.int 64))) aNil)) (dVar 1))))))))
def f_l_draw : Bag → List PyData → Option (PyData × Bag) := runB N_l_draw.length d_l_draw
theorem ok_l_draw (T : Txt K mg A D tk) : FnOk P w K mg base CX0 1 (A 28) (D 28) ["_law_bag_here", "_law_many"] (spB 1 f_l_draw) := by
  refine fn_B (b := d_l_draw) T.d_l_draw.F sc_l_draw fun cdv A outer s H E hr => ?_
  have nd := sc_l_draw.nd
  exact s_cons (s_if (t_cmp op_gt o_gt (q_bagIx 0 (pv 0) pe_int (fun _ _ => rfl)) (q_int) (nomark _)) (s_cons (s_set nd rfl (by first | exact Or.inl rfl | exact Or.inr rfl) (q_op op_mod o_mod (q_cty call_int1 c_int rfl T.n_int (by decide +kernel) (a_cons (q_bagIx 0 (pv 0) pe_int (fun _ _ => rfl)) a_nil)) (qv 1)))
      (s_cons (s_bagSet 0 (q_op op_fdiv o_div (q_bagIx 0 (pv 0) pe_int (fun _ _ => rfl)) (qv 1)) (pv 0) pe_int)
      (s_one (s_ret (qv 3))))) (s_nil))
      (s_cons (s_bagSet 0 (q_op op_add3 o_add (q_bagIx 0 (pv 0) pe_int (fun _ _ => rfl)) (q_int)) (pv 0) pe_int)
      (s_cons (s_set nd rfl (by first | exact Or.inl rfl | exact Or.inr rfl) (q_op op_mod o_mod (q_cty call_int1 c_int rfl T.n_int (by decide +kernel) (a_cons (q_op op_add3 o_add (q_op op_mul o_mul (q_op op_add3 o_add (q_bagIx 0 (pv 0) pe_int (fun _ _ => rfl)) (q_op op_mul o_mul (q_bagIx 0 (pv 0) pe_int (fun _ _ => rfl)) (q_int))) (q_int)) (q_int)) a_nil)) (q_int)))
      (s_cons (s_set nd rfl (by first | exact Or.inl rfl | exact Or.inr rfl) (q_op op_mod o_mod (q_cty call_int1 c_int rfl T.n_int (by decide +kernel) (a_cons (q_op op_add3 o_add (q_op op_mul o_mul (qv 2) (q_op op_add3 o_add (q_op op_fdiv o_div (qv 2) (q_int)) (q_int))) (q_bagIx 0 (pv 0) pe_int (fun _ _ => rfl))) a_nil)) (q_int)))
      (s_cons (s_set nd rfl (by first | exact Or.inl rfl | exact Or.inr rfl) (q_op op_mod o_mod (q_cty call_int1 c_int rfl T.n_int (by decide +kernel) (a_cons (q_op op_mul o_mul (qv 2) (q_op op_add3 o_add (q_op op_fdiv o_div (qv 2) (q_int)) (q_int))) a_nil)) (q_int)))
      (s_one (s_ret (q_op op_mod o_mod (q_cty call_int1 c_int rfl T.n_int (by decide +kernel) (a_cons (q_op op_fdiv o_div (qv 2) (q_int)) a_nil)) (qv 1))))))))
/-! ### l_any -/
abbrev s_l_any : Stmt := top 29
abbrev N_l_any : List Str := ["_law_bag_here", "_law_things"]
theorem sc_l_any : FnScope N_l_any ["_law_bag_here", "_law_things"] (defScope s_l_any) := ⟨rfl, rfl, rfl, by decide +kernel, rfl, by decide +kernel, by decide +kernel⟩
def d_l_any : DS :=
  (sRet (dOp gIx (dVar 1) (dBag 0 1 f_l_draw (aCons (dCall gLen (aCons (dVar 1) aNil)) aNil))))
def f_l_any : Bag → List PyData → Option (PyData × Bag) := runB N_l_any.length d_l_any
theorem ok_l_any (T : Txt K mg A D tk) : FnOk P w K mg base CX0 2 (A 29) (D 29) ["_law_bag_here", "_law_things"] (spB 1 f_l_any) := by
  refine fn_B (b := d_l_any) T.d_l_any.F sc_l_any fun cdv A outer s H E hr => ?_
  have nd := sc_l_any.nd
  exact s_one (s_ret (q_ix ix_seq o_ix (qv 1) (q_bag (ok_l_draw T) (hr.mono (by decide)) rfl T.d_l_draw.g T.d_l_draw.F.kp T.d_l_draw.b (pv 0) (a_cons (q_cb call_len c_len rfl T.n_len (by decide +kernel) (a_cons (qv 1) a_nil)) a_nil)) (fun _ _ => rfl)))
/-! ### l_is -/
abbrev s_l_is : Stmt := top 30
abbrev N_l_is : List Str := ["_law_told_here", "_law_due", "_law_k", "_law_key"]
theorem sc_l_is : FnScope N_l_is ["_law_told_here", "_law_due"] (defScope s_l_is) := ⟨rfl, rfl, rfl, by decide +kernel, rfl, by decide +kernel, by decide +kernel⟩
def d_l_is (rec : List PyData → Option PyData) : DS :=
  (sSeq (sIf (tst (dOp (gIsN false) (dVar 1) (dC .none))) (sRet (dOp (gIsN false) (dVar 0) (dC .none))) sNil)
  (sSeq (sIf (tst (dIsi isBool (dVar 1))) (sRet (dAnd (dIsi isBool (dVar 0)) (dOp gEq (dVar 0) (dVar 1)))) sNil)
  (sSeq (sIf (tst (dIsi isInt (dVar 1))) (sRet (dAnd (dIsi isInt (dVar 0)) (dAnd (dNot (dIsi isBool (dVar 0))) (dOp gEq (dVar 0) (dVar 1))))) sNil)
  (sSeq (sIf (tst (dIsi (fun d => isTup d || isLst d) (dVar 1))) (sSeq (sIf (tOrD (tst (dOp gNe (dIsi isTup (dVar 1)) (dIsi isTup (dVar 0)))) (tst (dOp gNe (dIsi isLst (dVar 1)) (dIsi isLst (dVar 0))))) (sRet (dC (.bool false))) sNil)
  (sRet (dAnd (dOp gEq (dCall gLen (aCons (dVar 0) aNil)) (dCall gLen (aCons (dVar 1) aNil))) (dCall gAll (aCons (dLc (iR (dCall gLen (aCons (dVar 1) aNil))) (.one 2) tTrue (dFn 2 rec (aCons (dOp gIx (dVar 0) (dVar 2)) (aCons (dOp gIx (dVar 1) (dVar 2)) aNil))) [2]) aNil))))) sNil)
  (sSeq (sIf (tst (dIsi isDct (dVar 1))) sNever sNil)
  (sRet (dAnd (dIsi isStr (dVar 0)) (dOp gEq (dVar 0) (dVar 1)))))))))
def f_l_is : Nat → List PyData → Option PyData
  | 0 => fun _ => none
  | n + 1 => runP N_l_is.length (d_l_is (f_l_is n))
theorem ok_l_is (T : Txt K mg A D tk) : ∀ n : Nat, FnOk P w K mg base CX0 (0 + n) (A 30) (D 30) ["_law_told_here", "_law_due"] (spP 2 (f_l_is n))
  | 0 => ⟨fun vs H Q E h => h.1, fun A outer s H args us vs Q E _ _ _ _ h => by obtain ⟨_, _, _, _, _, _, e, _⟩ := h; cases e⟩
  | n + 1 => by
    have G := ok_l_is T n
    refine fn_P (b := d_l_is (f_l_is n)) T.d_l_is.F sc_l_is fun cdv A outer s H E hr => ?_
    have nd := sc_l_is.nd
    exact s_cons (s_if (t_cmp op_isN o_isN (qv 1) (q_non) (nomark _)) (s_one (s_ret (q_cmp op_isN o_isN (qv 0) (q_non) (nomark _)))) (s_nil))
      (s_cons (s_if (t_val (q_isi f_bool rfl T.n_isinstance (qv 1) (pe_bltn (by rfl) T.n_bool (by decide +kernel) rfl))) (s_one (s_ret (q_and (q_isi f_bool rfl T.n_isinstance (qv 0) (pe_bltn (by rfl) T.n_bool (by decide +kernel) rfl)) (pe_one (q_cmp (op_eqD hr.units) o_eq (qv 0) (qv 1) (nomark _)))))) (s_nil))
      (s_cons (s_if (t_val (q_isi f_int rfl T.n_isinstance (qv 1) (pe_bltn (by rfl) T.n_int (by decide +kernel) rfl))) (s_one (s_ret (q_and (q_isi f_int rfl T.n_isinstance (qv 0) (pe_bltn (by rfl) T.n_int (by decide +kernel) rfl)) (q_and (q_not (q_isi f_bool rfl T.n_isinstance (qv 0) (pe_bltn (by rfl) T.n_bool (by decide +kernel) rfl))) (pe_one (q_cmp (op_eqD hr.units) o_eq (qv 0) (qv 1) (nomark _))))))) (s_nil))
      (s_cons (s_if (t_val (q_isi2 f_tup f_lst rfl T.n_isinstance (pa_cons (qv 1) (pa_cons (pe_tup (pa_cons (pe_bltn (by rfl) T.n_tuple (by decide +kernel) rfl) (pa_cons (pe_bltn (by rfl) T.n_list (by decide +kernel) rfl) pa_nil))) pa_nil)))) (s_cons (s_if (PW.pt (w_or (t_cmp (op_neD hr.units) o_ne (q_isi f_tup rfl T.n_isinstance (qv 1) (pe_bltn (by rfl) T.n_tuple (by decide +kernel) rfl)) (q_isi f_tup rfl T.n_isinstance (qv 0) (pe_bltn (by rfl) T.n_tuple (by decide +kernel) rfl)) (nomark _)) (pw_or1 (t_cmp (op_neD hr.units) o_ne (q_isi f_lst rfl T.n_isinstance (qv 1) (pe_bltn (by rfl) T.n_list (by decide +kernel) rfl)) (q_isi f_lst rfl T.n_isinstance (qv 0) (pe_bltn (by rfl) T.n_list (by decide +kernel) rfl)) (nomark _))))) (s_one (s_ret (q_bl))) (s_nil))
      (s_one (s_ret (q_and (q_cmp (op_eqD hr.units) o_eq (q_cb call_len c_len rfl T.n_len (by decide +kernel) (a_cons (qv 0) a_nil)) (q_cb call_len c_len rfl T.n_len (by decide +kernel) (a_cons (qv 1) a_nil)) (nomark _)) (pe_one (q_cb (cr_all rfl) c_all rfl T.n_all (by decide +kernel) (a_cons (q_lc (own := [("_law_k", 2)]) (t := (.one 2)) rfl nd (i_range rfl T.n_range (q_cb call_len c_len rfl T.n_len (by decide +kernel) (a_cons (qv 1) a_nil))) (blkOk_by (own := [("_law_k", 2)]) (N := N_l_is) (sc := (defScope s_l_is)) (by decide +kernel)) (fun _ _ _ _ _ => g_one 2 nd rfl (by first | exact Or.inl rfl | exact Or.inr rfl)) (fun _ _ _ _ _ => ts_nil) (fun _ _ _ _ _ => q_call G (hr.mono (Nat.le_refl _)) rfl T.d_l_is.g T.d_l_is.F.kp T.d_l_is.b (a_cons (q_ix ix_seq o_ix (qv 0) (qv 2) (fun _ _ => rfl)) (a_cons (q_ix ix_seq o_ix (qv 1) (qv 2) (fun _ _ => rfl)) a_nil)))) a_nil))))))) (s_nil))
      (s_cons (s_if (t_val (q_isi f_dct rfl T.n_isinstance (qv 1) (pe_bltn (by rfl) T.n_dict (by decide +kernel) rfl))) (ss_never) (s_nil))
      (s_one (s_ret (q_and (q_isi f_str rfl T.n_isinstance (qv 0) (pe_bltn (by rfl) T.n_str (by decide +kernel) rfl)) (pe_one (q_cmp (op_eqD hr.units) o_eq (qv 0) (qv 1) (nomark _))))))))))
/-! ### l_closed -/
abbrev s_l_closed : Stmt := top 32
abbrev N_l_closed : List Str := ["_law_rows", "_law_found", "_law_row", "_law_known", "_law_item", "_law_more"]
theorem sc_l_closed : FnScope N_l_closed ["_law_rows"] (defScope s_l_closed) := ⟨rfl, rfl, rfl, by decide +kernel, rfl, by decide +kernel, by decide +kernel⟩
def d_l_closed : DS :=
  (sSeq (sNewOwn 1)
  (sSeq (sFor (iL (dVar 0)) (.one 2)
  (sSeq (sNewOkd 3)
  (sSeq (sFor (iL (dVar 2)) (.one 4)
  (sSeq (sPutOkd 3 (dVar 4))
  (sFor (iT (dOwnIx 1 (dVar 4))) (.one 5)
  (sPutOkd 3 (dVar 5)))))
  (sApp 1 (dCall gTuple (aCons (dCall gSorted (aCons (dOkdList 3) aNil)) aNil))))))
  (sFrz 1 (sRet (dCall gTuple (aCons (dVar 1) aNil))))))
def f_l_closed : List PyData → Option PyData := runP N_l_closed.length d_l_closed
theorem ok_l_closed (T : Txt K mg A D tk) : FnOk P w K mg base CX0 1 (A 32) (D 32) ["_law_rows"] (spP 1 f_l_closed) := by
  refine fn_P (b := d_l_closed) T.d_l_closed.F sc_l_closed fun cdv A outer s H E hr => ?_
  have nd := sc_l_closed.nd
  exact s_cons (s_newOwn nd rfl (by first | exact Or.inl rfl | exact Or.inr rfl))
      (s_cons (s_for (t := (.one 2)) PassesOwn.never rfl (i_list (qv 0)) (g_one 2 nd rfl (by first | exact Or.inl rfl | exact Or.inr rfl))
      (s_cons (s_newOkd nd rfl (by first | exact Or.inl rfl | exact Or.inr rfl))
      (s_cons (s_for (t := (.one 4)) PassesOwn.never rfl (i_list (qv 2)) (g_one 4 nd rfl (by first | exact Or.inl rfl | exact Or.inr rfl))
      (s_cons (s_putOkd (hu_of hr) (pv 3) (qv 4))
      (s_one (s_for (t := (.one 5)) PassesOwn.never rfl (i_tup (q_ownIx 1 (pv 1) (qv 4) (fun _ _ => rfl))) (g_one 5 nd rfl (by first | exact Or.inl rfl | exact Or.inr rfl))
      (s_one (s_putOkd (hu_of hr) (pv 3) (qv 5)))))))
      (s_one (s_app (pv 1) (q_cty call_tuple_of c_tuple rfl T.n_tuple (by decide +kernel) (a_cons (q_cb cr_sortedI c_sorted rfl T.n_sorted (by decide +kernel) (a_cons (q_okdList 3 rfl rfl T.n_list (pv 3)) a_nil)) a_nil)))))))
      (ss_frz 1 (s_one (s_ret (q_cty call_tuple_of c_tuple rfl T.n_tuple (by decide +kernel) (a_cons (qv 1) a_nil))))))
/-! ### l_sized -/
abbrev s_l_sized : Stmt := top 33
abbrev N_l_sized : List Str := ["_law_bag_here", "_law_size", "_law_thick", "_law_rows", "_law_item", "_law_other"]
theorem sc_l_sized : FnScope N_l_sized ["_law_bag_here", "_law_size"] (defScope s_l_sized) := ⟨rfl, rfl, rfl, by decide +kernel, rfl, by decide +kernel, by decide +kernel⟩
def d_l_sized : DS :=
  (sSeq (sAsg (.one 2) (dOp gAdd (dC (.int 1)) (dBag 0 1 f_l_draw (aCons (dC (.int 5)) aNil))))
  (sSeq (sNewOwn 3)
  (sSeq (sFor (iR (dVar 1)) (.one 4)
  (sApp 3 (dLc (iR (dVar 4)) (.one 5) (tAndD (tst (dOp gLt (dBag 0 1 f_l_draw (aCons (dC (.int 6)) aNil)) (dVar 2))) (tOrD (tst (dOp gLt (dVar 4) (dC (.int 9)))) (tst (dOp gGt (dVar 5) (dOp gSub (dVar 4) (dC (.int 5))))))) (dVar 5) [5])))
  (sFrz 3 (sRet (dFn 1 f_l_closed (aCons (dVar 3) aNil)))))))
def f_l_sized : Bag → List PyData → Option (PyData × Bag) := runB N_l_sized.length d_l_sized
theorem ok_l_sized (T : Txt K mg A D tk) : FnOk P w K mg base CX0 2 (A 33) (D 33) ["_law_bag_here", "_law_size"] (spB 1 f_l_sized) := by
  refine fn_B (b := d_l_sized) T.d_l_sized.F sc_l_sized fun cdv A outer s H E hr => ?_
  have nd := sc_l_sized.nd
  exact s_cons (s_set nd rfl (by first | exact Or.inl rfl | exact Or.inr rfl) (q_op op_add3 o_add (q_int) (q_bag (ok_l_draw T) (hr.mono (by decide)) rfl T.d_l_draw.g T.d_l_draw.F.kp T.d_l_draw.b (pv 0) (a_cons (q_int) a_nil))))
      (s_cons (s_newOwn nd rfl (by first | exact Or.inl rfl | exact Or.inr rfl))
      (s_cons (s_for (t := (.one 4)) PassesOwn.never rfl (i_range rfl T.n_range (qv 1)) (g_one 4 nd rfl (by first | exact Or.inl rfl | exact Or.inr rfl))
      (s_one (s_app (pv 3) (q_lc (own := [("_law_other", 5)]) (t := (.one 5)) rfl nd (i_range rfl T.n_range (qv 4)) (blkOk_by (own := [("_law_other", 5)]) (N := N_l_sized) (sc := (defScope s_l_sized)) (by decide +kernel)) (fun _ _ _ _ _ => g_one 5 nd rfl (by first | exact Or.inl rfl | exact Or.inr rfl)) (fun _ _ _ _ _ => ts_one (PW.pt (w_and (t_cmp (op_lt2 hr.units0) o_lt (q_bag (ok_l_draw T) (hr.mono (by decide)) rfl T.d_l_draw.g T.d_l_draw.F.kp T.d_l_draw.b (pv 0) (a_cons (q_int) a_nil)) (qv 2) (nomark _)) (pw_and1 (PW.pt (w_or (t_cmp (op_lt2 hr.units0) o_lt (qv 4) (q_int) (nomark _)) (pw_or1 (t_cmp op_gt o_gt (qv 5) (q_op op_sub o_sub (qv 4) (q_int)) (nomark _))))))))) (fun _ _ _ _ _ => qv 5)))))
      (ss_frz 3 (s_one (s_ret (q_call (ok_l_closed T) (hr.mono (by decide)) rfl T.d_l_closed.g T.d_l_closed.F.kp T.d_l_closed.b (a_cons (qv 3) a_nil)))))))
/-! ### l_ends -/
abbrev s_l_ends : Stmt := top 34
abbrev N_l_ends : List Str := ["_law_plan_here", "_law_found", "_law_seen", "_law_item"]
theorem sc_l_ends : FnScope N_l_ends ["_law_plan_here"] (defScope s_l_ends) := ⟨rfl, rfl, rfl, by decide +kernel, rfl, by decide +kernel, by decide +kernel⟩
def d_l_ends : DS :=
  (sSeq (sNewOwn 1)
  (sSeq (sFor (iT (dVar 0)) (.one 2)
  (sApp 1 (dOp gAdd (dC (.int 1)) (dCall gSum (aCons (dLc (iT (dVar 2)) (.one 3) tTrue (dOwnIx 1 (dVar 3)) [3]) aNil)))))
  (sFrz 1 (sRet (dVar 1)))))
def f_l_ends : List PyData → Option PyData := runP N_l_ends.length d_l_ends
theorem ok_l_ends (T : Txt K mg A D tk) : FnOk P w K mg base CX0 1 (A 34) (D 34) ["_law_plan_here"] (spP 1 f_l_ends) := by
  refine fn_P (b := d_l_ends) T.d_l_ends.F sc_l_ends fun cdv A outer s H E hr => ?_
  have nd := sc_l_ends.nd
  exact s_cons (s_newOwn nd rfl (by first | exact Or.inl rfl | exact Or.inr rfl))
      (s_cons (s_for (t := (.one 2)) PassesOwn.never rfl (i_tup (qv 0)) (g_one 2 nd rfl (by first | exact Or.inl rfl | exact Or.inr rfl))
      (s_one (s_app (pv 1) (q_op op_add3 o_add (q_int) (q_cb (cr_sum rfl) c_sum rfl T.n_sum (by decide +kernel) (a_cons (q_lc (own := [("_law_item", 3)]) (t := (.one 3)) rfl nd (i_tup (qv 2)) (blkOk_by (own := [("_law_item", 3)]) (N := N_l_ends) (sc := (defScope s_l_ends)) (by decide +kernel)) (fun _ _ _ _ _ => g_one 3 nd rfl (by first | exact Or.inl rfl | exact Or.inr rfl)) (fun _ _ _ _ _ => ts_nil) (fun _ _ _ _ _ => q_ownIx 1 (pv 1) (qv 3) (fun _ _ => rfl))) a_nil))))))
      (ss_frz 1 (s_one (s_ret (qv 1)))))
/-! ### l_plan -/
abbrev s_l_plan : Stmt := top 35
abbrev N_l_plan : List Str := ["_law_bag_here", "_law_most"]
theorem sc_l_plan : FnScope N_l_plan ["_law_bag_here", "_law_most"] (defScope s_l_plan) := ⟨rfl, rfl, rfl, by decide +kernel, rfl, by decide +kernel, by decide +kernel⟩
def d_l_plan : DS :=
  (sRet (dBag 0 1 f_l_sized (aCons (dBag 0 1 f_l_draw (aCons (dOp gAdd (dVar 1) (dC (.int 1))) aNil)) aNil)))
def f_l_plan : Bag → List PyData → Option (PyData × Bag) := runB N_l_plan.length d_l_plan
theorem ok_l_plan (T : Txt K mg A D tk) : FnOk P w K mg base CX0 3 (A 35) (D 35) ["_law_bag_here", "_law_most"] (spB 1 f_l_plan) := by
  refine fn_B (b := d_l_plan) T.d_l_plan.F sc_l_plan fun cdv A outer s H E hr => ?_
  have nd := sc_l_plan.nd
  exact s_one (s_ret (q_bag (ok_l_sized T) (hr.mono (by decide)) rfl T.d_l_sized.g T.d_l_sized.F.kp T.d_l_sized.b (pv 0) (a_cons (q_bag (ok_l_draw T) (hr.mono (by decide)) rfl T.d_l_draw.g T.d_l_draw.F.kp T.d_l_draw.b (pv 0) (a_cons (q_op op_add3 o_add (qv 1) (q_int)) a_nil)) a_nil)))
/-! ### l_is_index -/
abbrev s_l_is_index : Stmt := top 36
abbrev N_l_is_index : List Str := ["_law_thing", "_law_bound"]
theorem sc_l_is_index : FnScope N_l_is_index ["_law_thing", "_law_bound"] (defScope s_l_is_index) := ⟨rfl, rfl, rfl, by decide +kernel, rfl, by decide +kernel, by decide +kernel⟩
def d_l_is_index : DS :=
  (sRet (dAnd (dIsi isInt (dVar 0)) (dAnd (dNot (dIsi isBool (dVar 0))) (dChain gLe gLt (dC (.int 0)) (dVar 0) (dVar 1)))))
def f_l_is_index : List PyData → Option PyData := runP N_l_is_index.length d_l_is_index
theorem ok_l_is_index (T : Txt K mg A D tk) : FnOk P w K mg base CX0 1 (A 36) (D 36) ["_law_thing", "_law_bound"] (spP 2 f_l_is_index) := by
  refine fn_P (b := d_l_is_index) T.d_l_is_index.F sc_l_is_index fun cdv A outer s H E hr => ?_
  have nd := sc_l_is_index.nd
  exact s_one (s_ret (q_and (q_isi f_int rfl T.n_isinstance (qv 0) (pe_bltn (by rfl) T.n_int (by decide +kernel) rfl)) (q_and (q_not (q_isi f_bool rfl T.n_isinstance (qv 0) (pe_bltn (by rfl) T.n_bool (by decide +kernel) rfl))) (pe_one (q_chain op_le (op_lt2 hr.units0) o_le o_lt (q_int) (qv 0) (qv 1))))))
/-! ### l_home -/
abbrev s_l_home : Stmt := top 37
abbrev N_l_home : List Str := ["_law_row", "_law_item", "_law_place", "_law_group"]
theorem sc_l_home : FnScope N_l_home ["_law_row", "_law_item"] (defScope s_l_home) := ⟨rfl, rfl, rfl, by decide +kernel, rfl, by decide +kernel, by decide +kernel⟩
def d_l_home : DS :=
  (sRet (dOp gIx (dLc (iEL (dVar 0)) (.many [2, 3]) (tst (dOp (gIn false) (dVar 1) (dVar 3))) (dVar 2) [2, 3]) (dC (.int 0))))
def f_l_home : List PyData → Option PyData := runP N_l_home.length d_l_home
theorem ok_l_home (T : Txt K mg A D tk) : FnOk P w K mg base CX0 1 (A 37) (D 37) ["_law_row", "_law_item"] (spP 2 f_l_home) := by
  refine fn_P (b := d_l_home) T.d_l_home.F sc_l_home fun cdv A outer s H E hr => ?_
  have nd := sc_l_home.nd
  exact s_one (s_ret (q_ix ix_seq o_ix (q_lc (own := [("_law_place", 2), ("_law_group", 3)]) (t := (.many [2, 3])) rfl nd (i_enum rfl T.n_enumerate (qv 0)) (blkOk_by (own := [("_law_place", 2), ("_law_group", 3)]) (N := N_l_home) (sc := (defScope s_l_home)) (by decide +kernel)) (fun _ _ _ _ _ => g_two rfl (pgs_cons (pg_name (i := 2) nd rfl (by first | exact Or.inl rfl | exact Or.inr rfl)) (pgs_cons (pg_name (i := 3) nd rfl (by first | exact Or.inl rfl | exact Or.inr rfl)) pgs_nil))) (fun _ _ _ _ _ => ts_one (t_cmp op_in_seq (o_in false) (qv 1) (qv 3) rfl)) (fun _ _ _ _ _ => qv 2)) (q_int) (fun _ _ => rfl)))
/-! ### l_seen_groups -/
abbrev s_l_seen_groups : Stmt := top 38
abbrev N_l_seen_groups : List Str := ["_law_row", "_law_seen", "_law_place", "_law_group", "_law_item"]
theorem sc_l_seen_groups : FnScope N_l_seen_groups ["_law_row", "_law_seen"] (defScope s_l_seen_groups) := ⟨rfl, rfl, rfl, by decide +kernel, rfl, by decide +kernel, by decide +kernel⟩
def d_l_seen_groups : DS :=
  (sRet (dLc (iEL (dVar 0)) (.many [2, 3]) (tst (dOp gGt (dCall gLen (aCons (dLc (iT (dVar 3)) (.one 4) (tst (dOp (gIn false) (dVar 4) (dVar 1))) (dVar 4) [4]) aNil)) (dC (.int 0)))) (dVar 2) [2, 3]))
def f_l_seen_groups : List PyData → Option PyData := runP N_l_seen_groups.length d_l_seen_groups
theorem ok_l_seen_groups (T : Txt K mg A D tk) : FnOk P w K mg base CX0 1 (A 38) (D 38) ["_law_row", "_law_seen"] (spP 2 f_l_seen_groups) := by
  refine fn_P (b := d_l_seen_groups) T.d_l_seen_groups.F sc_l_seen_groups fun cdv A outer s H E hr => ?_
  have nd := sc_l_seen_groups.nd
  exact s_one (s_ret (q_lc (own := [("_law_place", 2), ("_law_group", 3)]) (t := (.many [2, 3])) rfl nd (i_enum rfl T.n_enumerate (qv 0)) (blkOk_by (own := [("_law_place", 2), ("_law_group", 3)]) (N := N_l_seen_groups) (sc := (defScope s_l_seen_groups)) (by decide +kernel)) (fun _ _ _ _ _ => g_two rfl (pgs_cons (pg_name (i := 2) nd rfl (by first | exact Or.inl rfl | exact Or.inr rfl)) (pgs_cons (pg_name (i := 3) nd rfl (by first | exact Or.inl rfl | exact Or.inr rfl)) pgs_nil))) (fun _ _ _ _ _ => ts_one (t_cmp op_gt o_gt (q_cb call_len c_len rfl T.n_len (by decide +kernel) (a_cons (q_lc (own := [("_law_item", 4)]) (t := (.one 4)) rfl nd (i_tup (qv 3)) (blkOk_by (own := [("_law_item", 4)]) (N := N_l_seen_groups) (sc := (relS _ (defScope s_l_seen_groups))) (by decide +kernel)) (fun _ _ _ _ _ => g_one 4 nd rfl (by first | exact Or.inl rfl | exact Or.inr rfl)) (fun _ _ _ _ _ => ts_one (t_cmp op_in_seq (o_in false) (qv 4) (qv 1) rfl)) (fun _ _ _ _ _ => qv 4)) a_nil)) (q_int) (nomark _))) (fun _ _ _ _ _ => qv 2)))
/-! ### l_put -/
abbrev s_l_put : Stmt := top 40
abbrev N_l_put : List Str := ["_law_row", "_law_seen", "_law_item", "_law_place", "_law_places", "_law_at"]
theorem sc_l_put : FnScope N_l_put ["_law_row", "_law_seen", "_law_item", "_law_place"] (defScope s_l_put) := ⟨rfl, rfl, rfl, by decide +kernel, rfl, by decide +kernel, by decide +kernel⟩
def d_l_put : DS :=
  (sSeq (sIf (tst (dOp gEq (dOp gIx (dVar 3) (dC (.int 0))) (dC (.str "tie")))) (sSeq (sAsg (.one 5) (dFn 2 f_l_home (aCons (dVar 0) (aCons (dOp gIx (dVar 3) (dC (.int 1))) aNil))))
  (sRet (dOp gAdd (dOp gAdd (dOp gTo (dVar 0) (dVar 5)) (dLst (aCons (dOp gAdd (dOp gIx (dVar 0) (dVar 5)) (dTup (aCons (dVar 2) aNil))) aNil))) (dOp gFrom (dVar 0) (dOp gAdd (dVar 5) (dC (.int 1))))))) sNil)
  (sSeq (sAsg (.one 4) (dFn 2 f_l_seen_groups (aCons (dVar 0) (aCons (dVar 1) aNil))))
  (sSeq (sAsg (.one 5) (dIf (tst (dOp gEq (dOp gIx (dVar 3) (dC (.int 1))) (dC (.int 0)))) (dC (.int 0)) (dOp gAdd (dOp gIx (dVar 4) (dOp gSub (dOp gIx (dVar 3) (dC (.int 1))) (dC (.int 1)))) (dC (.int 1)))))
  (sRet (dOp gAdd (dOp gAdd (dOp gTo (dVar 0) (dVar 5)) (dLst (aCons (dTup (aCons (dVar 2) aNil)) aNil))) (dOp gFrom (dVar 0) (dVar 5)))))))
def f_l_put : List PyData → Option PyData := runP N_l_put.length d_l_put
theorem ok_l_put (T : Txt K mg A D tk) : FnOk P w K mg base CX0 2 (A 40) (D 40) ["_law_row", "_law_seen", "_law_item", "_law_place"] (spP 4 f_l_put) := by
  refine fn_P (b := d_l_put) T.d_l_put.F sc_l_put fun cdv A outer s H E hr => ?_
  have nd := sc_l_put.nd
  exact s_cons (s_if (t_cmp (op_eqD hr.units) o_eq (q_ix ix_seq o_ix (qv 3) (q_int) (fun _ _ => rfl)) (q_str) (nomark _)) (s_cons (s_set nd rfl (by first | exact Or.inl rfl | exact Or.inr rfl) (q_call (ok_l_home T) (hr.mono (by decide)) rfl T.d_l_home.g T.d_l_home.F.kp T.d_l_home.b (a_cons (qv 0) (a_cons (q_ix ix_seq o_ix (qv 3) (q_int) (fun _ _ => rfl)) a_nil))))
      (s_one (s_ret (q_op op_add3 o_add (q_op op_add3 o_add (q_to (qv 0) (qv 5)) (q_lst (a_cons (q_op op_add3 o_add (q_ix ix_seq o_ix (qv 0) (qv 5) (fun _ _ => rfl)) (q_tup (a_cons (qv 2) a_nil))) a_nil))) (q_from (qv 0) (q_op op_add3 o_add (qv 5) (q_int))))))) (s_nil))
      (s_cons (s_set nd rfl (by first | exact Or.inl rfl | exact Or.inr rfl) (q_call (ok_l_seen_groups T) (hr.mono (by decide)) rfl T.d_l_seen_groups.g T.d_l_seen_groups.F.kp T.d_l_seen_groups.b (a_cons (qv 0) (a_cons (qv 1) a_nil))))
      (s_cons (s_set nd rfl (by first | exact Or.inl rfl | exact Or.inr rfl) (q_if (t_cmp (op_eqD hr.units) o_eq (q_ix ix_seq o_ix (qv 3) (q_int) (fun _ _ => rfl)) (q_int) (nomark _)) (q_int) (q_op op_add3 o_add (q_ix ix_seq o_ix (qv 4) (q_op op_sub o_sub (q_ix ix_seq o_ix (qv 3) (q_int) (fun _ _ => rfl)) (q_int)) (fun _ _ => rfl)) (q_int))))
      (s_one (s_ret (q_op op_add3 o_add (q_op op_add3 o_add (q_to (qv 0) (qv 5)) (q_lst (a_cons (q_tup (a_cons (qv 2) a_nil)) a_nil))) (q_from (qv 0) (qv 5)))))))
/-! ### l_chain -/
abbrev s_l_chain : Stmt := top 41
abbrev N_l_chain : List Str := ["_law_row", "_law_chains", "_law_seen", "_law_item", "_law_place"]
theorem sc_l_chain : FnScope N_l_chain ["_law_row", "_law_chains", "_law_seen", "_law_item", "_law_place"] (defScope s_l_chain) := ⟨rfl, rfl, rfl, by decide +kernel, rfl, by decide +kernel, by decide +kernel⟩
def d_l_chain : DS :=
  (sSeq (sIf (tst (dOp gEq (dOp gIx (dVar 4) (dC (.int 0))) (dC (.str "tie")))) (sRet (dOp gIx (dVar 1) (dOp gIx (dVar 4) (dC (.int 1))))) sNil)
  (sSeq (sIf (tst (dOp gEq (dOp gIx (dVar 4) (dC (.int 1))) (dC (.int 0)))) (sRet (dTup (aCons (dVar 3) aNil))) sNil)
  (sRet (dOp gAdd (dOp gIx (dVar 1) (dOp gIx (dOp gIx (dVar 0) (dOp gIx (dFn 2 f_l_seen_groups (aCons (dVar 0) (aCons (dVar 2) aNil))) (dOp gSub (dOp gIx (dVar 4) (dC (.int 1))) (dC (.int 1))))) (dC (.int 0)))) (dTup (aCons (dVar 3) aNil))))))
def f_l_chain : List PyData → Option PyData := runP N_l_chain.length d_l_chain
theorem ok_l_chain (T : Txt K mg A D tk) : FnOk P w K mg base CX0 2 (A 41) (D 41) ["_law_row", "_law_chains", "_law_seen", "_law_item", "_law_place"] (spP 5 f_l_chain) := by
  refine fn_P (b := d_l_chain) T.d_l_chain.F sc_l_chain fun cdv A outer s H E hr => ?_
  have nd := sc_l_chain.nd
  exact s_cons (s_if (t_cmp (op_eqD hr.units) o_eq (q_ix ix_seq o_ix (qv 4) (q_int) (fun _ _ => rfl)) (q_str) (nomark _)) (s_one (s_ret (q_ix ix_seq o_ix (qv 1) (q_ix ix_seq o_ix (qv 4) (q_int) (fun _ _ => rfl)) (fun _ _ => rfl)))) (s_nil))
      (s_cons (s_if (t_cmp (op_eqD hr.units) o_eq (q_ix ix_seq o_ix (qv 4) (q_int) (fun _ _ => rfl)) (q_int) (nomark _)) (s_one (s_ret (q_tup (a_cons (qv 3) a_nil)))) (s_nil))
      (s_one (s_ret (q_op op_add3 o_add (q_ix ix_seq o_ix (qv 1) (q_ix ix_seq o_ix (q_ix ix_seq o_ix (qv 0) (q_ix ix_seq o_ix (q_call (ok_l_seen_groups T) (hr.mono (by decide)) rfl T.d_l_seen_groups.g T.d_l_seen_groups.F.kp T.d_l_seen_groups.b (a_cons (qv 0) (a_cons (qv 2) a_nil))) (q_op op_sub o_sub (q_ix ix_seq o_ix (qv 4) (q_int) (fun _ _ => rfl)) (q_int)) (fun _ _ => rfl)) (fun _ _ => rfl)) (q_int) (fun _ _ => rfl)) (fun _ _ => rfl)) (q_tup (a_cons (qv 3) a_nil))))))
/-! ### l_tie_run -/
abbrev s_l_tie_run : Stmt := top 39
abbrev N_l_tie_run : List Str := ["_law_bag_here", "_law_plan_here", "_law_row", "_law_run", "_law_chains", "_law_item", "_law_seen", "_law_places", "_law_place"]
theorem sc_l_tie_run : FnScope N_l_tie_run ["_law_bag_here", "_law_plan_here"] (defScope s_l_tie_run) := ⟨rfl, rfl, rfl, by decide +kernel, rfl, by decide +kernel, by decide +kernel⟩
def d_l_tie_run : DS :=
  (sSeq (sAsg (.one 2) (dLst aNil))
  (sSeq (sAsg (.one 3) (dTup aNil))
  (sSeq (sNewOwn 4)
  (sSeq (sFor (iE2 (dVar 1)) (.many [5, 6])
  (sSeq (sAsg (.one 7) (dFn 2 f_l_seen_groups (aCons (dVar 2) (aCons (dVar 6) aNil))))
  (sSeq (sAsg (.one 8) (dTup (aCons (dC (.str "gap")) (aCons (dBag 0 1 f_l_draw (aCons (dOp gAdd (dCall gLen (aCons (dVar 7) aNil)) (dC (.int 1))) aNil)) aNil))))
  (sSeq (sIf (tAndD (tst (dOp gGt (dCall gLen (aCons (dVar 6) aNil)) (dC (.int 0)))) (tst (dOp gLt (dBag 0 1 f_l_draw (aCons (dC (.int 5)) aNil)) (dC (.int 2))))) (sAsg (.one 8) (dTup (aCons (dC (.str "tie")) (aCons (dBag 0 1 f_l_any (aCons (dVar 6) aNil)) aNil)))) sNil)
  (sSeq (sAsg (.one 2) (dFn 4 f_l_put (aCons (dVar 2) (aCons (dVar 6) (aCons (dVar 5) (aCons (dVar 8) aNil))))))
  (sSeq (sAppB 4 (dFn 5 f_l_chain (aCons (dVar 2) (aCons (dVar 4) (aCons (dVar 6) (aCons (dVar 5) (aCons (dVar 8) aNil)))))))
  (sAsg (.one 3) (dOp gAdd (dVar 3) (dTup (aCons (dVar 8) aNil))))))))))
  (sFrz 4 (sRet (dTup (aCons (dVar 3) (aCons (dVar 2) (aCons (dVar 4) aNil))))))))))
def f_l_tie_run : Bag → List PyData → Option (PyData × Bag) := runB N_l_tie_run.length d_l_tie_run
theorem ok_l_tie_run (T : Txt K mg A D tk) : FnOk P w K mg base CX0 3 (A 39) (D 39) ["_law_bag_here", "_law_plan_here"] (spB 1 f_l_tie_run) := by
  refine fn_B (b := d_l_tie_run) T.d_l_tie_run.F sc_l_tie_run fun cdv A outer s H E hr => ?_
  have nd := sc_l_tie_run.nd
  exact s_cons (s_set nd rfl (by first | exact Or.inl rfl | exact Or.inr rfl) (q_lst a_nil))
      (s_cons (s_set nd rfl (by first | exact Or.inl rfl | exact Or.inr rfl) (q_tup a_nil))
      (s_cons (s_newOwn nd rfl (by first | exact Or.inl rfl | exact Or.inr rfl))
      (s_cons (s_for (t := (.many [5, 6])) PassesOwn.never rfl (i_enumT rfl T.n_enumerate (qv 1)) (g_two rfl (pgs_cons (pg_name (i := 5) nd rfl (by first | exact Or.inl rfl | exact Or.inr rfl)) (pgs_cons (pg_name (i := 6) nd rfl (by first | exact Or.inl rfl | exact Or.inr rfl)) pgs_nil)))
      (s_cons (s_set nd rfl (by first | exact Or.inl rfl | exact Or.inr rfl) (q_call (ok_l_seen_groups T) (hr.mono (by decide)) rfl T.d_l_seen_groups.g T.d_l_seen_groups.F.kp T.d_l_seen_groups.b (a_cons (qv 2) (a_cons (qv 6) a_nil))))
      (s_cons (s_set nd rfl (by first | exact Or.inl rfl | exact Or.inr rfl) (q_tup (a_cons (q_str) (a_cons (q_bag (ok_l_draw T) (hr.mono (by decide)) rfl T.d_l_draw.g T.d_l_draw.F.kp T.d_l_draw.b (pv 0) (a_cons (q_op op_add3 o_add (q_cb call_len c_len rfl T.n_len (by decide +kernel) (a_cons (qv 7) a_nil)) (q_int)) a_nil)) a_nil))))
      (s_cons (s_if (PW.pt (w_and (t_cmp op_gt o_gt (q_cb call_len c_len rfl T.n_len (by decide +kernel) (a_cons (qv 6) a_nil)) (q_int) (nomark _)) (pw_and1 (t_cmp (op_lt2 hr.units0) o_lt (q_bag (ok_l_draw T) (hr.mono (by decide)) rfl T.d_l_draw.g T.d_l_draw.F.kp T.d_l_draw.b (pv 0) (a_cons (q_int) a_nil)) (q_int) (nomark _))))) (s_one (s_set nd rfl (by first | exact Or.inl rfl | exact Or.inr rfl) (q_tup (a_cons (q_str) (a_cons (q_bag (ok_l_any T) (hr.mono (by decide)) rfl T.d_l_any.g T.d_l_any.F.kp T.d_l_any.b (pv 0) (a_cons (qv 6) a_nil)) a_nil))))) (s_nil))
      (s_cons (s_set nd rfl (by first | exact Or.inl rfl | exact Or.inr rfl) (q_call (ok_l_put T) (hr.mono (by decide)) rfl T.d_l_put.g T.d_l_put.F.kp T.d_l_put.b (a_cons (qv 2) (a_cons (qv 6) (a_cons (qv 5) (a_cons (qv 8) a_nil))))))
      (s_cons (s_appB (pv 4) (q_call (ok_l_chain T) (hr.mono (by decide)) rfl T.d_l_chain.g T.d_l_chain.F.kp T.d_l_chain.b (a_cons (qv 2) (a_cons (qv 4) (a_cons (qv 6) (a_cons (qv 5) (a_cons (qv 8) a_nil)))))))
      (s_one (s_set nd rfl (by first | exact Or.inl rfl | exact Or.inr rfl) (q_op op_add3 o_add (qv 3) (q_tup (a_cons (qv 8) a_nil)))))))))))
      (ss_frz 4 (s_one (s_ret (q_tup (a_cons (qv 3) (a_cons (qv 2) (a_cons (qv 4) a_nil))))))))))
/-! ### l_tie_runs -/
abbrev s_l_tie_runs : Stmt := top 42
abbrev N_l_tie_runs : List Str := ["_law_plan_here", "_law_most", "_law_found", "_law_item", "_law_seen", "_law_later", "_law_run", "_law_row", "_law_chains", "_law_many", "_law_place", "_law_put_here", "_law_gap", "_law_other"]
theorem sc_l_tie_runs : FnScope N_l_tie_runs ["_law_plan_here", "_law_most"] (defScope s_l_tie_runs) := ⟨rfl, rfl, rfl, by decide +kernel, rfl, by decide +kernel, by decide +kernel⟩
def d_l_tie_runs : DS :=
  (sSeq (sAsg (.one 2) (dLst (aCons (dTup (aCons (dTup aNil) (aCons (dLst aNil) (aCons (dLst aNil) aNil)))) aNil)))
  (sSeq (sFor (iE2 (dVar 0)) (.many [3, 4])
  (sSeq (sNewOwn 5)
  (sSeq (sFor (iL (dVar 2)) (.many [6, 7, 8])
  (sSeq (sAsg (.one 9) (dCall gLen (aCons (dFn 2 f_l_seen_groups (aCons (dVar 7) (aCons (dVar 4) aNil))) aNil)))
  (sFor (iL (dOp gAdd (dLc (iR (dOp gAdd (dVar 9) (dC (.int 1)))) (.one 12) tTrue (dTup (aCons (dC (.str "gap")) (aCons (dVar 12) aNil))) [12]) (dLc (iT (dVar 4)) (.one 13) tTrue (dTup (aCons (dC (.str "tie")) (aCons (dVar 13) aNil))) [13]))) (.one 10)
  (sSeq (sAsg (.one 11) (dFn 4 f_l_put (aCons (dVar 7) (aCons (dVar 4) (aCons (dVar 3) (aCons (dVar 10) aNil))))))
  (sApp 5 (dTup (aCons (dOp gAdd (dVar 6) (dTup (aCons (dVar 10) aNil))) (aCons (dVar 11) (aCons (dOp gAdd (dVar 8) (dLst (aCons (dFn 5 f_l_chain (aCons (dVar 11) (aCons (dVar 8) (aCons (dVar 4) (aCons (dVar 3) (aCons (dVar 10) aNil)))))) aNil))) aNil)))))))))
  (sFrz 5 (sSeq (sAsg (.one 2) (dVar 5))
  (sIf (tst (dOp gGt (dCall gLen (aCons (dVar 2) aNil)) (dVar 1))) (sRet (dC .none)) sNil))))))
  (sRet (dVar 2))))
def f_l_tie_runs : List PyData → Option PyData := runP N_l_tie_runs.length d_l_tie_runs
theorem ok_l_tie_runs (T : Txt K mg A D tk) : FnOk P w K mg base CX0 3 (A 42) (D 42) ["_law_plan_here", "_law_most"] (spP 2 f_l_tie_runs) := by
  refine fn_P (b := d_l_tie_runs) T.d_l_tie_runs.F sc_l_tie_runs fun cdv A outer s H E hr => ?_
  have nd := sc_l_tie_runs.nd
  exact s_cons (s_set nd rfl (by first | exact Or.inl rfl | exact Or.inr rfl) (q_lst (a_cons (q_tup (a_cons (q_tup a_nil) (a_cons (q_lst a_nil) (a_cons (q_lst a_nil) a_nil)))) a_nil)))
      (s_cons (s_for (t := (.many [3, 4])) PassesOwn.never rfl (i_enumT rfl T.n_enumerate (qv 0)) (g_two rfl (pgs_cons (pg_name (i := 3) nd rfl (by first | exact Or.inl rfl | exact Or.inr rfl)) (pgs_cons (pg_name (i := 4) nd rfl (by first | exact Or.inl rfl | exact Or.inr rfl)) pgs_nil)))
      (s_cons (s_newOwn nd rfl (by first | exact Or.inl rfl | exact Or.inr rfl))
      (s_cons (s_for (t := (.many [6, 7, 8])) PassesOwn.never rfl (i_list (qv 2)) (g_three rfl (pgs_cons (pg_name (i := 6) nd rfl (by first | exact Or.inl rfl | exact Or.inr rfl)) (pgs_cons (pg_name (i := 7) nd rfl (by first | exact Or.inl rfl | exact Or.inr rfl)) (pgs_cons (pg_name (i := 8) nd rfl (by first | exact Or.inl rfl | exact Or.inr rfl)) pgs_nil))))
      (s_cons (s_set nd rfl (by first | exact Or.inl rfl | exact Or.inr rfl) (q_cb call_len c_len rfl T.n_len (by decide +kernel) (a_cons (q_call (ok_l_seen_groups T) (hr.mono (by decide)) rfl T.d_l_seen_groups.g T.d_l_seen_groups.F.kp T.d_l_seen_groups.b (a_cons (qv 7) (a_cons (qv 4) a_nil))) a_nil)))
      (s_one (s_for (t := (.one 10)) PassesOwn.never rfl (i_list (q_op op_add3 o_add (q_lc (own := [("_law_gap", 12)]) (t := (.one 12)) rfl nd (i_range rfl T.n_range (q_op op_add3 o_add (qv 9) (q_int))) (blkOk_by (own := [("_law_gap", 12)]) (N := N_l_tie_runs) (sc := (defScope s_l_tie_runs)) (by decide +kernel)) (fun _ _ _ _ _ => g_one 12 nd rfl (by first | exact Or.inl rfl | exact Or.inr rfl)) (fun _ _ _ _ _ => ts_nil) (fun _ _ _ _ _ => q_tup (a_cons (q_str) (a_cons (qv 12) a_nil)))) (q_lc (own := [("_law_other", 13)]) (t := (.one 13)) rfl nd (i_tup (qv 4)) (blkOk_by (own := [("_law_other", 13)]) (N := N_l_tie_runs) (sc := (defScope s_l_tie_runs)) (by decide +kernel)) (fun _ _ _ _ _ => g_one 13 nd rfl (by first | exact Or.inl rfl | exact Or.inr rfl)) (fun _ _ _ _ _ => ts_nil) (fun _ _ _ _ _ => q_tup (a_cons (q_str) (a_cons (qv 13) a_nil)))))) (g_one 10 nd rfl (by first | exact Or.inl rfl | exact Or.inr rfl))
      (s_cons (s_set nd rfl (by first | exact Or.inl rfl | exact Or.inr rfl) (q_call (ok_l_put T) (hr.mono (by decide)) rfl T.d_l_put.g T.d_l_put.F.kp T.d_l_put.b (a_cons (qv 7) (a_cons (qv 4) (a_cons (qv 3) (a_cons (qv 10) a_nil))))))
      (s_one (s_app (pv 5) (q_tup (a_cons (q_op op_add3 o_add (qv 6) (q_tup (a_cons (qv 10) a_nil))) (a_cons (qv 11) (a_cons (q_op op_add3 o_add (qv 8) (q_lst (a_cons (q_call (ok_l_chain T) (hr.mono (by decide)) rfl T.d_l_chain.g T.d_l_chain.F.kp T.d_l_chain.b (a_cons (qv 11) (a_cons (qv 8) (a_cons (qv 4) (a_cons (qv 3) (a_cons (qv 10) a_nil)))))) a_nil))) a_nil)))))))))))
      (ss_frz 5 (s_cons (s_set nd rfl (by first | exact Or.inl rfl | exact Or.inr rfl) (qv 5))
      (s_one (s_if (t_cmp op_gt o_gt (q_cb call_len c_len rfl T.n_len (by decide +kernel) (a_cons (qv 2) a_nil)) (qv 1) (nomark _)) (s_one (s_ret (q_non))) (s_nil))))))))
      (s_one (s_ret (qv 2))))
/-! ### l_tie_names -/
abbrev s_l_tie_names : Stmt := top 43
abbrev N_l_tie_names : List Str := ["_law_run", "_law_chains", "_law_item", "_law_place"]
theorem sc_l_tie_names : FnScope N_l_tie_names ["_law_run", "_law_chains"] (defScope s_l_tie_names) := ⟨rfl, rfl, rfl, by decide +kernel, rfl, by decide +kernel, by decide +kernel⟩
def d_l_tie_names : DS :=
  (sRet (dCall gTuple (aCons (dLc (iE2 (dVar 0)) (.many [2, 3]) tTrue (dTup (aCons (dOp gIx (dVar 1) (dVar 2)) (aCons (dIf (tst (dOp gEq (dOp gIx (dVar 3) (dC (.int 0))) (dC (.str "tie")))) (dVar 2) (dC .none)) aNil))) [2, 3]) aNil)))
def f_l_tie_names : List PyData → Option PyData := runP N_l_tie_names.length d_l_tie_names
theorem ok_l_tie_names (T : Txt K mg A D tk) : FnOk P w K mg base CX0 1 (A 43) (D 43) ["_law_run", "_law_chains"] (spP 2 f_l_tie_names) := by
  refine fn_P (b := d_l_tie_names) T.d_l_tie_names.F sc_l_tie_names fun cdv A outer s H E hr => ?_
  have nd := sc_l_tie_names.nd
  exact s_one (s_ret (q_cty call_tuple_of c_tuple rfl T.n_tuple (by decide +kernel) (a_cons (q_lc (own := [("_law_item", 2), ("_law_place", 3)]) (t := (.many [2, 3])) rfl nd (i_enumT rfl T.n_enumerate (qv 0)) (blkOk_by (own := [("_law_item", 2), ("_law_place", 3)]) (N := N_l_tie_names) (sc := (defScope s_l_tie_names)) (by decide +kernel)) (fun _ _ _ _ _ => g_two rfl (pgs_cons (pg_name (i := 2) nd rfl (by first | exact Or.inl rfl | exact Or.inr rfl)) (pgs_cons (pg_name (i := 3) nd rfl (by first | exact Or.inl rfl | exact Or.inr rfl)) pgs_nil))) (fun _ _ _ _ _ => ts_nil) (fun _ _ _ _ _ => q_tup (a_cons (q_ix ix_seq o_ix (qv 1) (qv 2) (fun _ _ => rfl)) (a_cons (q_if (t_cmp (op_eqD hr.units) o_eq (q_ix ix_seq o_ix (qv 3) (q_int) (fun _ _ => rfl)) (q_str) (nomark _)) (qv 2) (q_non)) a_nil)))) a_nil)))
/-! ### l_stands -/
abbrev s_l_stands : Stmt := top 44
abbrev N_l_stands : List Str := ["_law_row", "_law_one", "_law_other", "_law_first", "_law_second"]
theorem sc_l_stands : FnScope N_l_stands ["_law_row", "_law_one", "_law_other"] (defScope s_l_stands) := ⟨rfl, rfl, rfl, by decide +kernel, rfl, by decide +kernel, by decide +kernel⟩
def d_l_stands : DS :=
  (sSeq (sAsg (.one 3) (dFn 2 f_l_home (aCons (dVar 0) (aCons (dVar 1) aNil))))
  (sSeq (sAsg (.one 4) (dFn 2 f_l_home (aCons (dVar 0) (aCons (dVar 2) aNil))))
  (sSeq (sIf (tst (dOp gEq (dVar 3) (dVar 4))) (sRet (dC (.str "tied"))) sNil)
  (sRet (dIf (tst (dOp gLt (dVar 3) (dVar 4))) (dC (.str "ahead")) (dC (.str "behind")))))))
def f_l_stands : List PyData → Option PyData := runP N_l_stands.length d_l_stands
theorem ok_l_stands (T : Txt K mg A D tk) : FnOk P w K mg base CX0 2 (A 44) (D 44) ["_law_row", "_law_one", "_law_other"] (spP 3 f_l_stands) := by
  refine fn_P (b := d_l_stands) T.d_l_stands.F sc_l_stands fun cdv A outer s H E hr => ?_
  have nd := sc_l_stands.nd
  exact s_cons (s_set nd rfl (by first | exact Or.inl rfl | exact Or.inr rfl) (q_call (ok_l_home T) (hr.mono (by decide)) rfl T.d_l_home.g T.d_l_home.F.kp T.d_l_home.b (a_cons (qv 0) (a_cons (qv 1) a_nil))))
      (s_cons (s_set nd rfl (by first | exact Or.inl rfl | exact Or.inr rfl) (q_call (ok_l_home T) (hr.mono (by decide)) rfl T.d_l_home.g T.d_l_home.F.kp T.d_l_home.b (a_cons (qv 0) (a_cons (qv 2) a_nil))))
      (s_cons (s_if (t_cmp (op_eqD hr.units) o_eq (qv 3) (qv 4) (nomark _)) (s_one (s_ret (q_str))) (s_nil))
      (s_one (s_ret (q_if (t_cmp (op_lt2 hr.units0) o_lt (qv 3) (qv 4) (nomark _)) (q_str) (q_str))))))
/-! ### l_is_tied_name -/
abbrev s_l_is_tied_name : Stmt := top 45
abbrev N_l_is_tied_name : List Str := ["_law_thing", "_law_last", "_law_item"]
theorem sc_l_is_tied_name : FnScope N_l_is_tied_name ["_law_thing"] (defScope s_l_is_tied_name) := ⟨rfl, rfl, rfl, by decide +kernel, rfl, by decide +kernel, by decide +kernel⟩
def d_l_is_tied_name : DS :=
  (sSeq (sIf (tOrD (tNotD (tst (dIsi isTup (dVar 0)))) (tOrD (tst (dOp gNe (dCall gLen (aCons (dVar 0) aNil)) (dC (.int 2)))) (tOrD (tNotD (tst (dIsi isTup (dOp gIx (dVar 0) (dC (.int 0)))))) (tst (dOp gEq (dCall gLen (aCons (dOp gIx (dVar 0) (dC (.int 0))) aNil)) (dC (.int 0))))))) (sRet (dC (.bool false))) sNil)
  (sSeq (sAsg (.one 1) (dUn gNeg (dC (.int 1))))
  (sSeq (sFor (iT (dOp gIx (dVar 0) (dC (.int 0)))) (.one 2)
  (sSeq (sIf (tOrD (tNotD (tst (dFn 2 f_l_is_index (aCons (dVar 2) (aCons (dC (.int 40)) aNil))))) (tst (dOp gLe (dVar 2) (dVar 1)))) (sRet (dC (.bool false))) sNil)
  (sAsg (.one 1) (dVar 2))))
  (sRet (dOr (dOp (gIsN false) (dOp gIx (dVar 0) (dC (.int 1))) (dC .none)) (dAnd (dFn 2 f_l_is_index (aCons (dOp gIx (dVar 0) (dC (.int 1))) (aCons (dC (.int 40)) aNil))) (dOp gGt (dOp gIx (dVar 0) (dC (.int 1))) (dVar 1))))))))
def f_l_is_tied_name : List PyData → Option PyData := runP N_l_is_tied_name.length d_l_is_tied_name
theorem ok_l_is_tied_name (T : Txt K mg A D tk) : FnOk P w K mg base CX0 2 (A 45) (D 45) ["_law_thing"] (spP 1 f_l_is_tied_name) := by
  refine fn_P (b := d_l_is_tied_name) T.d_l_is_tied_name.F sc_l_is_tied_name fun cdv A outer s H E hr => ?_
  have nd := sc_l_is_tied_name.nd
  exact s_cons (s_if (PW.pt (w_or (t_not (t_val (q_isi f_tup rfl T.n_isinstance (qv 0) (pe_bltn (by rfl) T.n_tuple (by decide +kernel) rfl)))) (w_or (t_cmp (op_neD hr.units) o_ne (q_cb call_len c_len rfl T.n_len (by decide +kernel) (a_cons (qv 0) a_nil)) (q_int) (nomark _)) (w_or (t_not (t_val (q_isi f_tup rfl T.n_isinstance (q_ix ix_seq o_ix (qv 0) (q_int) (fun _ _ => rfl)) (pe_bltn (by rfl) T.n_tuple (by decide +kernel) rfl)))) (pw_or1 (t_cmp (op_eqD hr.units) o_eq (q_cb call_len c_len rfl T.n_len (by decide +kernel) (a_cons (q_ix ix_seq o_ix (qv 0) (q_int) (fun _ _ => rfl)) a_nil)) (q_int) (nomark _))))))) (s_one (s_ret (q_bl))) (s_nil))
      (s_cons (s_set nd rfl (by first | exact Or.inl rfl | exact Or.inr rfl) (q_un un_neg o_neg (q_int)))
      (s_cons (s_for (t := (.one 2)) PassesOwn.never rfl (i_tup (q_ix ix_seq o_ix (qv 0) (q_int) (fun _ _ => rfl))) (g_one 2 nd rfl (by first | exact Or.inl rfl | exact Or.inr rfl))
      (s_cons (s_if (PW.pt (w_or (t_not (t_val (q_call (ok_l_is_index T) (hr.mono (by decide)) rfl T.d_l_is_index.g T.d_l_is_index.F.kp T.d_l_is_index.b (a_cons (qv 2) (a_cons (q_int) a_nil))))) (pw_or1 (t_cmp op_le o_le (qv 2) (qv 1) (nomark _))))) (s_one (s_ret (q_bl))) (s_nil))
      (s_one (s_set nd rfl (by first | exact Or.inl rfl | exact Or.inr rfl) (qv 2)))))
      (s_one (s_ret (q_or (q_cmp op_isN o_isN (q_ix ix_seq o_ix (qv 0) (q_int) (fun _ _ => rfl)) (q_non) (nomark _)) (pe_one (q_and (q_call (ok_l_is_index T) (hr.mono (by decide)) rfl T.d_l_is_index.g T.d_l_is_index.F.kp T.d_l_is_index.b (a_cons (q_ix ix_seq o_ix (qv 0) (q_int) (fun _ _ => rfl)) (a_cons (q_int) a_nil))) (pe_one (q_cmp op_gt o_gt (q_ix ix_seq o_ix (qv 0) (q_int) (fun _ _ => rfl)) (qv 1) (nomark _))))))))))
/-! ### l_spoiled -/
abbrev s_l_spoiled : Stmt := top 47
abbrev N_l_spoiled : List Str := ["_law_bag_here", "_law_name", "_law_at", "_law_number", "_law_more", "_law_things", "_law_chain_here", "_law_tie"]
theorem sc_l_spoiled : FnScope N_l_spoiled ["_law_bag_here", "_law_name"] (defScope s_l_spoiled) := ⟨rfl, rfl, rfl, by decide +kernel, rfl, by decide +kernel, by decide +kernel⟩
def d_l_spoiled : DS :=
  (sSeq (sAsg (.many [6, 7]) (dVar 1))
  (sSeq (sAsg (.one 2) (dBag 0 1 f_l_draw (aCons (dCall gLen (aCons (dVar 6) aNil)) aNil)))
  (sSeq (sAsg (.one 3) (dBag 0 1 f_l_any (aCons (dLst (aCons (dOp gAdd (dOp gIx (dVar 6) (dVar 2)) (dC (.int 1))) (aCons (dC (.int 40)) (aCons (dC (.int 39)) (aCons (dUn gNeg (dC (.int 1))) (aCons (dC (.bool true)) (aCons (dC .none) (aCons (dC (.str "1")) (aCons (dTup (aCons (dC (.int 1)) aNil)) (aCons (dOp gPow (dC (.int 10)) (dC (.int 30))) (aCons (dC (.int 0)) aNil))))))))))) aNil)))
  (sSeq (sAsg (.one 4) (dBag 0 1 f_l_any (aCons (dLst (aCons (dC (.int 0)) (aCons (dC (.int 39)) (aCons (dC (.int 40)) (aCons (dOp gIx (dVar 6) (dUn gNeg (dC (.int 1)))) (aCons (dC (.bool true)) (aCons (dC (.str "5")) aNil))))))) aNil)))
  (sSeq (sAsg (.one 5) (dLst (aCons (dTup (aCons (dOp gAdd (dOp gAdd (dOp gTo (dVar 6) (dVar 2)) (dTup (aCons (dVar 3) aNil))) (dOp gFrom (dVar 6) (dOp gAdd (dVar 2) (dC (.int 1))))) (aCons (dVar 7) aNil))) (aCons (dTup (aCons (dVar 6) (aCons (dVar 4) aNil))) (aCons (dTup (aCons (dOp gAdd (dVar 6) (dTup (aCons (dC (.int 39)) aNil))) (aCons (dC .none) aNil))) aNil)))))
  (sSeq (sAsg (.one 5) (dOp gAdd (dVar 5) (dLst (aCons (dTup (aCons (dOp gAdd (dVar 6) (dTup (aCons (dVar 3) aNil))) (aCons (dVar 7) aNil))) (aCons (dTup (aCons (dCall gList (aCons (dVar 6) aNil)) (aCons (dVar 7) aNil))) (aCons (dVar 6) (aCons (dTup (aCons (dVar 6) aNil)) (aCons (dLst (aCons (dVar 6) (aCons (dVar 7) aNil))) aNil))))))))
  (sSeq (sOwnCat 5 (dVar 5) (dLst (aCons (dTup (aCons (dVar 6) (aCons (dVar 7) (aCons (dC .none) aNil)))) (aCons (dTup (aCons (dTup aNil) (aCons (dVar 7) aNil))) (aCons (dTup (aCons (dVar 7) (aCons (dVar 6) aNil))) (aCons (dC .none) (aCons dEmp (aCons (dC (.str "name")) (aCons (dTup (aCons (dRev (dVar 6)) (aCons (dVar 7) aNil))) aNil)))))))))
  (sSeq (sApp 5 (dTup (aCons (dVar 6) (aCons (dTup (aCons (dC (.int 39)) aNil)) aNil))))
  (sFrz 5 (sRet (dBag 0 1 f_l_any (aCons (dVar 5) aNil))))))))))))
def f_l_spoiled : Bag → List PyData → Option (PyData × Bag) := runB N_l_spoiled.length d_l_spoiled
theorem ok_l_spoiled (T : Txt K mg A D tk) : FnOk P w K mg base CX0 3 (A 47) (D 47) ["_law_bag_here", "_law_name"] (spB 1 f_l_spoiled) := by
  refine fn_B (b := d_l_spoiled) T.d_l_spoiled.F sc_l_spoiled fun cdv A outer s H E hr => ?_
  have nd := sc_l_spoiled.nd
  exact s_cons (s_asg (t := (.many [6, 7])) (qv 1) (g_two rfl (pgs_cons (pg_name (i := 6) nd rfl (by first | exact Or.inl rfl | exact Or.inr rfl)) (pgs_cons (pg_name (i := 7) nd rfl (by first | exact Or.inl rfl | exact Or.inr rfl)) pgs_nil))))
      (s_cons (s_set nd rfl (by first | exact Or.inl rfl | exact Or.inr rfl) (q_bag (ok_l_draw T) (hr.mono (by decide)) rfl T.d_l_draw.g T.d_l_draw.F.kp T.d_l_draw.b (pv 0) (a_cons (q_cb call_len c_len rfl T.n_len (by decide +kernel) (a_cons (qv 6) a_nil)) a_nil)))
      (s_cons (s_set nd rfl (by first | exact Or.inl rfl | exact Or.inr rfl) (q_bag (ok_l_any T) (hr.mono (by decide)) rfl T.d_l_any.g T.d_l_any.F.kp T.d_l_any.b (pv 0) (a_cons (q_lst (a_cons (q_op op_add3 o_add (q_ix ix_seq o_ix (qv 6) (qv 2) (fun _ _ => rfl)) (q_int)) (a_cons (q_int) (a_cons (q_int) (a_cons (q_un un_neg o_neg (q_int)) (a_cons (q_bl) (a_cons (q_non) (a_cons (q_str) (a_cons (q_tup (a_cons (q_int) a_nil)) (a_cons (q_op op_pow o_pow (q_int) (q_int)) (a_cons (q_int) a_nil))))))))))) a_nil)))
      (s_cons (s_set nd rfl (by first | exact Or.inl rfl | exact Or.inr rfl) (q_bag (ok_l_any T) (hr.mono (by decide)) rfl T.d_l_any.g T.d_l_any.F.kp T.d_l_any.b (pv 0) (a_cons (q_lst (a_cons (q_int) (a_cons (q_int) (a_cons (q_int) (a_cons (q_ix ix_seq o_ix (qv 6) (q_un un_neg o_neg (q_int)) (fun _ _ => rfl)) (a_cons (q_bl) (a_cons (q_str) a_nil))))))) a_nil)))
      (s_cons (s_set nd rfl (by first | exact Or.inl rfl | exact Or.inr rfl) (q_lst (a_cons (q_tup (a_cons (q_op op_add3 o_add (q_op op_add3 o_add (q_to (qv 6) (qv 2)) (q_tup (a_cons (qv 3) a_nil))) (q_from (qv 6) (q_op op_add3 o_add (qv 2) (q_int)))) (a_cons (qv 7) a_nil))) (a_cons (q_tup (a_cons (qv 6) (a_cons (qv 4) a_nil))) (a_cons (q_tup (a_cons (q_op op_add3 o_add (qv 6) (q_tup (a_cons (q_int) a_nil))) (a_cons (q_non) a_nil))) a_nil)))))
      (s_cons (s_set nd rfl (by first | exact Or.inl rfl | exact Or.inr rfl) (q_op op_add3 o_add (qv 5) (q_lst (a_cons (q_tup (a_cons (q_op op_add3 o_add (qv 6) (q_tup (a_cons (qv 3) a_nil))) (a_cons (qv 7) a_nil))) (a_cons (q_tup (a_cons (q_cty call_list_of c_list rfl T.n_list (by decide +kernel) (a_cons (qv 6) a_nil)) (a_cons (qv 7) a_nil))) (a_cons (qv 6) (a_cons (q_tup (a_cons (qv 6) a_nil)) (a_cons (q_lst (a_cons (qv 6) (a_cons (qv 7) a_nil))) a_nil))))))))
      (s_cons (s_ownCat nd rfl (by first | exact Or.inl rfl | exact Or.inr rfl) (qv 5) (q_lst (a_cons (q_tup (a_cons (qv 6) (a_cons (qv 7) (a_cons (q_non) a_nil)))) (a_cons (q_tup (a_cons (q_tup a_nil) (a_cons (qv 7) a_nil))) (a_cons (q_tup (a_cons (qv 7) (a_cons (qv 6) a_nil))) (a_cons (q_non) (a_cons (q_emp) (a_cons (q_str) (a_cons (q_tup (a_cons (q_rev (qv 6)) (a_cons (qv 7) a_nil))) a_nil)))))))))
      (s_cons (s_app (pv 5) (q_tup (a_cons (qv 6) (a_cons (q_tup (a_cons (q_int) a_nil)) a_nil))))
      (ss_frz 5 (s_one (s_ret (q_bag (ok_l_any T) (hr.mono (by decide)) rfl T.d_l_any.g T.d_l_any.F.kp T.d_l_any.b (pv 0) (a_cons (qv 5) a_nil))))))))))))
/-! ### l_all_names -/
abbrev s_l_all_names : Stmt := top 48
abbrev N_l_all_names : List Str := ["_law_plan_here", "_law_known", "_law_run", "_law_row", "_law_chains", "_law_name"]
theorem sc_l_all_names : FnScope N_l_all_names ["_law_plan_here"] (defScope s_l_all_names) := ⟨rfl, rfl, rfl, by decide +kernel, rfl, by decide +kernel, by decide +kernel⟩
def d_l_all_names : DS :=
  (sSeq (sNewOkn 1)
  (sSeq (sFor (iL (dOrL (dFn 2 f_l_tie_runs (aCons (dVar 0) (aCons (dC (.int 600)) aNil))) (dLst aNil))) (.many [2, 3, 4])
  (sFor (iT (dFn 2 f_tie_names (aCons (dVar 0) (aCons (dVar 2) aNil)))) (.one 5)
  (sPutOkn 1 (dVar 5))))
  (sRet (dOknLen 1))))
def f_l_all_names : List PyData → Option PyData := runP N_l_all_names.length d_l_all_names
theorem ok_l_all_names (T : Txt K mg A D tk) : FnOk P w K mg base CX0 7 (A 48) (D 48) ["_law_plan_here"] (spP 1 f_l_all_names) := by
  refine fn_P (b := d_l_all_names) T.d_l_all_names.F sc_l_all_names fun cdv A outer s H E hr => ?_
  have nd := sc_l_all_names.nd
  exact s_cons (s_newOkn nd rfl (by first | exact Or.inl rfl | exact Or.inr rfl))
      (s_cons (s_for (t := (.many [2, 3, 4])) PassesOwn.never rfl (i_list (q_orL (q_call (ok_l_tie_runs T) (hr.mono (by decide)) rfl T.d_l_tie_runs.g T.d_l_tie_runs.F.kp T.d_l_tie_runs.b (a_cons (qv 0) (a_cons (q_int) a_nil))) (pe_one (q_lst a_nil)))) (g_three rfl (pgs_cons (pg_name (i := 2) nd rfl (by first | exact Or.inl rfl | exact Or.inr rfl)) (pgs_cons (pg_name (i := 3) nd rfl (by first | exact Or.inl rfl | exact Or.inr rfl)) (pgs_cons (pg_name (i := 4) nd rfl (by first | exact Or.inl rfl | exact Or.inr rfl)) pgs_nil))))
      (s_one (s_for (t := (.one 5)) PassesOwn.never rfl (i_tup (q_call (ok_tie_names T) (hr.mono (by decide)) rfl T.d_tie_names.g T.d_tie_names.F.kp T.d_tie_names.b (a_cons (qv 0) (a_cons (qv 2) a_nil)))) (g_one 5 nd rfl (by first | exact Or.inl rfl | exact Or.inr rfl))
      (s_one (s_putOkn hr.units (pv 1) (qv 5))))))
      (s_one (s_ret (q_oknLen 1 rfl T.n_len (pv 1)))))
end
end K71

set_option Elab.async false
set_option linter.all false
set_option maxRecDepth 100000
set_option maxHeartbeats 4000000
namespace K71
open PySem L2
/-! ### a def that raises, and one that catches -/
/-- hands back data (some (some d)) or raises the class at CN (some none) -/
def spX (n : Nat) (CN : Addr) (f : List PyData → Option (Option PyData)) : Sp := fun vs H Q E => vs.length = n ∧ ∃ F ds, Same F H ∧ DqL F ds vs ∧
  ((∃ d, f ds = some (some d) ∧ ∀ F' H' v, Same F' H' → Same F F' → Same H H' → (∀ c o, H c = some o → NoTup o → F c = none → F' c = none) → Dq F' d v → Q v H') ∨
   (f ds = some none ∧ ∀ F' H', Same F' H' → Same F F' → Same H H' → (∀ c o, H c = some o → NoTup o → F c = none → F' c = none) → E (.ref CN) none H'))
structure Errs (K : PySem.W.Frag) (mg : Str → Option Value) (CN CB : Addr) : Prop where
  gN : mg "NoName" = some (.ref CN)
  gB : mg "BetweenError" = some (.ref CB)
  kN : PySem.W.keepIn K (.ref CN) = true
  xN : PySem.W.excIn K CN [.type "ValueError", .type "Exception", .type "BaseException", .type "object"] "ValueError.__new__" = true
  bN : PySem.W.subIn K (.ref CN) (.type "BaseException") = some true
  tN : PySem.W.typeIn K (.ref CN) = some (.type "type")
  eN : PySem.W.exmOne K (.ref CN) (.ref CN) = some true
  C : ExcC K CN
  iB : PySem.W.kitOne K (.ref CN) (.ref CB) = some true
  iV : PySem.W.kitOne K (.ref CN) (.type "ValueError") = some true
section
variable {P : Program} {w : World} {K : PySem.W.Frag} {mg : Str → Option Value} {base : Heap} {A : Nat → Addr} {D : Nat → FuncData} {tk : Tok} {CN CB : Addr}
abbrev s_tie_told : Stmt := top 25
abbrev N_tie_told : List Str := ["one", "other"]
theorem sc_tie_told : FnScope N_tie_told ["one", "other"] (defScope s_tie_told) := ⟨rfl, rfl, rfl, by decide +kernel, rfl, by decide +kernel, by decide +kernel⟩
def t_tie_told : DT := (tOrD (tNotD (tst (dFn 1 f_is_tie_name (aCons (dVar 0) aNil)))) (tOrD (tNotD (tst (dFn 1 f_is_tie_name (aCons (dVar 1) aNil)))) (tst (dOp gEq (dVar 0) (dVar 1)))))
def d_tie_told : DE := (dFn 2 f_told_of (aCons (dOp gIx (dVar 0) (dC (.int 0))) (aCons (dOp gIx (dVar 1) (dC (.int 0))) aNil)))
def f_tie_told (ds : List PyData) : Option (Option PyData) := match t_tie_told (initP 2 ds) with
  | none => none
  | some (true, _) => some none
  | some (false, b) => (d_tie_told ((initP 2 ds).wb b)).map fun r => some r.1
theorem ok_tie_told (T : Txt K mg A D tk) (R : Errs K mg CN CB) : FnOk P w K mg base (L2.CX P w) 4 (A 25) (D 25) ["one", "other"] (spX 2 CN f_tie_told) := by
  refine T.d_tie_told.F.okX sc_tie_told (fun vs H Q E h => h.1) fun cdv A' outer s H vs Q E hr h => ?_
  have nd := sc_tie_told.nd
  refine ⟨tSeq (tIfS (liftT t_tie_told) (fun _ _ H => E (.ref CN) none H) (liftS sNil)) (tRet (lift d_tie_told)), ?_, ?_⟩
  · exact pss_cons (ps_if (PW.pt (w_or (t_not (t_val (q_call (ok_is_tie_name T) (hr.mono (by decide)) rfl T.d_is_tie_name.g T.d_is_tie_name.F.kp T.d_is_tie_name.b (a_cons (qv 0) a_nil)))) (w_or (t_not (t_val (q_call (ok_is_tie_name T) (hr.mono (by decide)) rfl T.d_is_tie_name.g T.d_is_tie_name.F.kp T.d_is_tie_name.b (a_cons (qv 1) a_nil)))) (pw_or1 (t_cmp (op_eqD hr.units) o_eq (qv 0) (qv 1) (nomark _))))))
        (pss_one (ps_raise (W := fun cls d _ H => E cls d H) (t := fun _ H Q => Q (.ref CN) none H) rfl (takes_of rfl rfl rfl rfl) (by exact (pmk_bare PySem.F.excBase_ValueError R.xN R.gN R.kN (raises_own R.bN R.tN) rfl)))) s_nil)
      (pss_one (ps_ret (q_call (ok_told_of T) (hr.mono (by decide)) rfl T.d_told_of.g T.d_told_of.F.kp T.d_told_of.b (a_cons (q_ix ix_seq o_ix (qv 0) (q_int) (fun _ _ => rfl)) (a_cons (q_ix ix_seq o_ix (qv 1) (q_int) (fun _ _ => rfl)) a_nil)))))
  · obtain ⟨hl, F, ds, s0, q, kk⟩ := h
    have E0 := init_env (n := 2) s0 q (start N_tie_told vs) rfl
    have e1 : ∃ o, f_tie_told ds = some o := by
      rcases kk with ⟨d, e, _⟩ | ⟨e, _⟩
      · exact ⟨_, e⟩
      · exact ⟨_, e⟩
    obtain ⟨o, e⟩ := e1
    have e0 := e
    unfold f_tie_told at e
    split at e
    · cases e
    · rename_i b et
      cases e
      refine ⟨_, F, _, _, _, E0, et, fun F1 H1 E1 s1 => iteT ?_⟩
      rcases kk with ⟨d, e, _⟩ | ⟨e, k⟩
      · rw [e0] at e; cases e
      · exact k F1 H1 E1.sub E1.sF (fun c o h => E1.sH c o (fun z => z) h) (fun c o h nt hf => E1.nw c o (fun z => z) h nt hf)
    · rename_i b et
      refine ⟨_, F, _, _, _, E0, et, fun F1 H1 E1 s1 => iteF ?_⟩
      obtain ⟨⟨r, b2⟩, e2, e⟩ := Option.map_eq_some_iff.mp e
      cases e
      refine ⟨_, F1, _, _, E1, rfl, fun F2 H2 σ2 E2 => ?_⟩
      refine ⟨_, F2, _, _, _, E2, e2, fun F3 H3 v3 E3 s3 q3 => ?_⟩
      rcases kk with ⟨d, e, k⟩ | ⟨e, _⟩
      · rw [e0] at e
        cases e
        exact k F3 H3 v3 E3.sub E3.sF (fun c o h => E3.sH c o (fun z => z) h) (fun c o h nt hf => E3.nw c o (fun z => z) h nt hf) q3
      · rw [e0] at e; cases e
abbrev s_l_told : Stmt := top 46
abbrev N_l_told : List Str := ["_law_one", "_law_other", "_law_found", "e"]
theorem sc_l_told : FnScope N_l_told ["_law_one", "_law_other"] (defScope s_l_told) := ⟨rfl, rfl, rfl, by decide +kernel, rfl, by decide +kernel, by decide +kernel⟩
def f_l_told (ds : List PyData) : Option PyData := match f_tie_told ds with
  | none => none
  | some (some d) => some (.tuple [.str "told", d])
  | some none => some (.tuple [.str "none", .bool true])
def t_body (K : PySem.W.Frag) (CN : Addr) : WX → TS := fun W => tAsg (tTup (tCons (tC (.str "told")) (tCons (tCallS (spX 2 CN f_tie_told) (WE W) (tCons (tVar 0) (tCons (tVar 1) tNil))) tNil))) (gName 2)
def t_suite (K : PySem.W.Frag) (CN CB a : Addr) : TS := tAsg (tTup (tCons (tC (.str "none")) (tCons (tAndV (tCB (rIsE K CN a) (tCons (tVar 3) (tCons (tC (.ref CB)) tNil))) (tCB (rIsE K CN a) (tCons (tVar 3) (tCons (tC (.ty "ValueError")) tNil)))) tNil))) (gName 2)
theorem ok_l_told (T : Txt K mg A D tk) (R : Errs K mg CN CB) : FnOk P w K mg base CX0 5 (A 46) (D 46) ["_law_one", "_law_other"] (spP 2 f_l_told) := by
  refine T.d_l_told.F.ok sc_l_told (fun vs H Q E h => h.1) fun cdv A' outer s H vs Q E hr h => ?_
  have nd := sc_l_told.nd
  have G : FnOk P w K mg base (L2.CX P w) 4 (A 25) (D 25) ["one", "other"] (spX 2 CN f_tie_told) := ok_tie_told T R
  refine ⟨tSeq (tAsg (tTup (tCons (tC (.str "told")) (tCons (tC .non) tNil))) (gName 2)) (tSeq (fun D σ H => t_body K CN (wAs K (.ref CN) 3 (fun a cls d => fun D σ H => cls = .ref CN ∧ d = none ∧ t_suite K CN CB a D σ H) (fun _ _ _ _ => False) D) D σ H) (tRet (tVar 2))), ?_, ?_⟩
  · refine pss_cons (ps_set (i := 2) nd rfl (Or.inl rfl) (pe_tup (pa_cons pe_str (pa_cons pe_non pa_nil)))) (pss_cons (ps_try_as (i := 3) (tb := t_body K CN) (ts := fun a cls d => fun D σ H => cls = .ref CN ∧ d = none ∧ t_suite K CN CB a D σ H) (Wout := fun _ _ _ _ => False) rfl rfl nd rfl rfl ⟨rfl, by decide, .inl R.gN⟩ takes0 (fun W pn xe tk _ => ?_) (fun a oe cls d pn hz hf => ?_)) (pss_one (ps_ret (pv 2))))
    · exact pss_one (ps_set (i := 2) nd rfl (Or.inl rfl) (pe_tup (pa_cons pe_str (pa_cons (by exact (pe_callS G (hr.mono (by decide)) rfl T.d_tie_told.g T.d_tie_told.F.kp T.d_tie_told.b (fun σ => passAt tk σ) (by exact (pa_cons (pv 0) (pa_cons (pv 1) pa_nil))))) pa_nil))))
    · refine ⟨fun pins s σ H D I h => ?_⟩
      obtain ⟨rfl, rfl, h⟩ := h
      refine PSs.run (t := t_suite K CN CB a) ?_ pins s σ H D I h
      exact pss_one (ps_set (i := 2) nd rfl (Or.inl rfl) (pe_tup (pa_cons pe_str (pa_cons (pe_and (pe_callB (call_isE R.C hz hf) (by rfl) T.n_isinstance (by decide +kernel) (pa_cons (pv 3) (pa_cons (pe_glob (v := .ref CB) (by rfl) R.gB rfl) pa_nil)))
        (pe_one (pe_callB (call_isE R.C hz hf) (by rfl) T.n_isinstance (by decide +kernel) (pa_cons (pv 3) (pa_cons (pe_bltn (v := .ty "ValueError") (by rfl) T.n_ValueError (by decide +kernel) rfl) pa_nil))))) pa_nil))))
  · obtain ⟨hl, F, ds, d, s0, q, e, kk⟩ := h
    match vs, hl with
    | [x, y], _ =>
    refine ⟨by show 2 ≤ sizeLine; decide, fun p0 hp0 => ?_⟩
    have up : ∀ {G : Hp} {p : Addr} {o : HO}, G p = none → Same G (upd G p o) := fun h b u z => by rw [upd_ne (ne_of_none z h)]; exact z
    have s1 : Same F (upd H p0 (.tup [V.str "told", V.non])) := s0.trans (up hp0)
    refine ⟨_, rfl, _, rfl, rfl, F, ds, s1, q, ?_⟩
    have fin : ∀ (F1 H1 : Hp) (p : Addr) (vs : List V) (dd : List PyData), Same F1 H1 → Same F F1 → Same (upd H p0 (.tup [V.str "told", V.non])) H1 → (∀ c o, (upd H p0 (.tup [V.str "told", V.non])) c = some o → NoTup o → F c = none → F1 c = none) → DqL F1 dd vs → H1 p = none →
        d = .tuple dd → Q (.ref p) (upd H1 p (.tup vs)) := fun F1 H1 p vs dd a b c n qv hp ed => by
      subst ed
      have hF : F1 p = none := a.free hp
      refine kk (upd F1 p (.tup vs)) _ _ (fun z u zz => ?_) (b.trans (up hF)) ((up hp0).trans (c.trans (up hp))) (fun z u zz nt hz => ?_) (.tup p upd_same (qv.mono (up hF)))
      · by_cases ez : z = p
        · subst ez; rw [upd_same] at zz ⊢; exact zz
        · rw [upd_ne ez] at zz ⊢; exact a _ _ zz
      · have h2 := up (o := .tup [V.str "told", V.non]) hp0 _ _ zz
        have nz : z ≠ p := fun w => by subst w; rw [c _ _ h2] at hp; cases hp
        rw [upd_ne nz]
        exact n _ _ h2 nt hz
    unfold f_l_told at e
    split at e
    · cases e
    · rename_i d' e1
      refine .inl ⟨d', e1, fun F1 H1 v a b c n q1 => ⟨by show 2 ≤ sizeLine; decide, fun p1 hp1 => ⟨_, rfl, ?_⟩⟩⟩
      exact fin F1 H1 p1 _ _ a b c n (.cons (.str _) (.cons q1 .nil)) hp1 (Option.some.inj e).symm
    · rename_i e1
      refine .inr ⟨e1, fun F1 H1 a b c n => ⟨true, R.eN, fun _ z hz => ⟨rfl, rfl, ?_⟩, fun q => nomatch q⟩⟩
      refine ⟨_, rfl, .ref CB, .ref CB, true, rfl, fun _ z => z, R.iB, ?_⟩
      refine ⟨true, rfl, _, rfl, .ty "ValueError", .type "ValueError", true, rfl, fun _ z => z, R.iV, by show 2 ≤ sizeLine; decide, fun p1 hp1 => ⟨_, rfl, ?_⟩⟩
      exact fin F1 H1 p1 _ _ a b c n (.cons (.str _) (.cons (.bl _) .nil)) hp1 (Option.some.inj e).symm
end
end K71

set_option Elab.async false
set_option linter.all false
set_option maxRecDepth 100000
set_option maxHeartbeats 4000000
namespace K71
open PySem L2
/-! ### the bag made, the law -/
section
variable {P : Program} {w : World} {K : PySem.W.Frag} {mg : Str → Option Value} {base : Heap} {A : Nat → Addr} {D : Nat → FuncData} {tk : Tok} {CN CB : Addr}
/-- nothing is known of the slots -/
theorem init_none {F H : Hp} (s : Same F H) (σ : L2.St) : EnvOk ⟨F, H, fun _ => False, none⟩ F H σ ⟨List.replicate σ.length none, ⟨0, 0, 0⟩, none⟩ where
  sub := s
  sF := Same.refl F
  sH := fun _ _ _ h => h
  nw := fun _ _ _ _ _ h => h
  len := by simp
  at_ := fun i e h => by
    have h : (List.replicate σ.length (none : Option En))[i]? = some (some e) := h
    rw [List.getElem?_replicate] at h
    split at h <;> cases h
  sep := fun i j e e' p h => by
    have h : (List.replicate σ.length (none : Option En))[i]? = some (some e) := h
    rw [List.getElem?_replicate] at h
    split at h <;> cases h
  mine := fun i e p h => by
    have h : (List.replicate σ.length (none : Option En))[i]? = some (some e) := h
    rw [List.getElem?_replicate] at h
    split at h <;> cases h
  bk := rfl
  bg := fun _ _ h => nomatch h
/-- only the bag is known, in slot 1 -/
theorem init_bag1 {H : Hp} {b : Addr} {g : Bag} (hb : H b = some (bagV g)) (σ : L2.St) (h1 : σ[1]? = some (some (.ref b))) : EnvOk ⟨fun _ => none, H, fun c => c = b, some (1, b)⟩ (fun _ => none) H σ ⟨List.replicate σ.length none, g, some 1⟩ where
  sub := fun _ _ h => nomatch h
  sF := Same.refl _
  sH := fun _ _ _ h => h
  nw := fun _ _ _ _ _ h => h
  len := by simp
  at_ := fun i e h => by
    have h : (List.replicate σ.length (none : Option En))[i]? = some (some e) := h
    rw [List.getElem?_replicate] at h
    split at h <;> cases h
  sep := fun i j e e' p h => by
    have h : (List.replicate σ.length (none : Option En))[i]? = some (some e) := h
    rw [List.getElem?_replicate] at h
    split at h <;> cases h
  mine := fun i e p h => by
    have h : (List.replicate σ.length (none : Option En))[i]? = some (some e) := h
    rw [List.getElem?_replicate] at h
    split at h <;> cases h
  bk := rfl
  bg := fun k c h => by
    cases h
    refine ⟨h1, ?_, hb, rfl, .inl rfl⟩
    show (List.replicate σ.length (none : Option En))[1]? = some none
    rw [List.getElem?_replicate, if_pos (List.getElem?_eq_some_iff.mp h1).1]
abbrev s_l_bag : Stmt := top 27
abbrev N_l_bag : List Str := ["_law_script", "_law_cells", "_law_seed", "_law_great", "_law_cell", "_law_k"]
theorem sc_l_bag : FnScope N_l_bag ["_law_script"] (defScope s_l_bag) := ⟨rfl, rfl, rfl, by decide +kernel, rfl, by decide +kernel, by decide +kernel⟩
def iScr (ns : List Int) : DA := fun δ => some (cutD (ns.map .int) none (some 63), δ.bag)
def d_l_bag1 (ns : List Int) : DS := (sAsg (.one 1) (dLc (iScr ns) (.one 4) tTrue (dCall gInt (aCons (dVar 4) aNil)) [4]))
def d_l_bag2 : DS :=
  (sSeq (sAsg (.one 2) (dOp gMod (dCall gInt (aCons (dOp gAdd (dCall gSum (aCons (dLc (iEL (dVar 1)) (.many [5, 4]) tTrue (dOp gMulC (dCall gInt (aCons (dVar 4) aNil)) (dOp gAdd (dVar 5) (dC (.int 5)))) [5, 4]) aNil)) (dOp gMulC (dC (.int 37)) (dCall gLen (aCons (dVar 1) aNil)))) aNil)) (dC (.int 2147483647))))
  (sSeq (sAsg (.one 3) (dC (.int 0)))
  (sSeq (sFor (iL (dVar 1)) (.one 4)
  (sIf (tst (dOp gGe (dCall gAbs (aCons (dVar 4) aNil)) (dOp gPow (dC (.int 10)) (dC (.int 18))))) (sSeq (sAsg (.one 3) (dCall gAbs (aCons (dVar 4) aNil)))
  sBreak) sNil))
  (sRet (dLst (aCons (dVar 2) (aCons (dC (.int 0)) (aCons (dVar 3) aNil))))))))
def f_l_bag (ns : List Int) : Option PyData := match sSeq (d_l_bag1 ns) d_l_bag2 ⟨List.replicate 6 none, ⟨0, 0, 0⟩, none⟩ with
  | some (.rt d _) => some d
  | _ => none
def scrAt (K : PySem.W.Frag) (ns : List Int) (σ : L2.St) (H : Hp) : Prop := ∃ a, σ[0]? = some (some (.ref a)) ∧ SqL K H a (ns.map V.int)
theorem pi_scr {X : Cx} {ns : List Int} {tg e : Expr} {p2 pos p3 : Pos} {j : Nat} (h0 : PE X e (tVar 0)) : PI X tg (.Subscript e (.Slice none (some (.Constant (.int 63) j p3)) none p2) pos) (fun σ H R => scrAt X.K ns σ H ∧ liftI (iScr ns) σ H R) :=
  pi_le (pi_list (pe_slice sl_list h0 po_none (po_some pe_int))) fun σ H R h => by
    obtain ⟨⟨a, h1, h2⟩, C, F, δ, ds, b, E, e, k⟩ := h
    cases e
    refine ⟨_, h1, 63, rfl, a, _, rfl, h2, fun p hp => ⟨p, rfl, ⟨_, sl_of upd_same⟩, ?_⟩⟩
    obtain ⟨E2, s2⟩ := E.new (.lst (cutV (ns.map V.int) none (some 63))) hp
    exact k _ _ _ E2 s2 (yields_list upd_same ((DqL.ints ns).cut none (some 63)))
/-- the bag of a script -/
def spBag (K : PySem.W.Frag) : Sp := fun vs H Q _ => ∃ (a : Addr) (ns : List Int) (d : PyData), vs = [.ref a] ∧ SqL K H a (ns.map V.int) ∧ f_l_bag ns = some d ∧ ∀ F' H' v, Same F' H' → Dq F' d v → Q v H'
theorem ok_l_bag (T : Txt K mg A D tk) : FnOk P w K mg base CX0 1 (A 27) (D 27) ["_law_script"] (spBag K) := by
  refine T.d_l_bag.F.ok sc_l_bag (fun vs H Q E h => by obtain ⟨a, ns, d, rfl, _⟩ := h; rfl) fun cdv A' outer s H vs Q E hr h => ?_
  have nd := sc_l_bag.nd
  obtain ⟨a, ns, d, rfl, hS, e, kk⟩ := h
  refine ⟨tSeq (fun D σ H => scrAt K ns σ H ∧ liftS (d_l_bag1 ns) D σ H) (liftS d_l_bag2), ?_, ?_⟩
  · refine pss_cons (ps_le (ps_setLc (i := 1) (own := [("_law_cell", 4)]) (wi := fun σ H R => scrAt K ns σ H ∧ liftI (iScr ns) σ H R) (g := gOf K (.one 4)) (tt := liftT tTrue) (te := lift (dCall gInt (aCons (dVar 4) aNil))) rfl nd rfl rfl (sw_true rfl rfl rfl (by decide +kernel)) (pi_scr (pv 0)) (blkOk_by (own := [("_law_cell", 4)]) (N := N_l_bag) (sc := (defScope s_l_bag)) (by decide +kernel)) (fun _ _ _ _ _ => g_one 4 nd rfl (by first | exact Or.inl rfl | exact Or.inr rfl)) (fun _ _ _ _ _ => ts_nil) (fun _ _ _ _ _ => q_cty call_int1 c_int rfl T.n_int (by decide +kernel) (a_cons (qv 4) a_nil))) ?_) ?_
    · intro D σ H h
      exact ⟨h.1, lift_lc K (liftS_asg (t := .one 1) K h.2)⟩
    · exact s_cons (s_set nd rfl (by first | exact Or.inl rfl | exact Or.inr rfl) (q_op op_mod o_mod (q_cty call_int1 c_int rfl T.n_int (by decide +kernel) (a_cons (q_op op_add3 o_add (q_cb (cr_sum rfl) c_sum rfl T.n_sum (by decide +kernel) (a_cons (q_lc (own := [("_law_k", 5), ("_law_cell", 4)]) (t := (.many [5, 4])) rfl nd (i_enum rfl T.n_enumerate (qv 1)) (blkOk_by (own := [("_law_k", 5), ("_law_cell", 4)]) (N := N_l_bag) (sc := (defScope s_l_bag)) (by decide +kernel)) (fun _ _ _ _ _ => g_two rfl (pgs_cons (pg_name (i := 5) nd rfl (by first | exact Or.inl rfl | exact Or.inr rfl)) (pgs_cons (pg_name (i := 4) nd rfl (by first | exact Or.inl rfl | exact Or.inr rfl)) pgs_nil))) (fun _ _ _ _ _ => ts_nil) (fun _ _ _ _ _ => q_op op_mul o_mul (q_cty call_int1 c_int rfl T.n_int (by decide +kernel) (a_cons (qv 4) a_nil)) (q_op op_add3 o_add (qv 5) (q_int)))) a_nil)) (q_op op_mul o_mul (q_int) (q_cb call_len c_len rfl T.n_len (by decide +kernel) (a_cons (qv 1) a_nil)))) a_nil)) (q_int)))
            (s_cons (s_set nd rfl (by first | exact Or.inl rfl | exact Or.inr rfl) (q_int))
            (s_cons (s_for (t := (.one 4)) PassesOwn.never rfl (i_list (qv 1)) (g_one 4 nd rfl (by first | exact Or.inl rfl | exact Or.inr rfl))
            (s_one (s_if (t_cmp op_ge o_ge (q_cb call_abs c_abs rfl T.n_abs (by decide +kernel) (a_cons (qv 4) a_nil)) (q_op op_pow o_pow (q_int) (q_int)) (nomark _)) (s_cons (s_set nd rfl (by first | exact Or.inl rfl | exact Or.inr rfl) (q_cb call_abs c_abs rfl T.n_abs (by decide +kernel) (a_cons (qv 4) a_nil)))
            (s_one (s_break))) (s_nil))))
            (s_one (s_ret (q_lst (a_cons (qv 2) (a_cons (q_int) (a_cons (qv 3) a_nil))))))))
  · have E0 := init_none (F := fun _ => none) (H := H) (fun _ _ h => nomatch h) (start N_l_bag [.ref a])
    unfold f_l_bag at e
    split at e
    · rename_i d' b' e1
      cases e
      have z := liftS_seq (D := { nx := fun _ H' => Q .non H', rt := Q }) ⟨_, _, _, _, E0, e1, fun F' H' σ' δ' v E' _ qv => kk F' H' v E'.sub qv⟩
      exact ⟨⟨a, rfl, hS⟩, z⟩
    · cases e
abbrev s_law : Stmt := top 49
abbrev N_law : List Str := ["_law_script", "_law_bag_here", "_law_plan_here", "_law_names", "_law_one", "_law_name", "_law_turn", "_law_small", "_law_run", "_law_row", "_law_chains", "_law_other", "_law_odd", "_law_fine", "_law_due", "_law_told_here"]
theorem sc_law : FnScope N_law ["_law_script"] (defScope s_law) := ⟨rfl, rfl, rfl, by decide +kernel, rfl, by decide +kernel, by decide +kernel⟩
def d_law : DS :=
  (sSeq (sAsg (.one 2) (dBag 1 1 f_l_plan (aCons (dC (.int 9)) aNil)))
  (sSeq (sAsg (.many [8, 9, 10]) (dBag 1 1 f_l_tie_run (aCons (dVar 2) aNil)))
  (sSeq (sAsg (.one 3) (dFn 2 f_tie_names (aCons (dVar 2) (aCons (dVar 8) aNil))))
  (sSeq (sIf (tNotD (tst (dFn 2 (f_l_is 6) (aCons (dVar 3) (aCons (dFn 2 f_l_tie_names (aCons (dVar 8) (aCons (dVar 10) aNil))) aNil))))) (sRet (dC (.bool false))) sNil)
  (sSeq (sFor (iR (dCall gLen (aCons (dVar 2) aNil))) (.one 4)
  (sFor (iR (dCall gLen (aCons (dVar 2) aNil))) (.one 11)
  (sSeq (sAsg (.one 14) (dIf (tst (dOp gEq (dVar 4) (dVar 11))) (dTup (aCons (dC (.str "none")) (aCons (dC (.bool true)) aNil))) (dTup (aCons (dC (.str "told")) (aCons (dFn 3 f_l_stands (aCons (dVar 9) (aCons (dVar 4) (aCons (dVar 11) aNil)))) aNil)))))
  (sIf (tNotD (tst (dFn 2 (f_l_is 6) (aCons (dFn 2 f_l_told (aCons (dOp gIx (dVar 3) (dVar 4)) (aCons (dOp gIx (dVar 3) (dVar 11)) aNil))) (aCons (dVar 14) aNil))))) (sRet (dC (.bool false))) sNil))))
  (sSeq (sIf (tNotD (tst (dFn 2 (f_l_is 6) (aCons (dFn 1 f_many_tie_names (aCons (dVar 2) aNil)) (aCons (dOp gSub (dOp gMulC (dC (.int 2)) (dCall gSum (aCons (dFn 1 f_l_ends (aCons (dVar 2) aNil)) aNil))) (dCall gLen (aCons (dVar 2) aNil))) aNil))))) (sRet (dC (.bool false))) sNil)
  (sSeq (sAsg (.one 5) (dIf (tst (dOp gGt (dCall gLen (aCons (dVar 3) aNil)) (dC (.int 0)))) (dOp gIx (dVar 3) (dBag 1 1 f_l_draw (aCons (dCall gLen (aCons (dVar 3) aNil)) aNil))) (dTup (aCons (dTup (aCons (dC (.int 3)) (aCons (dC (.int 5)) aNil))) (aCons (dC (.int 7)) aNil)))))
  (sSeq (sFor (iR (dC (.int 6))) (.one 6)
  (sSeq (sAsg (.one 12) (dBag 1 1 f_l_spoiled (aCons (dVar 5) aNil)))
  (sSeq (sAsg (.one 13) (dAnd (dFn 1 f_l_is_tied_name (aCons (dVar 12) aNil)) (dOp gNe (dVar 12) (dVar 5))))
  (sFor (iL (dLst (aCons (dTup (aCons (dVar 12) (aCons (dVar 5) aNil))) (aCons (dTup (aCons (dVar 5) (aCons (dVar 12) aNil))) aNil)))) (.many [4, 11])
  (sSeq (sAsg (.one 15) (dFn 2 f_l_told (aCons (dVar 4) (aCons (dVar 11) aNil))))
  (sSeq (sIf (tAndD (tst (dVar 13)) (tOrD (tst (dOp gNe (dOp gIx (dVar 15) (dC (.int 0))) (dC (.str "told")))) (tst (dOp (gIn true) (dOp gIx (dVar 15) (dC (.int 1))) (dTup (aCons (dC (.str "tied")) (aCons (dC (.str "ahead")) (aCons (dC (.str "behind")) aNil)))))))) (sRet (dC (.bool false))) sNil)
  (sIf (tAndD (tNotD (tst (dVar 13))) (tst (dOp gNe (dVar 15) (dTup (aCons (dC (.str "none")) (aCons (dC (.bool true)) aNil)))))) (sRet (dC (.bool false))) sNil)))))))
  (sSeq (sAsg (.one 7) (dBag 1 1 f_l_plan (aCons (dC (.int 4)) aNil)))
  (sSeq (sIf (tst (dOp (gIsN false) (dFn 2 f_l_tie_runs (aCons (dVar 7) (aCons (dC (.int 600)) aNil))) (dC .none))) (sRet (dC (.bool true))) sNil)
  (sRet (dOp gEq (dFn 1 f_l_all_names (aCons (dVar 7) aNil)) (dFn 1 f_many_tie_names (aCons (dVar 7) aNil))))))))))))))
def initL (g : Bag) : Dn := ⟨List.replicate 16 none, g, some 1⟩
def spLaw (K : PySem.W.Frag) : Sp := fun vs H Q _ => ∃ (a : Addr) (ns : List Int), vs = [.ref a] ∧ SqL K H a (ns.map V.int) ∧ ns.length ≤ 63 ∧ ∀ H', Q (.bl true) H'
/-- what is left in plain Lean -/
def Kept : Prop := ∀ ns : List Int, ns.length ≤ 63 → ∃ s g b, f_l_bag ns = some (.list [.int s, .int 0, .int g]) ∧ d_law (initL ⟨s, 0, g⟩) = some (.rt (.bool true) b)
theorem ok_law (T : Txt K mg A D tk) (R : Errs K mg CN CB) (kept : Kept) : FnOk P w K mg base CX0 8 (A 49) (D 49) ["_law_script"] (spLaw K) := by
  refine T.d_law.F.ok sc_law (fun vs H Q E h => by obtain ⟨a, ns, rfl, _⟩ := h; rfl) fun cdv A' outer s H vs Q E hr h => ?_
  have nd := sc_law.nd
  obtain ⟨a, ns, rfl, hS, hl, kk⟩ := h
  have ok_l_bag : Txt K mg A D tk → FnOk P w K mg base CX0 1 (A 27) (D 27) ["_law_script"] (spBag K) := ok_l_bag
  refine ⟨tSeq (tAsg (tCall (spBag K) [] (fun _ _ _ => False) (tCons (tVar 0) tNil)) (gName 1)) (liftS d_law), ?_, ?_⟩
  · refine pss_cons (ps_set (i := 1) nd rfl (Or.inl rfl) (pe_call (ok_l_bag T) (hr.mono (by decide)) rfl T.d_l_bag.g T.d_l_bag.F.kp T.d_l_bag.b .nil pass0 (pa_cons (pv 0) pa_nil))) ?_
    have ok_l_told : Txt K mg A D tk → FnOk P w K mg base CX0 5 (A 46) (D 46) ["_law_one", "_law_other"] (spP 2 f_l_told) := fun T => ok_l_told T R
    exact s_cons (s_set nd rfl (by first | exact Or.inl rfl | exact Or.inr rfl) (q_bag (ok_l_plan T) (hr.mono (by decide)) rfl T.d_l_plan.g T.d_l_plan.F.kp T.d_l_plan.b (pv 1) (a_cons (q_int) a_nil)))
            (s_cons (s_asg (t := (.many [8, 9, 10])) (q_bag (ok_l_tie_run T) (hr.mono (by decide)) rfl T.d_l_tie_run.g T.d_l_tie_run.F.kp T.d_l_tie_run.b (pv 1) (a_cons (qv 2) a_nil)) (g_three rfl (pgs_cons (pg_name (i := 8) nd rfl (by first | exact Or.inl rfl | exact Or.inr rfl)) (pgs_cons (pg_name (i := 9) nd rfl (by first | exact Or.inl rfl | exact Or.inr rfl)) (pgs_cons (pg_name (i := 10) nd rfl (by first | exact Or.inl rfl | exact Or.inr rfl)) pgs_nil)))))
            (s_cons (s_set nd rfl (by first | exact Or.inl rfl | exact Or.inr rfl) (q_call (ok_tie_names T) (hr.mono (by decide)) rfl T.d_tie_names.g T.d_tie_names.F.kp T.d_tie_names.b (a_cons (qv 2) (a_cons (qv 8) a_nil))))
            (s_cons (s_if (t_not (t_val (q_call (ok_l_is T 6) (hr.mono (by decide)) rfl T.d_l_is.g T.d_l_is.F.kp T.d_l_is.b (a_cons (qv 3) (a_cons (q_call (ok_l_tie_names T) (hr.mono (by decide)) rfl T.d_l_tie_names.g T.d_l_tie_names.F.kp T.d_l_tie_names.b (a_cons (qv 8) (a_cons (qv 10) a_nil))) a_nil))))) (s_one (s_ret (q_bl))) (s_nil))
            (s_cons (s_for (t := (.one 4)) PassesOwn.never rfl (i_range rfl T.n_range (q_cb call_len c_len rfl T.n_len (by decide +kernel) (a_cons (qv 2) a_nil))) (g_one 4 nd rfl (by first | exact Or.inl rfl | exact Or.inr rfl))
            (s_one (s_for (t := (.one 11)) PassesOwn.never rfl (i_range rfl T.n_range (q_cb call_len c_len rfl T.n_len (by decide +kernel) (a_cons (qv 2) a_nil))) (g_one 11 nd rfl (by first | exact Or.inl rfl | exact Or.inr rfl))
            (s_cons (s_set nd rfl (by first | exact Or.inl rfl | exact Or.inr rfl) (q_if (t_cmp (op_eqD hr.units) o_eq (qv 4) (qv 11) (nomark _)) (q_tup (a_cons (q_str) (a_cons (q_bl) a_nil))) (q_tup (a_cons (q_str) (a_cons (q_call (ok_l_stands T) (hr.mono (by decide)) rfl T.d_l_stands.g T.d_l_stands.F.kp T.d_l_stands.b (a_cons (qv 9) (a_cons (qv 4) (a_cons (qv 11) a_nil)))) a_nil)))))
            (s_one (s_if (t_not (t_val (q_call (ok_l_is T 6) (hr.mono (by decide)) rfl T.d_l_is.g T.d_l_is.F.kp T.d_l_is.b (a_cons (q_call (ok_l_told T) (hr.mono (by decide)) rfl T.d_l_told.g T.d_l_told.F.kp T.d_l_told.b (a_cons (q_ix ix_seq o_ix (qv 3) (qv 4) (fun _ _ => rfl)) (a_cons (q_ix ix_seq o_ix (qv 3) (qv 11) (fun _ _ => rfl)) a_nil))) (a_cons (qv 14) a_nil))))) (s_one (s_ret (q_bl))) (s_nil)))))))
            (s_cons (s_if (t_not (t_val (q_call (ok_l_is T 6) (hr.mono (by decide)) rfl T.d_l_is.g T.d_l_is.F.kp T.d_l_is.b (a_cons (q_call (ok_many_tie_names T) (hr.mono (by decide)) rfl T.d_many_tie_names.g T.d_many_tie_names.F.kp T.d_many_tie_names.b (a_cons (qv 2) a_nil)) (a_cons (q_op op_sub o_sub (q_op op_mul o_mul (q_int) (q_cb (cr_sum rfl) c_sum rfl T.n_sum (by decide +kernel) (a_cons (q_call (ok_l_ends T) (hr.mono (by decide)) rfl T.d_l_ends.g T.d_l_ends.F.kp T.d_l_ends.b (a_cons (qv 2) a_nil)) a_nil))) (q_cb call_len c_len rfl T.n_len (by decide +kernel) (a_cons (qv 2) a_nil))) a_nil))))) (s_one (s_ret (q_bl))) (s_nil))
            (s_cons (s_set nd rfl (by first | exact Or.inl rfl | exact Or.inr rfl) (q_if (t_cmp op_gt o_gt (q_cb call_len c_len rfl T.n_len (by decide +kernel) (a_cons (qv 3) a_nil)) (q_int) (nomark _)) (q_ix ix_seq o_ix (qv 3) (q_bag (ok_l_draw T) (hr.mono (by decide)) rfl T.d_l_draw.g T.d_l_draw.F.kp T.d_l_draw.b (pv 1) (a_cons (q_cb call_len c_len rfl T.n_len (by decide +kernel) (a_cons (qv 3) a_nil)) a_nil)) (fun _ _ => rfl)) (q_tup (a_cons (q_tup (a_cons (q_int) (a_cons (q_int) a_nil))) (a_cons (q_int) a_nil)))))
            (s_cons (s_for (t := (.one 6)) PassesOwn.never rfl (i_range rfl T.n_range (q_int)) (g_one 6 nd rfl (by first | exact Or.inl rfl | exact Or.inr rfl))
            (s_cons (s_set nd rfl (by first | exact Or.inl rfl | exact Or.inr rfl) (q_bag (ok_l_spoiled T) (hr.mono (by decide)) rfl T.d_l_spoiled.g T.d_l_spoiled.F.kp T.d_l_spoiled.b (pv 1) (a_cons (qv 5) a_nil)))
            (s_cons (s_set nd rfl (by first | exact Or.inl rfl | exact Or.inr rfl) (q_and (q_call (ok_l_is_tied_name T) (hr.mono (by decide)) rfl T.d_l_is_tied_name.g T.d_l_is_tied_name.F.kp T.d_l_is_tied_name.b (a_cons (qv 12) a_nil)) (pe_one (q_cmp (op_neD hr.units) o_ne (qv 12) (qv 5) (nomark _)))))
            (s_one (s_for (t := (.many [4, 11])) PassesOwn.never rfl (i_list (q_lst (a_cons (q_tup (a_cons (qv 12) (a_cons (qv 5) a_nil))) (a_cons (q_tup (a_cons (qv 5) (a_cons (qv 12) a_nil))) a_nil)))) (g_two rfl (pgs_cons (pg_name (i := 4) nd rfl (by first | exact Or.inl rfl | exact Or.inr rfl)) (pgs_cons (pg_name (i := 11) nd rfl (by first | exact Or.inl rfl | exact Or.inr rfl)) pgs_nil)))
            (s_cons (s_set nd rfl (by first | exact Or.inl rfl | exact Or.inr rfl) (q_call (ok_l_told T) (hr.mono (by decide)) rfl T.d_l_told.g T.d_l_told.F.kp T.d_l_told.b (a_cons (qv 4) (a_cons (qv 11) a_nil))))
            (s_cons (s_if (PW.pt (w_and (t_val (qv 13)) (pw_and1 (PW.pt (w_or (t_cmp (op_neD hr.units) o_ne (q_ix ix_seq o_ix (qv 15) (q_int) (fun _ _ => rfl)) (q_str) (nomark _)) (pw_or1 (t_cmp op_notIn_seq (o_in true) (q_ix ix_seq o_ix (qv 15) (q_int) (fun _ _ => rfl)) (q_tup (a_cons (q_str) (a_cons (q_str) (a_cons (q_str) a_nil)))) rfl))))))) (s_one (s_ret (q_bl))) (s_nil))
            (s_one (s_if (PW.pt (w_and (t_not (t_val (qv 13))) (pw_and1 (t_cmp (op_neD hr.units) o_ne (qv 15) (q_tup (a_cons (q_str) (a_cons (q_bl) a_nil))) (nomark _))))) (s_one (s_ret (q_bl))) (s_nil))))))))))
            (s_cons (s_set nd rfl (by first | exact Or.inl rfl | exact Or.inr rfl) (q_bag (ok_l_plan T) (hr.mono (by decide)) rfl T.d_l_plan.g T.d_l_plan.F.kp T.d_l_plan.b (pv 1) (a_cons (q_int) a_nil)))
            (s_cons (s_if (t_cmp op_isN o_isN (q_call (ok_l_tie_runs T) (hr.mono (by decide)) rfl T.d_l_tie_runs.g T.d_l_tie_runs.F.kp T.d_l_tie_runs.b (a_cons (qv 7) (a_cons (q_int) a_nil))) (q_non) (nomark _)) (s_one (s_ret (q_bl))) (s_nil))
            (s_one (s_ret (q_cmp (op_eqD hr.units) o_eq (q_call (ok_l_all_names T) (hr.mono (by decide)) rfl T.d_l_all_names.g T.d_l_all_names.F.kp T.d_l_all_names.b (a_cons (qv 7) a_nil)) (q_call (ok_many_tie_names T) (hr.mono (by decide)) rfl T.d_many_tie_names.g T.d_many_tie_names.F.kp T.d_many_tie_names.b (a_cons (qv 7) a_nil)) (nomark _)))))))))))))
  · obtain ⟨z, g, b, e1, e2⟩ := kept ns hl
    refine ⟨_, rfl, a, ns, _, rfl, hS, e1, fun F' H' v s' q => ?_⟩
    cases q with
    | lst p hp t =>
      cases t with
      | cons t1 t =>
        cases t with
        | cons t2 t =>
          cases t with
          | cons t3 t =>
            cases t; cases t1; cases t2; cases t3
            refine ⟨_, _, _, _, init_bag1 (g := ⟨z, 0, g⟩) (s' _ _ hp) _ rfl, e2, fun F2 H2 σ2 δ2 v2 E2 _ q2 => ?_⟩
            cases q2
            exact kk H2
end
end K71

set_option Elab.async false
set_option linter.all false
set_option maxRecDepth 100000
set_option maxHeartbeats 4000000
namespace K71
open PySem L2
/-! ### loops and blocks of data, step by step -/
theorem loop_nx {t : Tg} {body : DS} {d : PyData} {ds : List PyData} {δ δ1 δ2 : Dn} (h1 : putTg t d δ = some δ1) (h2 : body δ1 = some (.nx δ2)) : loopD t body (d :: ds) δ = loopD t body ds δ2 := by
  rw [loopD, h1]
  simp only [h2]
theorem loop_bk {t : Tg} {body : DS} {d : PyData} {ds : List PyData} {δ δ1 δ2 : Dn} (h1 : putTg t d δ = some δ1) (h2 : body δ1 = some (.bk δ2)) : loopD t body (d :: ds) δ = some (.nx δ2) := by
  rw [loopD, h1]
  simp only [h2]
theorem loop_rt {t : Tg} {body : DS} {d r : PyData} {g : Bag} {ds : List PyData} {δ δ1 : Dn} (h1 : putTg t d δ = some δ1) (h2 : body δ1 = some (.rt r g)) : loopD t body (d :: ds) δ = some (.rt r g) := by
  rw [loopD, h1]
  simp only [h2]
theorem seq_nx {a b : DS} {δ δ1 : Dn} (h : a δ = some (.nx δ1)) : sSeq a b δ = b δ1 := by
  unfold sSeq
  rw [h]
theorem seq_rt {a b : DS} {δ : Dn} {r : PyData} {g : Bag} (h : a δ = some (.rt r g)) : sSeq a b δ = some (.rt r g) := by
  unfold sSeq
  rw [h]
theorem seq_bk {a b : DS} {δ δ1 : Dn} (h : a δ = some (.bk δ1)) : sSeq a b δ = some (.bk δ1) := by
  unfold sSeq
  rw [h]
theorem if_t {t : DT} {a b : DS} {δ : Dn} {g : Bag} (h : t δ = some (true, g)) : sIf t a b δ = a (δ.wb g) := by
  unfold sIf
  rw [h]
theorem if_f {t : DT} {a b : DS} {δ : Dn} {g : Bag} (h : t δ = some (false, g)) : sIf t a b δ = b (δ.wb g) := by
  unfold sIf
  rw [h]
theorem asg_one {i : Nat} {a : DE} {δ : Dn} {d : PyData} {g : Bag} (h : a δ = some (d, g)) (hb : offBag [i] δ.bk = true) : sAsg (.one i) a δ = some (.nx { sl := δ.sl.set i (some (.dat d)), bag := g, bk := δ.bk }) := by
  unfold sAsg
  rw [h]
  show Option.map Out.nx (putTg (.one i) d (δ.wb g)) = _
  rw [putTg_one, if_pos hb]
  rfl
theorem for_eq {di : DA} {t : Tg} {body : DS} {δ : Dn} {ds : List PyData} {g : Bag} (h : di δ = some (ds, g)) : sFor di t body δ = loopD t body ds (δ.wb g) := by
  unfold sFor
  rw [h]
theorem ret_eq {a : DE} {δ : Dn} {d : PyData} {g : Bag} (h : a δ = some (d, g)) : sRet a δ = some (.rt d g) := by
  unfold sRet
  rw [h]
  rfl
theorem runP_rt {n : Nat} {b : DS} {ds : List PyData} {d : PyData} {g : Bag} (h : b (initP n ds) = some (.rt d g)) : runP n b ds = some d := by
  unfold runP
  rw [h]
theorem runP_nx {n : Nat} {b : DS} {ds : List PyData} {δ : Dn} (h : b (initP n ds) = some (.nx δ)) : runP n b ds = some .none := by
  unfold runP
  rw [h]
theorem runB_rt {n : Nat} {b : DS} {g g' : Bag} {ds : List PyData} {d : PyData} (h : b (initB n g ds) = some (.rt d g')) : runB n b g ds = some (d, g') := by
  unfold runB
  rw [h]
theorem cons_eq {a : DE} {r : DA} {δ : Dn} {d : PyData} {ds : List PyData} {g g2 : Bag} (h : a δ = some (d, g)) (h2 : r (δ.wb g) = some (ds, g2)) : aCons a r δ = some (d :: ds, g2) := by
  unfold aCons bd
  rw [h]
  show bdA r (fun xs => fun δ => some (d :: xs, δ.bag)) (δ.wb g) = _
  unfold bdA
  rw [h2]
theorem one_eq {a : DE} {δ : Dn} {d : PyData} {g : Bag} (h : a δ = some (d, g)) : aCons a aNil δ = some ([d], g) := cons_eq h rfl
theorem call_eq {f : List PyData → Option PyData} {a : DA} {δ : Dn} {d : PyData} {ds : List PyData} {g : Bag} (h : a δ = some (ds, g)) (h2 : f ds = some d) : dCall f a δ = some (d, g) := by
  unfold dCall bdA
  rw [h]
  show (f ds).map (·, g) = _
  rw [h2]
  rfl
theorem fn_eq {n : Nat} {f : List PyData → Option PyData} {a : DA} {δ : Dn} {d : PyData} {ds : List PyData} {g : Bag} (h : a δ = some (ds, g)) (hl : ds.length = n) (h2 : f ds = some d) : dFn n f a δ = some (d, g) := by
  unfold dFn bdA
  rw [h]
  show (if ds.length = n then (f ds).map (·, g) else none) = _
  rw [if_pos hl, h2]
  rfl
theorem bag_eq {k n : Nat} {f : Bag → List PyData → Option (PyData × Bag)} {a : DA} {δ : Dn} {d : PyData} {ds : List PyData} {g g2 : Bag} (h : a δ = some (ds, g)) (hl : ds.length = n) (hk : δ.bk = some k) (h2 : f g ds = some (d, g2)) : dBag k n f a δ = some (d, g2) := by
  unfold dBag bdA
  rw [h]
  show (if ds.length = n ∧ δ.bk = some k then f g ds else none) = _
  rw [if_pos ⟨hl, hk⟩, h2]
theorem op_eq {f : PyData → PyData → Option PyData} {a b : DE} {δ : Dn} {x y z : PyData} {g g2 : Bag} (ha : a δ = some (x, g)) (hb : b (δ.wb g) = some (y, g2)) (h : f x y = some z) : dOp f a b δ = some (z, g2) := by
  unfold dOp bd
  rw [ha]
  show bd b (fun y => fun δ => (f x y).map (·, δ.bag)) (δ.wb g) = _
  unfold bd
  rw [hb]
  show (f x y).map (·, g2) = _
  rw [h]
  rfl
theorem tst_eq {a : DE} {δ : Dn} {b : Bool} {g : Bag} (h : a δ = some (.bool b, g)) : tst a δ = some (b, g) := by
  unfold tst bd
  rw [h]
  rfl
theorem not_eq {a : DT} {δ : Dn} {b : Bool} {g : Bag} (h : a δ = some (b, g)) : tNotD a δ = some (!b, g) := by
  unfold tNotD
  rw [h]
  rfl
theorem or_t {a c : DT} {δ : Dn} {g : Bag} (h : a δ = some (true, g)) : tOrD a c δ = some (true, g) := by
  unfold tOrD
  rw [h]
theorem or_f {a c : DT} {δ : Dn} {g : Bag} (h : a δ = some (false, g)) : tOrD a c δ = c (δ.wb g) := by
  unfold tOrD
  rw [h]
theorem and_t {a c : DT} {δ : Dn} {g : Bag} (h : a δ = some (true, g)) : tAndD a c δ = c (δ.wb g) := by
  unfold tAndD
  rw [h]
theorem and_f {a c : DT} {δ : Dn} {g : Bag} (h : a δ = some (false, g)) : tAndD a c δ = some (false, g) := by
  unfold tAndD
  rw [h]
theorem ife_t {t : DT} {a c : DE} {δ : Dn} {g : Bag} (h : t δ = some (true, g)) : dIf t a c δ = a (δ.wb g) := by
  unfold dIf
  rw [h]
theorem ife_f {t : DT} {a c : DE} {δ : Dn} {g : Bag} (h : t δ = some (false, g)) : dIf t a c δ = c (δ.wb g) := by
  unfold dIf
  rw [h]
theorem tup_eq {a : DA} {δ : Dn} {ds : List PyData} {g : Bag} (h : a δ = some (ds, g)) (hl : ds.length ≤ 1000) : dTup a δ = some (.tuple ds, g) := by
  unfold dTup bdA
  rw [h]
  show (if ds.length ≤ sizeLine then some (PyData.tuple ds, g) else none) = _
  rw [if_pos (Nat.le_trans hl (by rw [sizeLine_eq]; decide))]
theorem lst_eq {a : DA} {δ : Dn} {ds : List PyData} {g : Bag} (h : a δ = some (ds, g)) (hl : ds.length ≤ 1000) : dLst a δ = some (.list ds, g) := by
  unfold dLst bdA
  rw [h]
  show (if ds.length ≤ sizeLine then some (PyData.list ds, g) else none) = _
  rw [if_pos (Nat.le_trans hl (by rw [sizeLine_eq]; decide))]
theorem app_eq {i : Nat} {a : DE} {δ : Dn} {d : PyData} {ds : List PyData} {g : Bag} (h : a δ = some (d, g)) (ho : slOwn i δ = some ds) (hl : ds.length ≤ 1000) : sApp i a δ = some (.nx { sl := δ.sl.set i (some (.own (ds ++ [d]))), bag := g, bk := δ.bk }) := by
  unfold sApp
  rw [h]
  simp only [ho, if_pos (show ds.length < sizeLine from Nat.lt_of_le_of_lt hl (by rw [sizeLine_eq]; decide))]
theorem size_ok {n : Nat} (h : n ≤ 1000) : n ≤ sizeLine := Nat.le_trans h (by rw [sizeLine_eq]; decide)
theorem size_lt {n : Nat} (h : n ≤ 1000) : n < sizeLine := Nat.lt_of_le_of_lt h (by rw [sizeLine_eq]; decide)
/-- a comprehension over xs, whose test is p and whose item is f -/
theorem lc_pure {α : Type} {t : Tg} {tt : DT} {te : DE} {δ : Dn} (enc : α → PyData) (p : α → Bool) (f : α → PyData) : ∀ (xs : List α), (∀ x ∈ xs, ∃ δ1, putTg t (enc x) δ = some δ1 ∧ tt δ1 = some (p x, δ.bag) ∧ (p x = true → te (δ1.wb δ.bag) = some (f x, δ.bag))) →
    lcD t tt te (xs.map enc) δ = some ((xs.filter p).map f, δ.bag)
  | [], _ => rfl
  | x :: xs, h => by
    obtain ⟨δ1, h1, h2, h3⟩ := h x List.mem_cons_self
    have ih := lc_pure (t := t) (tt := tt) (te := te) (δ := δ) enc p f xs fun y hy => h y (List.mem_cons_of_mem _ hy)
    rw [List.map_cons, lcD, h1]
    simp only [h2]
    have e : δ.wb δ.bag = δ := rfl
    cases hp : p x with
    | false => simp only [e, ih, List.filter_cons_of_neg (show ¬ p x = true by simp [hp])]
    | true => simp only [h3 hp, e, ih, List.filter_cons_of_pos hp, List.map_cons]
theorem lc_all {α : Type} {t : Tg} {te : DE} {δ : Dn} (enc : α → PyData) (f : α → PyData) (xs : List α) (h : ∀ x ∈ xs, ∃ δ1, putTg t (enc x) δ = some δ1 ∧ δ1.bag = δ.bag ∧ te δ1 = some (f x, δ.bag)) : lcD t tTrue te (xs.map enc) δ = some (xs.map f, δ.bag) := by
  have := lc_pure (t := t) (tt := tTrue) (te := te) (δ := δ) enc (fun _ => true) f xs fun x hx => by
    obtain ⟨δ1, h1, h2, h3⟩ := h x hx
    refine ⟨δ1, h1, by rw [tTrue, h2], fun _ => ?_⟩
    rw [← h2] at h3 ⊢
    exact h3
  rw [List.filter_eq_self.mpr (fun _ _ => rfl)] at this
  exact this
theorem dLc_eq {di : DA} {t : Tg} {tt : DT} {te : DE} {vs : List Nat} {δ : Dn} {ds es : List PyData} {g g' : Bag} (h1 : di δ = some (ds, g)) (hl : ds.length ≤ 1000) (hf : free vs δ = true) (hw : within t.slots vs = true) (h2 : lcD t tt te ds { sl := wipeD δ.sl vs, bag := g, bk := δ.bk } = some (es, g')) :
    dLc di t tt te vs δ = some (.list es, g') := by
  unfold dLc
  rw [h1]
  simp only [if_pos (show ds.length ≤ sizeLine ∧ free vs δ = true ∧ within t.slots vs = true from ⟨size_ok hl, hf, hw⟩), h2]
theorem enum_map {α : Type} (enc : α → PyData) : ∀ (xs : List α) (n : Nat), enumD n (xs.map enc) = (xs.zipIdx n).map fun p => .tuple [.int (p.2 : Nat), enc p.1]
  | [], _ => rfl
  | x :: xs, n => by
    rw [List.map_cons, enumD, enum_map enc xs (n + 1)]
    rfl
theorem asInts_ints : ∀ ns : List Int, asInts (ns.map .int) = some ns
  | [] => rfl
  | n :: ns => by
    rw [List.map_cons, asInts, asInts_ints ns]
    rfl
theorem asBools_bools : ∀ ns : List Bool, asBools (ns.map .bool) = some ns
  | [] => rfl
  | n :: ns => by
    rw [List.map_cons, asBools, asBools_bools ns]
    rfl
theorem gAll_true {α : Type} (xs : List α) : gAll [.list (xs.map fun _ => .bool true)] = some (.bool true) := by
  show (asBools (xs.map fun _ => PyData.bool true)).map (fun ns => PyData.bool (ns.all id)) = _
  rw [show (xs.map fun _ => PyData.bool true) = (xs.map fun _ => true).map .bool by rw [List.map_map]; rfl, asBools_bools]
  show some (PyData.bool ((xs.map fun _ => true).all id)) = _
  rw [List.all_eq_true.mpr (by intro b hb; obtain ⟨_, _, rfl⟩ := List.mem_map.mp hb; rfl)]

/-! ### the small defs -/
def isI : PyData → Bool
  | .int _ => true
  | _ => false
def inR (a b : Int) : PyData → Bool
  | .int i => decide (a ≤ i) && decide (i ≤ b)
  | _ => false
theorem is_integer_eq (d : PyData) : f_is_integer [d] = some (.bool (isI d)) := by cases d <;> rfl
theorem is_within_eq (d : PyData) (a b : Int) : f_is_within [d, .int a, .int b] = some (.bool (inR a b d)) := by
  cases d with
  | int i =>
    by_cases h : a ≤ i
    · by_cases h2 : i ≤ b
      · simp [f_is_within, runP, d_is_within, sRet, dAnd, dFn, bd, bdA, aCons, aNil, dVar, initP, is_integer_eq, isI, dChain, gLe, gI, inR, h, h2]
      · simp [f_is_within, runP, d_is_within, sRet, dAnd, dFn, bd, bdA, aCons, aNil, dVar, initP, is_integer_eq, isI, dChain, gLe, gI, inR, h, h2]
    · simp [f_is_within, runP, d_is_within, sRet, dAnd, dFn, bd, bdA, aCons, aNil, dVar, initP, is_integer_eq, isI, dChain, gLe, gI, inR, h]
  | _ => rfl
theorem l_is_index_eq (d : PyData) (b : Int) : f_l_is_index [d, .int b] = some (.bool (inR 0 (b - 1) d)) := by
  cases d with
  | int i =>
    have e : (decide (i ≤ b - 1)) = decide (i < b) := by congr 1; exact propext (by omega)
    by_cases h : 0 ≤ i
    · by_cases h2 : i < b
      · simp [f_l_is_index, runP, d_l_is_index, sRet, dAnd, dNot, asB, dIsi, isInt, isBool, dFn, bd, bdA, aCons, aNil, dVar, dC, initP, dChain, gLe, gLt, gI, inR, e, h, h2]
      · simp [f_l_is_index, runP, d_l_is_index, sRet, dAnd, dNot, asB, dIsi, isInt, isBool, dFn, bd, bdA, aCons, aNil, dVar, dC, initP, dChain, gLe, gLt, gI, inR, e, h, h2]
    · simp [f_l_is_index, runP, d_l_is_index, sRet, dAnd, dNot, asB, dIsi, isInt, isBool, dFn, bd, bdA, aCons, aNil, dVar, dC, initP, dChain, gLe, gLt, gI, inR, h]
  | _ => rfl

/-! ### items, plans -/
def Rise (b : Int) : Int → List Int → Prop
  | _, [] => True
  | l, x :: xs => l < x ∧ x < b ∧ Rise b x xs
theorem are_items_loop (t : PyData) (bound : Int) (g : Bag) : ∀ (xs : List Int) (last : Int) (j : Option En), Rise bound last xs → ∃ a b, loopD (.one 3)
    (sSeq (sIf (tOrD (tst (dOp gLe (dVar 3) (dVar 2))) (tst (dOp gGe (dVar 3) (dVar 1)))) (sRet (dC (.bool false))) sNil) (sAsg (.one 2) (dVar 3)))
    (xs.map .int) ⟨[some (.dat t), some (.dat (.int bound)), some (.dat (.int last)), j], g, none⟩ = some (.nx ⟨[some (.dat t), some (.dat (.int bound)), a, b], g, none⟩)
  | [], last, j, _ => ⟨_, _, rfl⟩
  | x :: xs, last, j, ⟨h1, h2, h3⟩ => by
    obtain ⟨a, b, ih⟩ := are_items_loop t bound g xs x (some (.dat (.int x))) h3
    refine ⟨a, b, ?_⟩
    rw [List.map_cons, loop_nx (δ1 := ⟨[some (.dat t), some (.dat (.int bound)), some (.dat (.int last)), some (.dat (.int x))], g, none⟩) (δ2 := ⟨[some (.dat t), some (.dat (.int bound)), some (.dat (.int x)), some (.dat (.int x))], g, none⟩) rfl ?_]
    · exact ih
    · have e1 : ¬ x ≤ last := by omega
      have e2 : ¬ bound ≤ x := by omega
      rw [seq_nx (δ1 := ⟨[some (.dat t), some (.dat (.int bound)), some (.dat (.int last)), some (.dat (.int x))], g, none⟩)]
      · rfl
      · rw [if_f (g := g)]
        · rfl
        · simp [tOrD, tst, dOp, bd, dVar, gLe, gGe, gI, asB, e1, e2]
theorem all_items (xs : List Int) (h : xs.length ≤ 1000) (t0 t2 : Option En) (b : PyData) (g : Bag) :
    dCall gAll (aCons (dLc (iT (dVar 0)) (.one 3) tTrue (dFn 1 f_is_integer (aCons (dVar 3) aNil)) [3]) aNil) ⟨[some (.dat (tupI xs)), some (.dat b), none, none], g, none⟩ = some (.bool true, g) := by
  have h1 : dLc (iT (dVar 0)) (.one 3) tTrue (dFn 1 f_is_integer (aCons (dVar 3) aNil)) [3] ⟨[some (.dat (tupI xs)), some (.dat b), none, none], g, none⟩ = some (.list (xs.map fun _ => .bool true), g) := by
    refine dLc_eq (ds := xs.map .int) (g := g) rfl (by simpa using h) rfl rfl ?_
    refine lc_all .int (fun _ => .bool true) xs fun x _ => ⟨_, rfl, rfl, ?_⟩
    rfl
  exact call_eq (one_eq h1) (gAll_true xs)
theorem are_items_eq (xs : List Int) (bound : Int) (h : xs.length ≤ 1000) (hr : Rise bound (-1) xs) : f_are_items [tupI xs, .int bound] = some (.bool true) := by
  refine runP_rt (g := ⟨0, 0, 0⟩) ?_
  show d_are_items ⟨[some (.dat (tupI xs)), some (.dat (.int bound)), none, none], ⟨0, 0, 0⟩, none⟩ = _
  unfold d_are_items
  obtain ⟨a, b, e⟩ := are_items_loop (tupI xs) bound ⟨0, 0, 0⟩ xs (-1) none hr
  rw [seq_nx (δ1 := ⟨[some (.dat (tupI xs)), some (.dat (.int bound)), none, none], ⟨0, 0, 0⟩, none⟩), seq_nx (δ1 := ⟨[some (.dat (tupI xs)), some (.dat (.int bound)), some (.dat (.int (-1))), none], ⟨0, 0, 0⟩, none⟩), seq_nx (δ1 := ⟨[some (.dat (tupI xs)), some (.dat (.int bound)), a, b], ⟨0, 0, 0⟩, none⟩)]
  · rfl
  · exact e
  · rfl
  · rw [if_f (g := ⟨0, 0, 0⟩)]
    · rfl
    · rw [or_f (g := ⟨0, 0, 0⟩) rfl]
      exact not_eq (tst_eq (all_items xs h none none (.int bound) ⟨0, 0, 0⟩))
end K71

set_option Elab.async false
set_option linter.all false
set_option maxRecDepth 100000
set_option maxHeartbeats 4000000
namespace K71
open PySem L2
theorem loop_ind {α : Type} (enc : α → PyData) {t : Tg} {body : DS} : ∀ (xs : List α) (I : Nat → Dn → Prop), (∀ k x, xs[k]? = some x → ∀ δ, I k δ → ∃ δ1 δ2, putTg t (enc x) δ = some δ1 ∧ body δ1 = some (.nx δ2) ∧ I (k + 1) δ2) → ∀ δ, I 0 δ →
    ∃ δ', loopD t body (xs.map enc) δ = some (.nx δ') ∧ I xs.length δ'
  | [], I, _, δ, h0 => ⟨δ, rfl, h0⟩
  | x :: xs, I, h, δ, h0 => by
    obtain ⟨δ1, δ2, h1, h2, h3⟩ := h 0 x rfl δ h0
    obtain ⟨δ', h4, h5⟩ := loop_ind enc xs (fun k => I (k + 1)) (fun k y hy => h (k + 1) y (by simpa using hy)) δ2 h3
    exact ⟨δ', by rw [List.map_cons, loop_nx h1 h2]; exact h4, h5⟩
theorem at_eq {α : Type} {xs : List α} {i : Int} {x : α} (h0 : 0 ≤ i) (h : xs[i.toNat]? = some x) : atI xs i = some x := by
  have hl := (List.getElem?_eq_some_iff.mp h).1
  unfold atI ixN
  rw [if_pos h0, if_pos (by omega)]
  exact h
abbrev jk (b : Option PyData) : Option En := b.map En.dat
def planD (p : List (List Int)) : PyData := .tuple (p.map tupI)
def PlanOk (p : List (List Int)) : Prop := ∀ (i : Nat) (seen : List Int), p[i]? = some seen → Rise i (-1) seen ∧ ∀ o ∈ seen, ∃ row, p[o.toNat]? = some row ∧ ∀ m ∈ row, m ∈ seen
theorem Rise.len {b : Int} : ∀ {xs : List Int} {l : Int}, l < b → Rise b l xs → (xs.length : Int) ≤ b - l - 1
  | [], l, h, _ => by simp; omega
  | x :: xs, l, h, ⟨h1, h2, h3⟩ => by
    have := Rise.len h2 h3
    rw [List.length_cons]
    omega
theorem Rise.mem {b : Int} : ∀ {xs : List Int} {l : Int}, Rise b l xs → ∀ x ∈ xs, l < x ∧ x < b
  | x :: xs, l, ⟨h1, h2, h3⟩, y, hy => by
    rcases List.mem_cons.mp hy with rfl | hy
    · exact ⟨h1, h2⟩
    · have := Rise.mem h3 y hy
      omega
theorem insK_mem (ks : List Int) (j x : Int) : x ∈ insK ks j ↔ x ∈ ks ∨ x = j := by
  unfold insK
  split
  · constructor
    · exact .inl
    · rintro (h | rfl)
      · exact h
      · assumption
  · simp
theorem insKs_mem (x : Int) : ∀ (xs ks : List Int), x ∈ xs.foldl insK ks ↔ x ∈ ks ∨ x ∈ xs
  | [], ks => by simp
  | y :: ys, ks => by rw [List.foldl_cons, insKs_mem x ys, insK_mem, List.mem_cons, or_assoc]
theorem okd_self {i : Nat} : ∀ (xs : List Int) (δ : Dn) (acc : List Int), δ.bk = none → (∀ x : Int, dVar i { δ with sl := δ.sl.set i (some (.dat (.int x))) } = some (.int x, δ.bag)) → okdD (.one i) (dVar i) (xs.map .int) δ acc = some (xs.foldl insK acc, δ.bag)
  | [], δ, acc, _, _ => rfl
  | x :: xs, δ, acc, hb, h => by
    rw [List.map_cons, okdD, putTg_one, if_pos (by rw [hb]; rfl)]
    simp only [h x]
    exact okd_self xs δ (insK acc x) hb h
theorem PlanOk.at {p : List (List Int)} (hp : PlanOk p) {i : Nat} {seen : List Int} (h : p[i]? = some seen) {o : Int} (ho : o ∈ seen) : 0 ≤ o ∧ o < i ∧ i < p.length := by
  have h1 := (hp i seen h).1.mem o ho
  have h2 := (List.getElem?_eq_some_iff.mp h).1
  omega
theorem PlanOk.len {p : List (List Int)} (hp : PlanOk p) {i : Nat} {seen : List Int} (h : p[i]? = some seen) : seen.length ≤ p.length := by
  have h1 := (hp i seen h).1.len (by omega)
  have h2 := (List.getElem?_eq_some_iff.mp h).1
  omega
theorem plan_at {p : List (List Int)} {i : Nat} {seen : List Int} (h : p[i]? = some seen) : atI (p.map tupI) (i : Int) = some (tupI seen) := at_eq (by omega) (by simp [h])
theorem is_sound_eq {p : List (List Int)} (hp : PlanOk p) (hl : p.length ≤ 40) : f_is_sound [planD p] = some (.bool true) := by
  refine runP_rt (g := ⟨0, 0, 0⟩) ?_
  show d_is_sound ⟨[some (.dat (planD p)), none, none, none, none, none], ⟨0, 0, 0⟩, none⟩ = _
  unfold d_is_sound
  rw [seq_nx (δ1 := ⟨[some (.dat (planD p)), none, none, none, none, none], ⟨0, 0, 0⟩, none⟩)]
  · have inner : ∀ (seen : List Int) (i : Nat) (h : p[i]? = some seen) (a b : Option PyData), ∃ δ', loopD (.one 4) (sIf (tNotD (tst (dCall gAll (aCons (dLc (iT (dOp gIx (dVar 0) (dVar 4))) (.one 5) tTrue (dOkdIn 3 (dVar 5)) [5]) aNil)))) (sRet (dC (.bool false))) sNil)
        (seen.map .int) ⟨[some (.dat (planD p)), some (.dat (.int i)), some (.dat (tupI seen)), some (.okd (seen.foldl insK [])), jk a, jk b], ⟨0, 0, 0⟩, none⟩ = some (.nx δ') ∧ ∃ a' b', δ' = ⟨[some (.dat (planD p)), some (.dat (.int i)), some (.dat (tupI seen)), some (.okd (seen.foldl insK [])), jk a', jk b'], ⟨0, 0, 0⟩, none⟩ := by
      intro seen i h a b
      refine loop_ind .int seen (fun _ δ => ∃ a' b', δ = ⟨[some (.dat (planD p)), some (.dat (.int i)), some (.dat (tupI seen)), some (.okd (seen.foldl insK [])), jk a', jk b'], ⟨0, 0, 0⟩, none⟩) ?_ _ ⟨a, b, rfl⟩
      rintro k o hk δ ⟨a', b', rfl⟩
      have ho : o ∈ seen := List.mem_of_getElem? hk
      obtain ⟨row, h1, h2⟩ := (hp i seen h).2 o ho
      have h0 := hp.at h ho
      refine ⟨_, _, rfl, ?_, some (.int o), b', rfl⟩
      rw [if_f (g := ⟨0, 0, 0⟩)]
      · rfl
      · refine not_eq (b := true) (tst_eq (call_eq (one_eq (dLc_eq (ds := row.map .int) (g := ⟨0, 0, 0⟩) (es := row.map fun _ => .bool true) ?_ ?_ ?_ rfl ?_)) (gAll_true row)))
        · have e : dOp gIx (dVar 0) (dVar 4) ⟨[some (.dat (planD p)), some (.dat (.int i)), some (.dat (tupI seen)), some (.okd (seen.foldl insK [])), some (.dat (.int o)), jk b'], ⟨0, 0, 0⟩, none⟩ = some (tupI row, ⟨0, 0, 0⟩) := op_eq (g := ⟨0, 0, 0⟩) rfl rfl (by
            show atI (p.map tupI) o = _
            exact at_eq h0.1 (by simp [h1]))
          show iT (dOp gIx (dVar 0) (dVar 4)) ⟨[some (.dat (planD p)), some (.dat (.int i)), some (.dat (tupI seen)), some (.okd (seen.foldl insK [])), some (.dat (.int o)), jk b'], ⟨0, 0, 0⟩, none⟩ = _
          unfold iT bd
          rw [e]
          rfl
        · have := hp.len h1
          simp; omega
        · cases b' <;> rfl
        · refine lc_all .int (fun _ => .bool true) row fun m hm => ⟨_, rfl, rfl, ?_⟩
          show some (PyData.bool (decide (m ∈ seen.foldl insK [])), (⟨0, 0, 0⟩ : Bag)) = _
          rw [decide_eq_true ((insKs_mem m seen []).mpr (.inr (h2 m hm)))]
    have outer : ∃ δ', loopD (.many [1, 2])
        (sSeq (sIf (tNotD (tst (dFn 2 f_are_items (aCons (dVar 2) (aCons (dVar 1) aNil))))) (sRet (dC (.bool false))) sNil)
        (sSeq (sOkdOf 3 (iT (dVar 2)) (.one 4) (dVar 4) [4])
        (sFor (iT (dVar 2)) (.one 4)
        (sIf (tNotD (tst (dCall gAll (aCons (dLc (iT (dOp gIx (dVar 0) (dVar 4))) (.one 5) tTrue (dOkdIn 3 (dVar 5)) [5]) aNil)))) (sRet (dC (.bool false))) sNil))))
        ((p.zipIdx 0).map fun q => .tuple [.int (q.2 : Nat), tupI q.1]) ⟨[some (.dat (planD p)), none, none, none, none, none], ⟨0, 0, 0⟩, none⟩ = some (.nx δ') ∧ ∃ x1 x2 x3 a b, δ' = ⟨[some (.dat (planD p)), x1, x2, x3, jk a, jk b], ⟨0, 0, 0⟩, none⟩ := by
      refine loop_ind _ (p.zipIdx 0) (fun _ δ => ∃ x1 x2 x3 a b, δ = ⟨[some (.dat (planD p)), x1, x2, x3, jk a, jk b], ⟨0, 0, 0⟩, none⟩) ?_ _ ⟨none, none, none, none, none, rfl⟩
      rintro k ⟨seen, i⟩ hk δ ⟨x1, x2, x3, a, b, rfl⟩
      have hi : i = k ∧ p[i]? = some seen := by
        rw [List.getElem?_zipIdx] at hk
        obtain ⟨s, h1, h2⟩ := Option.map_eq_some_iff.mp hk
        cases h2
        refine ⟨by omega, ?_⟩
        rw [show 0 + k = k by omega]
        exact h1
      obtain ⟨rfl, h⟩ := hi
      obtain ⟨δ', e, a', b', rfl⟩ := inner seen i h a b
      refine ⟨_, _, rfl, ?_, some (.dat (.int i)), some (.dat (tupI seen)), some (.okd (seen.foldl insK [])), a', b', rfl⟩
      have hs : seen.length ≤ 40 := Nat.le_trans (hp.len h) hl
      rw [seq_nx (δ1 := ⟨[some (.dat (planD p)), some (.dat (.int i)), some (.dat (tupI seen)), x3, jk a, jk b], ⟨0, 0, 0⟩, none⟩), seq_nx (δ1 := ⟨[some (.dat (planD p)), some (.dat (.int i)), some (.dat (tupI seen)), some (.okd (seen.foldl insK [])), jk a, jk b], ⟨0, 0, 0⟩, none⟩)]
      · exact e
      · have hf : free [4] ⟨[some (.dat (planD p)), some (.dat (.int i)), some (.dat (tupI seen)), x3, jk a, jk b], ⟨0, 0, 0⟩, none⟩ = true := by cases a <;> rfl
        unfold sOkdOf
        show (if (seen.map PyData.int).length ≤ sizeLine ∧ free [4] ⟨[some (.dat (planD p)), some (.dat (.int i)), some (.dat (tupI seen)), x3, jk a, jk b], ⟨0, 0, 0⟩, none⟩ = true ∧ within (Tg.slots (.one 4)) [4] = true ∧ offBag [3] none = true then _ else none) = _
        rw [if_pos ⟨size_ok (by simp; omega), hf, rfl, rfl⟩, okd_self seen _ [] rfl (fun x => rfl)]
        rfl
      · rw [if_f (g := ⟨0, 0, 0⟩)]
        · rfl
        · exact not_eq (b := true) (tst_eq (fn_eq (g := ⟨0, 0, 0⟩) rfl rfl (are_items_eq seen i (by omega) (hp i seen h).1)))
    obtain ⟨δ', e, x1, x2, x3, a, b, rfl⟩ := outer
    rw [seq_nx (δ1 := ⟨[some (.dat (planD p)), x1, x2, x3, jk a, jk b], ⟨0, 0, 0⟩, none⟩)]
    · rfl
    · rw [← enum_map tupI p 0] at e
      exact e
  · rw [if_f (g := ⟨0, 0, 0⟩)]
    · rfl
    · rw [or_f (g := ⟨0, 0, 0⟩) rfl]
      refine tst_eq (op_eq (x := .int p.length) (y := .int 40) (g := ⟨0, 0, 0⟩) (call_eq (one_eq rfl) ?_) rfl ?_)
      · show some (PyData.int ((p.map tupI).length : Nat)) = _
        rw [List.length_map]
      · simp [gGt, gI]
        omega
theorem check_plan_eq {p : List (List Int)} (hp : PlanOk p) (hl : p.length ≤ 40) : f_check_plan [planD p] = some .none := by
  refine runP_nx (δ := ⟨[some (.dat (planD p))], ⟨0, 0, 0⟩, none⟩) ?_
  unfold d_check_plan
  rw [if_f (g := ⟨0, 0, 0⟩)]
  · rfl
  · exact not_eq (b := true) (tst_eq (fn_eq (g := ⟨0, 0, 0⟩) rfl rfl (is_sound_eq hp hl)))
end K71

set_option Elab.async false
set_option linter.all false
set_option maxRecDepth 100000
set_option maxHeartbeats 4000000
namespace K71
open PySem L2
abbrev B0 : Bag := ⟨0, 0, 0⟩
theorem expr_eq {a : DE} {δ : Dn} {d : PyData} {g : Bag} (h : a δ = some (d, g)) : sExpr a δ = some (.nx (δ.wb g)) := by
  unfold sExpr
  rw [h]
  rfl
/-! ### how many names -/
theorem gSum_ints (ns : List Int) : gSum [.list (ns.map .int)] = some (.int ns.sum) := by
  show (asInts (ns.map .int)).map (fun ns => PyData.int ns.sum) = _
  rw [asInts_ints]
  rfl
theorem ending_eq {p : List (List Int)} (hp : PlanOk p) (hl : p.length ≤ 40) : ∃ es : List Int, f_ending_of [planD p] = some (.list (es.map .int)) := by
  have L : ∃ δ', loopD (.one 2) (sApp 1 (dOp gAdd (dC (.int 1)) (dCall gSum (aCons (dLc (iT (dVar 2)) (.one 3) tTrue (dOwnIx 1 (dVar 3)) [3]) aNil))))
      (p.map tupI) ⟨[some (.dat (planD p)), some (.own []), none, none], B0, none⟩ = some (.nx δ') ∧ ∃ (es : List Int) (a b : Option PyData), es.length = p.length ∧ δ' = ⟨[some (.dat (planD p)), some (.own (es.map .int)), jk a, jk b], B0, none⟩ := by
    refine loop_ind tupI p (fun k δ => ∃ (es : List Int) (a b : Option PyData), es.length = k ∧ δ = ⟨[some (.dat (planD p)), some (.own (es.map .int)), jk a, jk b], B0, none⟩) ?_ _ ⟨[], none, none, rfl, rfl⟩
    rintro k seen hk δ ⟨es, a, b, hes, rfl⟩
    have hs := hp.len hk
    have hlt := (List.getElem?_eq_some_iff.mp hk).1
    refine ⟨_, _, rfl, app_eq (ds := es.map .int) (d := .int (1 + (seen.map fun o => es.getD o.toNat 0).sum)) (g := B0) ?_ rfl (by simp; omega), es ++ [1 + (seen.map fun o => es.getD o.toNat 0).sum], some (tupI seen), b, by simp [hes], ?_⟩
    · refine op_eq (g := B0) rfl (call_eq (one_eq (dLc_eq (ds := seen.map .int) (g := B0) (es := (seen.map fun o => es.getD o.toNat 0).map .int) rfl (by simp; omega) ?_ rfl ?_)) (gSum_ints _)) rfl
      · cases b <;> rfl
      · rw [List.map_map]
        refine lc_all .int _ seen fun o ho => ⟨_, rfl, rfl, ?_⟩
        have h0 := hp.at hk ho
        have e : atI (es.map PyData.int) o = some (.int (es.getD o.toNat 0)) := at_eq h0.1 (by
          have : o.toNat < es.length := by omega
          simp [List.getD_eq_getElem?_getD, List.getElem?_eq_getElem this])
        show (atI (es.map PyData.int) o).map (·, B0) = _
        rw [e]
        rfl
    · rw [List.map_append]
      rfl
  obtain ⟨δ', e, es, a, b, he, rfl⟩ := L
  refine ⟨es, runP_rt (g := B0) ?_⟩
  show d_ending_of ⟨[some (.dat (planD p)), none, none, none], B0, none⟩ = _
  unfold d_ending_of
  rw [seq_nx (δ1 := ⟨[some (.dat (planD p)), some (.own []), none, none], B0, none⟩) rfl, seq_nx (δ1 := ⟨[some (.dat (planD p)), some (.own (es.map .int)), jk a, jk b], B0, none⟩) ((for_eq (g := B0) rfl).trans e)]
  rfl
theorem l_ends_eq : f_l_ends = f_ending_of := rfl
theorem cMul_l {i j : Int} (h : -(2 ^ 64) < i ∧ i < 2 ^ 64) : gMulC (.int i) (.int j) = some (.int (i * j)) := by
  show (if decide (CMul i j) = true then _ else _) = _
  rw [if_pos (decide_eq_true (.inl h))]
theorem cMul_r {i j : Int} (h : -(2 ^ 64) < j ∧ j < 2 ^ 64) : gMulC (.int i) (.int j) = some (.int (i * j)) := by
  show (if decide (CMul i j) = true then _ else _) = _
  rw [if_pos (decide_eq_true (.inr h))]
theorem gLen_map {α : Type} (f : α → PyData) (xs : List α) : gLen [.tuple (xs.map f)] = some (.int xs.length) := by
  show some (PyData.int ((xs.map f).length : Nat)) = _
  rw [List.length_map]
theorem gLen_mapL {α : Type} (f : α → PyData) (xs : List α) : gLen [.list (xs.map f)] = some (.int xs.length) := by
  show some (PyData.int ((xs.map f).length : Nat)) = _
  rw [List.length_map]
/-- how many names the program tells, and the law's own sum -/
theorem many_eq {p : List (List Int)} (hp : PlanOk p) (hl : p.length ≤ 40) : ∃ es : List Int, f_l_ends [planD p] = some (.list (es.map .int)) ∧ f_many_tie_names [planD p] = some (.int (2 * es.sum - p.length)) := by
  obtain ⟨es, e⟩ := ending_eq hp hl
  refine ⟨es, by rw [l_ends_eq]; exact e, ?_⟩
  have h1 : f_many_chains [planD p] = some (.int es.sum) := runP_rt (g := B0) (ret_eq (call_eq (one_eq (fn_eq (g := B0) rfl rfl e)) (gSum_ints es)))
  refine runP_rt (g := B0) ?_
  show d_many_tie_names ⟨[some (.dat (planD p))], B0, none⟩ = _
  unfold d_many_tie_names
  rw [seq_nx (δ1 := ⟨[some (.dat (planD p))], B0, none⟩)]
  · exact ret_eq (op_eq (g := B0) (op_eq (g := B0) rfl (fn_eq (g := B0) rfl rfl h1) (cMul_l (by decide))) (call_eq (one_eq rfl) (gLen_map tupI p)) rfl)
  · exact expr_eq (g := B0) (fn_eq (g := B0) (ds := [planD p]) rfl rfl (check_plan_eq hp hl))

/-! ### keys -/
def negs (c : List Int) : List Int := c.map fun x => -x
theorem chain_key_eq (c : List Int) (h : c.length ≤ 1000) : f_chain_key [tupI c] = some (tupI (negs c)) := by
  refine runP_rt (g := B0) (ret_eq (call_eq (ds := [.list ((negs c).map .int)]) (one_eq (dLc_eq (ds := c.map .int) (g := B0) rfl (by simpa using h) rfl rfl ?_)) rfl))
  unfold negs
  rw [List.map_map]
  exact lc_all .int _ c fun o ho => ⟨_, rfl, rfl, rfl⟩
theorem sh_int (a : Int) : SeqAt.shaped (.int a) = true := by simp [SeqAt.shaped, PyData.canLay0, PyData.depth]
theorem sh_str {a : Str} (h : PyData.strOk a = true) : SeqAt.shaped (.str a) = true := by simp [SeqAt.shaped, PyData.canLay0, PyData.depth, h]
theorem gNe_int (a b : Int) : gNe (.int a) (.int b) = some (.bool (!(a == b))) := by simp [gNe, sh_int, PyData.eqv]
theorem gEq_int (a b : Int) : gEq (.int a) (.int b) = some (.bool (a == b)) := by simp [gEq, sh_int, PyData.eqv]
theorem gEq_str {a b : Str} (h : PyData.strOk a = true) (h2 : PyData.strOk b = true) : gEq (.str a) (.str b) = some (.bool (a == b)) := by simp [gEq, sh_str h, sh_str h2, PyData.eqv]
theorem ok_tie : PyData.strOk "tie" = true := by decide +kernel
theorem ok_gap : PyData.strOk "gap" = true := by decide +kernel

/-! ### what is a name -/
def scan : Int → List PyData → Option Int
  | l, [] => some l
  | l, .int i :: ds => if l + 1 ≤ i ∧ i ≤ 39 then scan i ds else none
  | _, _ :: _ => none
def good : PyData → Bool
  | .tuple [.tuple cs, t] => !cs.isEmpty && match scan (-1) cs with
    | some l => isN t || inR (l + 1) 39 t
    | none => false
  | _ => false
theorem scan_loop (T : Option En) (g : Bag) : ∀ (cs : List PyData) (l : Int) (j : Option En), ∃ j', loopD (.one 2)
    (sSeq (sIf (tNotD (tst (dFn 3 f_is_within (aCons (dVar 2) (aCons (dOp gAdd (dVar 1) (dC (.int 1))) (aCons (dOp gSub (dC (.int 40)) (dC (.int 1))) aNil)))))) (sRet (dC (.bool false))) sNil) (sAsg (.one 1) (dVar 2)))
    cs ⟨[T, some (.dat (.int l)), j], g, none⟩ = match scan l cs with
      | some l' => some (.nx ⟨[T, some (.dat (.int l')), j'], g, none⟩)
      | none => some (.rt (.bool false) g)
  | [], l, j => ⟨j, rfl⟩
  | d :: cs, l, j => by
    have hw : tNotD (tst (dFn 3 f_is_within (aCons (dVar 2) (aCons (dOp gAdd (dVar 1) (dC (.int 1))) (aCons (dOp gSub (dC (.int 40)) (dC (.int 1))) aNil))))) ⟨[T, some (.dat (.int l)), some (.dat d)], g, none⟩ = some (!inR (l + 1) 39 d, g) :=
      not_eq (tst_eq (fn_eq (g := g) (ds := [d, .int (l + 1), .int 39]) rfl rfl (is_within_eq d (l + 1) 39)))
    by_cases hd : inR (l + 1) 39 d = true
    · obtain ⟨i, rfl⟩ : ∃ i, d = .int i := by cases d <;> first | exact ⟨_, rfl⟩ | cases hd
      have hi : l + 1 ≤ i ∧ i ≤ 39 := by simpa [inR] using hd
      obtain ⟨j', ih⟩ := scan_loop T g cs i (some (.dat (.int i)))
      refine ⟨j', ?_⟩
      rw [loop_nx (δ1 := ⟨[T, some (.dat (.int l)), some (.dat (.int i))], g, none⟩) (δ2 := ⟨[T, some (.dat (.int i)), some (.dat (.int i))], g, none⟩) rfl ?_]
      · rw [ih, scan, if_pos hi]
      · rw [seq_nx (δ1 := ⟨[T, some (.dat (.int l)), some (.dat (.int i))], g, none⟩)]
        · rfl
        · rw [if_f (g := g) (by rw [hw, hd]; rfl)]
          rfl
    · have hd : inR (l + 1) 39 d = false := by simpa using hd
      refine ⟨j, ?_⟩
      rw [loop_rt (δ1 := ⟨[T, some (.dat (.int l)), some (.dat d)], g, none⟩) (r := .bool false) (g := g) rfl ?_]
      · have : scan l (d :: cs) = none := by
          cases d with
          | int i =>
            rw [scan, if_neg]
            intro hi
            simp [inR, hi] at hd
          | _ => rfl
        rw [this]
      · refine seq_rt ?_
        rw [if_t (g := g) (by rw [hw, hd]; rfl)]
        rfl

theorem gNe_2 (n : Nat) : gNe (.int n) (.int 2) = some (.bool (decide (n ≠ 2))) := by
  rw [gNe_int]
  congr 2
  by_cases h : n = 2
  · subst h; rfl
  · have : ¬ (n : Int) = 2 := by omega
    simp [h, this]
theorem gEq_0 (n : Nat) : gEq (.int n) (.int 0) = some (.bool (decide (n = 0))) := by
  rw [gEq_int]
  congr 2
  by_cases h : n = 0
  · subst h; rfl
  · have : ¬ (n : Int) = 0 := by omega
    simp [h, this]
theorem is_tie_name_eq (d : PyData) : f_is_tie_name [d] = some (.bool (good d)) := by
  have short : ∀ {t : DT} {b : DS}, t ⟨[some (.dat d), none, none], B0, none⟩ = some (true, B0) → sSeq (sIf t (sRet (dC (.bool false))) sNil) b ⟨[some (.dat d), none, none], B0, none⟩ = some (.rt (.bool false) B0) := fun h => seq_rt (by rw [if_t h]; rfl)
  have out : ∀ b : Bool, d_is_tie_name ⟨[some (.dat d), none, none], B0, none⟩ = some (.rt (.bool b) B0) → f_is_tie_name [d] = some (.bool b) := fun b h => runP_rt h
  cases d with
  | tuple ds =>
    match ds with
    | [] => exact out _ (short (by rw [or_f (g := B0) rfl]; exact or_t rfl))
    | [x] =>
      rw [show good (.tuple [x]) = false by cases x <;> rfl]
      exact out _ (short (by rw [or_f (g := B0) rfl]; exact or_t rfl))
    | x :: y :: z :: r =>
      rw [show good (.tuple (x :: y :: z :: r)) = false by cases x <;> rfl]
      refine out _ (short (by
        rw [or_f (g := B0) rfl]
        refine or_t (tst_eq (op_eq (g := B0) (y := .int 2) (call_eq (d := .int ((r.length + 3 : Nat) : Int)) (one_eq rfl) rfl) rfl ?_))
        rw [gNe_2, decide_eq_true (by omega)]))
    | [x, t] =>
      cases x with
      | tuple cs =>
        match cs with
        | [] => exact out _ (short (by rw [or_f (g := B0) rfl, or_f (g := B0) rfl, or_f (g := B0) rfl]; rfl))
        | c :: cr =>
          refine out _ ?_
          generalize hcs : c :: cr = cs
          obtain ⟨j', e⟩ := scan_loop (some (.dat (.tuple [.tuple cs, t]))) B0 cs (-1) none
          unfold d_is_tie_name
          rw [seq_nx (δ1 := ⟨[some (.dat (.tuple [.tuple cs, t])), none, none], B0, none⟩), seq_nx (δ1 := ⟨[some (.dat (.tuple [.tuple cs, t])), some (.dat (.int (-1))), none], B0, none⟩) rfl]
          · have eg : good (.tuple [.tuple cs, t]) = match scan (-1) cs with
                | some l => isN t || inR (l + 1) 39 t
                | none => false := by
              rw [good, ← hcs]
              rfl
            rw [eg]
            cases hs : scan (-1) cs with
            | none =>
              rw [hs] at e
              exact seq_rt ((for_eq (g := B0) rfl).trans e)
            | some l =>
              rw [hs] at e
              rw [seq_nx (δ1 := ⟨[some (.dat (.tuple [.tuple cs, t])), some (.dat (.int l)), j'], B0, none⟩) ((for_eq (g := B0) rfl).trans e)]
              refine ret_eq ?_
              cases hn : isN t with
              | true =>
                have : t = .none := by cases t <;> first | rfl | cases hn
                subst this
                rfl
              | false =>
                have e1 : dOp (gIsN false) (dOp gIx (dVar 0) (dC (.int 1))) (dC .none) ⟨[some (.dat (.tuple [.tuple cs, t])), some (.dat (.int l)), j'], B0, none⟩ = some (.bool false, B0) := by
                  have := op_eq (f := gIsN false) (a := dOp gIx (dVar 0) (dC (.int 1))) (b := dC .none) (δ := ⟨[some (.dat (.tuple [.tuple cs, t])), some (.dat (.int l)), j'], B0, none⟩) (x := t) (y := .none) (z := .bool (isN t)) (g := B0) rfl rfl rfl
                  rw [hn] at this
                  exact this
                show dOr _ _ _ = _
                unfold dOr bd
                rw [e1]
                exact fn_eq (g := B0) (ds := [t, .int (l + 1), .int 39]) rfl rfl (is_within_eq t (l + 1) 39)
          · rw [if_f (g := B0)]
            · rfl
            · rw [or_f (g := B0) rfl, or_f (g := B0) rfl, or_f (g := B0) rfl]
              refine tst_eq (op_eq (g := B0) (y := .int 0) (call_eq (ds := [.tuple cs]) (d := .int (cs.length : Nat)) (one_eq rfl) rfl) rfl ?_)
              rw [gEq_0, decide_eq_false (by rw [← hcs]; simp)]
      | _ => exact out _ (short (by rw [or_f (g := B0) rfl, or_f (g := B0) rfl]; exact or_t rfl))
  | _ => exact out _ (short (or_t rfl))
end K71

set_option Elab.async false
set_option linter.all false
set_option maxRecDepth 100000
set_option maxHeartbeats 4000000
namespace K71
open PySem L2
theorem tied_loop (T : Option En) (g : Bag) : ∀ (cs : List PyData) (l : Int) (j : Option En), -1 ≤ l → ∃ j', loopD (.one 2)
    (sSeq (sIf (tOrD (tNotD (tst (dFn 2 f_l_is_index (aCons (dVar 2) (aCons (dC (.int 40)) aNil))))) (tst (dOp gLe (dVar 2) (dVar 1)))) (sRet (dC (.bool false))) sNil) (sAsg (.one 1) (dVar 2)))
    cs ⟨[T, some (.dat (.int l)), j], g, none⟩ = match scan l cs with
      | some l' => some (.nx ⟨[T, some (.dat (.int l')), j'], g, none⟩)
      | none => some (.rt (.bool false) g)
  | [], l, j, _ => ⟨j, rfl⟩
  | d :: cs, l, j, hl => by
    have hw : tNotD (tst (dFn 2 f_l_is_index (aCons (dVar 2) (aCons (dC (.int 40)) aNil)))) ⟨[T, some (.dat (.int l)), some (.dat d)], g, none⟩ = some (!inR 0 39 d, g) :=
      not_eq (tst_eq (fn_eq (g := g) (ds := [d, .int 40]) rfl rfl (l_is_index_eq d 40)))
    by_cases hd : inR (l + 1) 39 d = true
    · obtain ⟨i, rfl⟩ : ∃ i, d = .int i := by cases d <;> first | exact ⟨_, rfl⟩ | cases hd
      have hi : l + 1 ≤ i ∧ i ≤ 39 := by simpa [inR] using hd
      obtain ⟨j', ih⟩ := tied_loop T g cs i (some (.dat (.int i))) (by omega)
      refine ⟨j', ?_⟩
      rw [loop_nx (δ1 := ⟨[T, some (.dat (.int l)), some (.dat (.int i))], g, none⟩) (δ2 := ⟨[T, some (.dat (.int i)), some (.dat (.int i))], g, none⟩) rfl ?_]
      · rw [ih, scan, if_pos hi]
      · rw [seq_nx (δ1 := ⟨[T, some (.dat (.int l)), some (.dat (.int i))], g, none⟩)]
        · rfl
        · rw [if_f (g := g)]
          · rfl
          · have h0 : inR 0 39 (.int i) = true := by simp [inR]; omega
            rw [or_f (g := g) (by rw [hw, h0]; rfl)]
            have := tst_eq (op_eq (f := gLe) (a := dVar 2) (b := dVar 1) (δ := ⟨[T, some (.dat (.int l)), some (.dat (.int i))], g, none⟩) (g := g) (g2 := g) (x := .int i) (y := .int l) rfl rfl rfl)
            rw [decide_eq_false (by omega)] at this
            exact this
    · have hd : inR (l + 1) 39 d = false := by simpa using hd
      refine ⟨j, ?_⟩
      rw [loop_rt (δ1 := ⟨[T, some (.dat (.int l)), some (.dat d)], g, none⟩) (r := .bool false) (g := g) rfl ?_]
      · have : scan l (d :: cs) = none := by
          cases d with
          | int i =>
            rw [scan, if_neg]
            intro hi
            simp [inR, hi] at hd
          | _ => rfl
        rw [this]
      · refine seq_rt ?_
        rw [if_t (g := g)]
        · rfl
        · cases h0 : inR 0 39 d with
          | false => exact or_t (by rw [hw, h0]; rfl)
          | true =>
            obtain ⟨i, rfl⟩ : ∃ i, d = .int i := by cases d <;> first | exact ⟨_, rfl⟩ | cases h0
            rw [or_f (g := g) (by rw [hw, h0]; rfl)]
            have := tst_eq (op_eq (f := gLe) (a := dVar 2) (b := dVar 1) (δ := ⟨[T, some (.dat (.int l)), some (.dat (.int i))], g, none⟩) (g := g) (g2 := g) (x := .int i) (y := .int l) rfl rfl rfl)
            rw [decide_eq_true (by simp [inR] at hd h0; omega)] at this
            exact this
theorem scan_ge : ∀ {cs : List PyData} {l l' : Int}, scan l cs = some l' → l ≤ l'
  | [], l, l', h => by cases h; omega
  | .int i :: cs, l, l', h => by
    rw [scan] at h
    split at h
    · have := scan_ge h
      omega
    · cases h
theorem scan_ints : ∀ {cs : List PyData} {l l' : Int}, scan l cs = some l' → ∃ ns : List Int, cs = ns.map .int ∧ Rise 40 l ns
  | [], l, l', h => ⟨[], rfl, trivial⟩
  | .int i :: cs, l, l', h => by
    rw [scan] at h
    split at h
    · rename_i hi
      obtain ⟨ns, rfl, hr⟩ := scan_ints h
      exact ⟨i :: ns, rfl, by omega, by omega, hr⟩
    · cases h
theorem is_tied_name_eq (d : PyData) : f_l_is_tied_name [d] = some (.bool (good d)) := by
  have short : ∀ {t : DT} {b : DS}, t ⟨[some (.dat d), none, none], B0, none⟩ = some (true, B0) → sSeq (sIf t (sRet (dC (.bool false))) sNil) b ⟨[some (.dat d), none, none], B0, none⟩ = some (.rt (.bool false) B0) := fun h => seq_rt (by rw [if_t h]; rfl)
  have out : ∀ b : Bool, d_l_is_tied_name ⟨[some (.dat d), none, none], B0, none⟩ = some (.rt (.bool b) B0) → f_l_is_tied_name [d] = some (.bool b) := fun b h => runP_rt h
  cases d with
  | tuple ds =>
    match ds with
    | [] => exact out _ (short (by rw [or_f (g := B0) rfl]; exact or_t rfl))
    | [x] =>
      rw [show good (.tuple [x]) = false by cases x <;> rfl]
      exact out _ (short (by rw [or_f (g := B0) rfl]; exact or_t rfl))
    | x :: y :: z :: r =>
      rw [show good (.tuple (x :: y :: z :: r)) = false by cases x <;> rfl]
      refine out _ (short (by
        rw [or_f (g := B0) rfl]
        refine or_t (tst_eq (op_eq (g := B0) (y := .int 2) (call_eq (d := .int ((r.length + 3 : Nat) : Int)) (one_eq rfl) rfl) rfl ?_))
        rw [gNe_2, decide_eq_true (by omega)]))
    | [x, t] =>
      cases x with
      | tuple cs =>
        match cs with
        | [] => exact out _ (short (by rw [or_f (g := B0) rfl, or_f (g := B0) rfl, or_f (g := B0) rfl]; rfl))
        | c :: cr =>
          refine out _ ?_
          generalize hcs : c :: cr = cs
          obtain ⟨j', e⟩ := tied_loop (some (.dat (.tuple [.tuple cs, t]))) B0 cs (-1) none (by omega)
          unfold d_l_is_tied_name
          rw [seq_nx (δ1 := ⟨[some (.dat (.tuple [.tuple cs, t])), none, none], B0, none⟩), seq_nx (δ1 := ⟨[some (.dat (.tuple [.tuple cs, t])), some (.dat (.int (-1))), none], B0, none⟩) rfl]
          · have eg : good (.tuple [.tuple cs, t]) = match scan (-1) cs with
                | some l => isN t || inR (l + 1) 39 t
                | none => false := by
              rw [good, ← hcs]
              rfl
            rw [eg]
            cases hs : scan (-1) cs with
            | none =>
              rw [hs] at e
              exact seq_rt ((for_eq (g := B0) rfl).trans e)
            | some l =>
              rw [hs] at e
              rw [seq_nx (δ1 := ⟨[some (.dat (.tuple [.tuple cs, t])), some (.dat (.int l)), j'], B0, none⟩) ((for_eq (g := B0) rfl).trans e)]
              refine ret_eq ?_
              cases hn : isN t with
              | true =>
                have : t = .none := by cases t <;> first | rfl | cases hn
                subst this
                rfl
              | false =>
                have e1 : dOp (gIsN false) (dOp gIx (dVar 0) (dC (.int 1))) (dC .none) ⟨[some (.dat (.tuple [.tuple cs, t])), some (.dat (.int l)), j'], B0, none⟩ = some (.bool false, B0) := by
                  have := op_eq (f := gIsN false) (a := dOp gIx (dVar 0) (dC (.int 1))) (b := dC .none) (δ := ⟨[some (.dat (.tuple [.tuple cs, t])), some (.dat (.int l)), j'], B0, none⟩) (x := t) (y := .none) (z := .bool (isN t)) (g := B0) rfl rfl rfl
                  rw [hn] at this
                  exact this
                show dOr _ _ _ = _
                unfold dOr bd
                rw [e1]
                show dAnd (dFn 2 f_l_is_index (aCons (dOp gIx (dVar 0) (dC (.int 1))) (aCons (dC (.int 40)) aNil))) (dOp gGt (dOp gIx (dVar 0) (dC (.int 1))) (dVar 1)) ⟨[some (.dat (.tuple [.tuple cs, t])), some (.dat (.int l)), j'], B0, none⟩ = _
                have e2 : dFn 2 f_l_is_index (aCons (dOp gIx (dVar 0) (dC (.int 1))) (aCons (dC (.int 40)) aNil)) ⟨[some (.dat (.tuple [.tuple cs, t])), some (.dat (.int l)), j'], B0, none⟩ = some (.bool (inR 0 39 t), B0) := fn_eq (g := B0) (ds := [t, .int 40]) rfl rfl (l_is_index_eq t 40)
                unfold dAnd bd
                rw [e2]
                have hge := scan_ge hs
                show _ = some (PyData.bool (false || inR (l + 1) 39 t), B0)
                cases h0 : inR 0 39 t with
                | false =>
                  have : inR (l + 1) 39 t = false := by
                    cases t with
                    | int i => simp [inR] at h0 ⊢; omega
                    | _ => rfl
                  rw [this]
                  rfl
                | true =>
                  obtain ⟨i, rfl⟩ : ∃ i, t = .int i := by cases t <;> first | exact ⟨_, rfl⟩ | cases h0
                  have : (false || inR (l + 1) 39 (.int i)) = decide (l < i) := by
                    simp [inR] at h0 ⊢
                    by_cases h : l < i
                    · simp [h]; omega
                    · simp [h]; omega
                  rw [this]
                  exact op_eq (g := B0) (x := .int i) (y := .int l) rfl rfl rfl
          · rw [if_f (g := B0)]
            · rfl
            · rw [or_f (g := B0) rfl, or_f (g := B0) rfl, or_f (g := B0) rfl]
              refine tst_eq (op_eq (g := B0) (y := .int 0) (call_eq (ds := [.tuple cs]) (d := .int (cs.length : Nat)) (one_eq rfl) rfl) rfl ?_)
              rw [gEq_0, decide_eq_false (by rw [← hcs]; simp)]
      | _ => exact out _ (short (by rw [or_f (g := B0) rfl, or_f (g := B0) rfl]; exact or_t rfl))
  | _ => exact out _ (short (or_t rfl))

/-! ### names as data -/
def goodK (k : List Int × Option Int) : Prop := k.1 ≠ [] ∧ Rise 40 (-1) k.1 ∧ ∀ i, k.2 = some i → ∀ x ∈ k.1, x < i ∧ i < 40
theorem good_name {d : PyData} (h : good d = true) : ∃ k, d = nameD k ∧ k.1.length ≤ 40 := by
  unfold good at h
  split at h
  · rename_i cs t
    rw [Bool.and_eq_true] at h
    obtain ⟨h1, h2⟩ := h
    split at h2
    · rename_i l hs
      obtain ⟨ns, rfl, hr⟩ := scan_ints hs
      have hl := hr.len (by omega)
      cases t with
      | none => exact ⟨(ns, none), rfl, by show ns.length ≤ 40; omega⟩
      | int i => exact ⟨(ns, some i), rfl, by show ns.length ≤ 40; omega⟩
      | _ => simp [isN, inR] at h2
    · cases h2
  · cases h
theorem eqv_ints : ∀ a b : List Int, PyData.eqvAll (a.map .int) (b.map .int) = decide (a = b)
  | [], [] => by simp [PyData.eqvAll]
  | [], b :: bs => by simp [PyData.eqvAll]
  | a :: as, [] => by simp [PyData.eqvAll]
  | a :: as, b :: bs => by
    rw [List.map_cons, List.map_cons, PyData.eqvAll, eqv_ints as bs]
    by_cases h : a = b
    · subst h; simp [PyData.eqv]
    · simp [PyData.eqv, h]
theorem lay_ints : ∀ a : List Int, PyData.canLayAll0 (a.map .int) = true
  | [] => by simp [PyData.canLayAll0]
  | a :: as => by
    rw [List.map_cons, PyData.canLayAll0, lay_ints as]
    simp [PyData.canLay0]
theorem sh_tup (a : List Int) : SeqAt.shaped (tupI a) = true := by
  unfold SeqAt.shaped tupI
  rw [PyData.canLay0, lay_ints, PyData.depth, PySem.W.depth_ints]
  rfl
theorem eqv_tup (a b : List Int) : PyData.eqv (tupI a) (tupI b) = decide (a = b) := by
  unfold tupI
  rw [PyData.eqv, eqv_ints]
theorem sh_name (k : List Int × Option Int) : SeqAt.shaped (nameD k) = true := by
  obtain ⟨c, t⟩ := k
  unfold SeqAt.shaped nameD
  rw [PyData.canLay0, PyData.canLayAll0, PyData.canLay0, lay_ints, PyData.depth, PyData.depthAll, PyData.depth, PySem.W.depth_ints]
  cases t <;> simp [PyData.canLayAll0, PyData.canLay0, PyData.depthAll, PyData.depth, tieD]
theorem eqv_name (k k' : List Int × Option Int) : PyData.eqv (nameD k) (nameD k') = decide (k = k') := by
  obtain ⟨c, t⟩ := k
  obtain ⟨c', t'⟩ := k'
  unfold nameD
  rw [PyData.eqv, PyData.eqvAll, PyData.eqv, eqv_ints]
  cases t with
  | none => cases t' <;> simp [PyData.eqvAll, PyData.eqv, tieD]
  | some i =>
    cases t' with
    | none => simp [PyData.eqvAll, PyData.eqv, tieD]
    | some j =>
      simp only [PyData.eqvAll, PyData.eqv, tieD, Bool.and_true, Prod.mk.injEq, Option.some.injEq]
      rw [Bool.decide_and]
      rfl
theorem gEq_tup (a b : List Int) : gEq (tupI a) (tupI b) = some (.bool (decide (a = b))) := by
  unfold gEq
  rw [if_pos ⟨sh_tup a, sh_tup b⟩, eqv_tup]
theorem gEq_name (a b : List Int × Option Int) : gEq (nameD a) (nameD b) = some (.bool (decide (a = b))) := by
  unfold gEq
  rw [if_pos ⟨sh_name a, sh_name b⟩, eqv_name]
theorem gNe_name (a b : List Int × Option Int) : gNe (nameD a) (nameD b) = some (.bool (!decide (a = b))) := by
  unfold gNe
  rw [if_pos ⟨sh_name a, sh_name b⟩, eqv_name]
theorem gLt_tup (a b : List Int) : gLt (tupI a) (tupI b) = some (.bool (HT.lexLt a b)) := by
  show (match asInts (a.map .int), asInts (b.map .int) with
    | some ns, some ms => some (PyData.bool (HT.lexLt ns ms))
    | _, _ => none) = _
  rw [asInts_ints, asInts_ints]
/-! ### what is told -/
def toldS (a b : List Int) : Str := if a = b then "tied" else if HT.lexLt (negs a) (negs b) = true then "ahead" else "behind"
theorem told_of_eq (a b : List Int) (ha : a.length ≤ 1000) (hb : b.length ≤ 1000) : f_told_of [tupI a, tupI b] = some (.str (toldS a b)) := by
  refine runP_rt (g := B0) ?_
  show d_told_of ⟨[some (.dat (tupI a)), some (.dat (tupI b))], B0, none⟩ = _
  have e1 : tst (dOp gEq (dVar 0) (dVar 1)) ⟨[some (.dat (tupI a)), some (.dat (tupI b))], B0, none⟩ = some (decide (a = b), B0) := tst_eq (op_eq (g := B0) rfl rfl (gEq_tup a b))
  have e2 : tst (dOp gLt (dFn 1 f_chain_key (aCons (dVar 0) aNil)) (dFn 1 f_chain_key (aCons (dVar 1) aNil))) ⟨[some (.dat (tupI a)), some (.dat (tupI b))], B0, none⟩ = some (HT.lexLt (negs a) (negs b), B0) :=
    tst_eq (op_eq (g := B0) (fn_eq (g := B0) rfl rfl (chain_key_eq a ha)) (fn_eq (g := B0) rfl rfl (chain_key_eq b hb)) (gLt_tup _ _))
  unfold d_told_of toldS
  by_cases h : a = b
  · rw [if_pos h]
    exact seq_rt (by rw [if_t (g := B0) (by rw [e1, decide_eq_true h])]; rfl)
  · rw [if_neg h, seq_nx (δ1 := ⟨[some (.dat (tupI a)), some (.dat (tupI b))], B0, none⟩) (by rw [if_f (g := B0) (by rw [e1, decide_eq_false h])]; rfl)]
    cases hk : HT.lexLt (negs a) (negs b) with
    | true => exact ret_eq (by rw [ife_t (g := B0) (by rw [e2, hk])]; rfl)
    | false => exact ret_eq (by rw [ife_f (g := B0) (by rw [e2, hk])]; rfl)
theorem tie_told_no {d e : PyData} (h : good d = false ∨ good e = false ∨ d = e) : f_tie_told [d, e] = some none := by
  have t1 : tst (dFn 1 f_is_tie_name (aCons (dVar 0) aNil)) (initP 2 [d, e]) = some (good d, B0) := tst_eq (fn_eq (g := B0) (ds := [d]) rfl rfl (is_tie_name_eq d))
  have t2 : tst (dFn 1 f_is_tie_name (aCons (dVar 1) aNil)) (initP 2 [d, e]) = some (good e, B0) := tst_eq (fn_eq (g := B0) (ds := [e]) rfl rfl (is_tie_name_eq e))
  have k : t_tie_told (initP 2 [d, e]) = some (true, B0) := by
    unfold t_tie_told
    cases h1 : good d with
    | false => exact or_t (by rw [not_eq t1, h1]; rfl)
    | true =>
      rw [or_f (g := B0) (by rw [not_eq t1, h1]; rfl)]
      cases h2 : good e with
      | false => exact or_t (by rw [show (initP 2 [d, e]).wb B0 = initP 2 [d, e] from rfl, not_eq t2, h2]; rfl)
      | true =>
        rw [or_f (g := B0) (by rw [show (initP 2 [d, e]).wb B0 = initP 2 [d, e] from rfl, not_eq t2, h2]; rfl)]
        have : d = e := by
          rcases h with z | z | z
          · rw [h1] at z; cases z
          · rw [h2] at z; cases z
          · exact z
        subst this
        obtain ⟨kk, rfl, _⟩ := good_name h1
        have := gEq_name kk kk
        rw [decide_eq_true rfl] at this
        exact tst_eq (op_eq (g := B0) (x := nameD kk) (y := nameD kk) rfl rfl this)
  unfold f_tie_told
  rw [k]
theorem tie_told_yes {k k' : List Int × Option Int} (h1 : good (nameD k) = true) (h2 : good (nameD k') = true) (hn : k ≠ k') (hl : k.1.length ≤ 1000) (hl' : k'.1.length ≤ 1000) : f_tie_told [nameD k, nameD k'] = some (some (.str (toldS k.1 k'.1))) := by
  have t1 : tst (dFn 1 f_is_tie_name (aCons (dVar 0) aNil)) (initP 2 [nameD k, nameD k']) = some (true, B0) := tst_eq (fn_eq (g := B0) (ds := [nameD k]) rfl rfl (by rw [is_tie_name_eq, h1]))
  have t2 : tst (dFn 1 f_is_tie_name (aCons (dVar 1) aNil)) (initP 2 [nameD k, nameD k']) = some (true, B0) := tst_eq (fn_eq (g := B0) (ds := [nameD k']) rfl rfl (by rw [is_tie_name_eq, h2]))
  have kk : t_tie_told (initP 2 [nameD k, nameD k']) = some (false, B0) := by
    unfold t_tie_told
    rw [or_f (g := B0) (not_eq t1), show (initP 2 [nameD k, nameD k']).wb B0 = initP 2 [nameD k, nameD k'] from rfl, or_f (g := B0) (not_eq t2)]
    have := gEq_name k k'
    rw [decide_eq_false hn] at this
    exact tst_eq (op_eq (g := B0) (x := nameD k) (y := nameD k') rfl rfl this)
  unfold f_tie_told
  rw [kk]
  show (d_tie_told (initP 2 [nameD k, nameD k'])).map _ = _
  rw [show d_tie_told (initP 2 [nameD k, nameD k']) = some (.str (toldS k.1 k'.1), B0) from fn_eq (g := B0) (ds := [tupI k.1, tupI k'.1]) rfl rfl (told_of_eq _ _ hl hl')]
  rfl
theorem l_told_no {d e : PyData} (h : good d = false ∨ good e = false ∨ d = e) : f_l_told [d, e] = some (.tuple [.str "none", .bool true]) := by
  unfold f_l_told
  rw [tie_told_no h]
theorem l_told_yes {k k' : List Int × Option Int} (h1 : good (nameD k) = true) (h2 : good (nameD k') = true) (hn : k ≠ k') (hl : k.1.length ≤ 1000) (hl' : k'.1.length ≤ 1000) : f_l_told [nameD k, nameD k'] = some (.tuple [.str "told", .str (toldS k.1 k'.1)]) := by
  unfold f_l_told
  rw [tie_told_yes h1 h2 hn hl hl']
end K71

set_option Elab.async false
set_option linter.all false
set_option maxRecDepth 100000
set_option maxHeartbeats 4000000
namespace K71
open PySem L2
/-! ### the order of keys -/
theorem lex_irrefl : ∀ a : List Int, HT.lexLt a a = false
  | [] => rfl
  | x :: xs => by rw [HT.lexLt_cons, if_pos rfl, lex_irrefl xs]
theorem lex_trans : ∀ {a b c : List Int}, HT.lexLt a b = true → HT.lexLt b c = true → HT.lexLt a c = true
  | [], [], _, h, _ => by cases h
  | [], _ :: _, [], _, h => by cases h
  | [], _ :: _, _ :: _, _, _ => rfl
  | _ :: _, [], _, h, _ => by cases h
  | x :: xs, y :: ys, [], _, h => by cases h
  | x :: xs, y :: ys, z :: zs, h1, h2 => by
    rw [HT.lexLt_cons] at h1 h2 ⊢
    split at h1
    · rename_i e
      subst e
      split at h2
      · rename_i e
        subst e
        rw [if_pos rfl]
        exact lex_trans h1 h2
      · rename_i e
        rw [if_neg e]
        exact h2
    · rename_i e
      have g1 := of_decide_eq_true h1
      split at h2
      · rename_i e2
        subst e2
        rw [if_neg e]
        exact h1
      · have g2 := of_decide_eq_true h2
        rw [if_neg (by omega)]
        exact decide_eq_true (by omega)
theorem lex_total : ∀ {a b : List Int}, HT.lexLt a b = false → HT.lexLt b a = false → a = b
  | [], [], _, _ => rfl
  | [], _ :: _, h, _ => by cases h
  | _ :: _, [], _, h => by cases h
  | x :: xs, y :: ys, h1, h2 => by
    rw [HT.lexLt_cons] at h1 h2
    by_cases e : x = y
    · subst e
      rw [if_pos rfl] at h1 h2
      rw [lex_total h1 h2]
    · rw [if_neg e] at h1
      rw [if_neg (fun z => e z.symm)] at h2
      have g1 := of_decide_eq_false h1
      have g2 := of_decide_eq_false h2
      omega
theorem lex_snoc (x : Int) : ∀ a : List Int, HT.lexLt a (a ++ [x]) = true
  | [] => rfl
  | y :: ys => by rw [List.cons_append, HT.lexLt_cons, if_pos rfl, lex_snoc x ys]
theorem lex_mid {x : Int} : ∀ {a d : List Int}, HT.lexLt a d = true → (∀ y ∈ d, x < y) → HT.lexLt (a ++ [x]) d = true
  | [], [], h, _ => by cases h
  | [], y :: ys, _, h => by
    have := h y List.mem_cons_self
    rw [List.nil_append, HT.lexLt_cons, if_neg (by omega)]
    exact decide_eq_true this
  | y :: ys, [], h, _ => by cases h
  | z :: zs, y :: ys, h, hy => by
    rw [HT.lexLt_cons] at h
    rw [List.cons_append, HT.lexLt_cons]
    split at h
    · rename_i e
      rw [if_pos e]
      exact lex_mid h fun w hw => hy w (List.mem_cons_of_mem _ hw)
    · rename_i e
      rw [if_neg e]
      exact h
/-- the order of the library's sort is this one -/
theorem toks_lt : ∀ a b : List Int, PyProof.Rows.lexLt PyProof.Rows.itemOrd (PySem.W.keyToksAll (a.map .int)) (PySem.W.keyToksAll (b.map .int)) = HT.lexLt a b
  | [], [] => rfl
  | [], b :: bs => rfl
  | a :: as, [] => rfl
  | a :: as, b :: bs => by
    have ih := toks_lt as bs
    rw [List.map_cons, List.map_cons, PySem.W.keyToksAll, PySem.W.keyToksAll, PySem.W.keyToks, PySem.W.keyToks, HT.lexLt_cons, PyProof.Rows.lex_cons]
    show (decide ((1 : Int) < 1) || (!decide ((1 : Int) < 1) && PyProof.Rows.lexLt PyProof.Rows.itemOrd (.inl a :: PySem.W.keyToksAll (as.map .int)) (.inl b :: PySem.W.keyToksAll (bs.map .int)))) = _
    rw [PyProof.Rows.lex_cons, ih]
    show (false || (true && (decide (a < b) || (!decide (b < a) && HT.lexLt as bs)))) = _
    by_cases e : a = b
    · subst e
      simp
    · rw [if_neg e]
      by_cases h : a < b
      · simp [h]
      · have : b < a := by omega
        simp [h, this]
theorem le_eq (a b : List Int) : PySem.W.dataLe false tupI a b = !HT.lexLt b a := by
  show (!PyProof.Rows.lexLt PyProof.Rows.itemOrd (PySem.W.keyToks (tupI b)) (PySem.W.keyToks (tupI a))) = _
  rw [show PySem.W.keyToks (tupI b) = PySem.W.keyToksAll (b.map .int) by unfold tupI; rw [PySem.W.keyToks], show PySem.W.keyToks (tupI a) = PySem.W.keyToksAll (a.map .int) by unfold tupI; rw [PySem.W.keyToks], toks_lt]
theorem sortT_eq {ks ms : List (List Int)} (h : ms.Perm ks) (s : ms.Pairwise fun a b => HT.lexLt a b = true) : sortT ks = ms := by
  have le_tr : ∀ a b c : List Int, PySem.W.dataLe false tupI a b = true → PySem.W.dataLe false tupI b c = true → PySem.W.dataLe false tupI a c = true := (PySem.W.sortLe_total (PyProof.Rows.listOrd PyProof.Rows.itemOrd) false fun b => PySem.W.keyToks (tupI b)).trans
  have p1 : (sortT ks).Pairwise fun a b => PySem.W.dataLe false tupI a b = true := by
    refine List.pairwise_mergeSort (le := PySem.W.dataLe false tupI) le_tr (fun a b => ?_) ks
    rw [le_eq, le_eq]
    cases h1 : HT.lexLt b a with
    | false => rfl
    | true =>
      cases h2 : HT.lexLt a b with
      | false => rfl
      | true =>
        have := lex_trans h1 h2
        rw [lex_irrefl] at this
        cases this
  have p2 : (sortT ks).Perm ms := (List.mergeSort_perm ks _).trans h.symm
  refine p2.eq_of_pairwise (le := fun a b => PySem.W.dataLe false tupI a b = true) (fun a b _ _ h1 h2 => ?_) p1 (s.imp fun {a b} h => ?_)
  · rw [le_eq] at h1 h2
    exact lex_total (by simpa using h2) (by simpa using h1)
  · rw [le_eq]
    cases h2 : HT.lexLt b a with
    | false => rfl
    | true =>
      have := lex_trans h h2
      rw [lex_irrefl] at this
      cases this
theorem negs_negs (c : List Int) : negs (negs c) = c := by
  unfold negs
  rw [List.map_map]
  have : ((fun x : Int => -x) ∘ fun x : Int => -x) = id := by funext x; simp
  rw [this, List.map_id]
theorem negs_inj {a b : List Int} (h : negs a = negs b) : a = b := by rw [← negs_negs a, h, negs_negs]
theorem negs_snoc (c : List Int) (x : Int) : negs (c ++ [x]) = negs c ++ [-x] := by simp [negs]

/-! ### the row of groups, each with its chain -/
structure Inv (n : Nat) (kr : List (List Int × List Int)) (chains : List (List Int)) : Prop where
  len : chains.length = n
  ch : ∀ e ∈ kr, ∀ i ∈ e.1, 0 ≤ i ∧ i < n ∧ chains[i.toNat]? = some e.2
  ex : ∀ i : Nat, i < n → ∃ e ∈ kr, (i : Int) ∈ e.1
  srt : kr.Pairwise fun e f => HT.lexLt (negs e.2) (negs f.2) = true
  ne : ∀ e ∈ kr, e.1 ≠ [] ∧ e.2 ≠ [] ∧ Rise n (-1) e.2 ∧ e.1.length ≤ n
  sz : kr.length ≤ n
theorem Rise.up {b b' : Int} (h : b ≤ b') : ∀ {xs : List Int} {l : Int}, Rise b l xs → Rise b' l xs
  | [], _, _ => trivial
  | x :: xs, l, ⟨h1, h2, h3⟩ => ⟨h1, by omega, Rise.up h h3⟩
theorem Rise.snoc {b : Int} : ∀ {xs : List Int} {l : Int}, l < b → Rise b l xs → Rise (b + 1) l (xs ++ [b])
  | [], l, h, _ => ⟨h, by omega, trivial⟩
  | x :: xs, l, h, ⟨h1, h2, h3⟩ => ⟨h1, by omega, Rise.snoc h2 h3⟩
theorem Inv.nil : Inv 0 [] [] where
  len := rfl
  ch := fun _ h => nomatch h
  ex := fun _ h => by omega
  srt := List.Pairwise.nil
  ne := fun _ h => nomatch h
  sz := Nat.le_refl _
theorem Inv.old {n : Nat} {kr : List (List Int × List Int)} {chains : List (List Int)} (I : Inv n kr chains) (c : List Int) {e : List Int × List Int} (he : e ∈ kr) {i : Int} (hi : i ∈ e.1) : 0 ≤ i ∧ i < (n + 1 : Nat) ∧ (chains ++ [c])[i.toNat]? = some e.2 := by
  obtain ⟨h1, h2, h3⟩ := I.ch e he i hi
  have := I.len
  exact ⟨h1, by omega, by rw [List.getElem?_append_left (by omega)]; exact h3⟩
theorem Inv.last {n : Nat} {kr : List (List Int × List Int)} {chains : List (List Int)} (I : Inv n kr chains) (c : List Int) : (chains ++ [c])[(n : Int).toNat]? = some c := by
  rw [Int.toNat_natCast, List.getElem?_append_right (by rw [I.len]; exact Nat.le_refl _), I.len, Nat.sub_self]
  rfl
theorem Inv.tie {n : Nat} {l r : List (List Int × List Int)} {G c : List Int} {chains : List (List Int)} (I : Inv n (l ++ (G, c) :: r) chains) : Inv (n + 1) (l ++ (G ++ [(n : Int)], c) :: r) (chains ++ [c]) where
  len := by simp [I.len]
  ch := fun e he i hi => by
    rcases List.mem_append.mp he with h | h
    · exact I.old c (List.mem_append_left _ h) hi
    · rcases List.mem_cons.mp h with rfl | h
      · rcases List.mem_append.mp hi with hi | hi
        · exact I.old c (e := (G, c)) (List.mem_append_right _ List.mem_cons_self) hi
        · have : i = n := by simpa using hi
          subst this
          exact ⟨by omega, by omega, I.last c⟩
      · exact I.old c (List.mem_append_right _ (List.mem_cons_of_mem _ h)) hi
  ex := fun i hi => by
    by_cases h : i < n
    · obtain ⟨e, he, h2⟩ := I.ex i h
      rcases List.mem_append.mp he with h3 | h3
      · exact ⟨e, List.mem_append_left _ h3, h2⟩
      · rcases List.mem_cons.mp h3 with rfl | h3
        · exact ⟨_, List.mem_append_right _ List.mem_cons_self, List.mem_append_left _ h2⟩
        · exact ⟨e, List.mem_append_right _ (List.mem_cons_of_mem _ h3), h2⟩
    · have : i = n := by omega
      subst this
      exact ⟨_, List.mem_append_right _ List.mem_cons_self, List.mem_append_right _ List.mem_cons_self⟩
  srt := by
    have := I.srt
    rw [List.pairwise_append, List.pairwise_cons] at this ⊢
    obtain ⟨h1, ⟨h2, h3⟩, h4⟩ := this
    refine ⟨h1, ⟨h2, h3⟩, fun e he f hf => ?_⟩
    rcases List.mem_cons.mp hf with rfl | hf
    · exact h4 e he (G, c) List.mem_cons_self
    · exact h4 e he f (List.mem_cons_of_mem _ hf)
  ne := fun e he => by
    have up : ∀ e, e ∈ l ++ (G, c) :: r → e.1 ≠ [] ∧ e.2 ≠ [] ∧ Rise ((n + 1 : Nat) : Int) (-1) e.2 ∧ e.1.length ≤ n + 1 := fun e he => by
      obtain ⟨h1, h2, h3, h4⟩ := I.ne e he
      exact ⟨h1, h2, h3.up (by omega), by omega⟩
    rcases List.mem_append.mp he with h | h
    · exact up e (List.mem_append_left _ h)
    · rcases List.mem_cons.mp h with rfl | h
      · obtain ⟨h1, h2, h3, h4⟩ := I.ne (G, c) (List.mem_append_right _ List.mem_cons_self)
        refine ⟨by simp, h2, h3.up (by omega), ?_⟩
        show (G ++ [(n : Int)]).length ≤ n + 1
        have h4 : G.length ≤ n := h4
        simp; omega
      · exact up e (List.mem_append_right _ (List.mem_cons_of_mem _ h))
  sz := by
    have := I.sz
    simp at this ⊢
    omega
theorem Inv.gap {n : Nat} {l r : List (List Int × List Int)} {c : List Int} {chains : List (List Int)} (I : Inv n (l ++ r) chains) (hc : (l = [] ∧ c = []) ∨ ∃ l' e, l = l' ++ [e] ∧ c = e.2) : Inv (n + 1) (l ++ ([(n : Int)], c ++ [(n : Int)]) :: r) (chains ++ [c ++ [(n : Int)]]) where
  len := by simp [I.len]
  ch := fun e he i hi => by
    rcases List.mem_append.mp he with h | h
    · exact I.old _ (List.mem_append_left _ h) hi
    · rcases List.mem_cons.mp h with rfl | h
      · have : i = n := by simpa using hi
        subst this
        exact ⟨by omega, by omega, I.last _⟩
      · exact I.old _ (List.mem_append_right _ h) hi
  ex := fun i hi => by
    by_cases h : i < n
    · obtain ⟨e, he, h2⟩ := I.ex i h
      rcases List.mem_append.mp he with h3 | h3
      · exact ⟨e, List.mem_append_left _ h3, h2⟩
      · exact ⟨e, List.mem_append_right _ (List.mem_cons_of_mem _ h3), h2⟩
    · have : i = n := by omega
      subst this
      exact ⟨_, List.mem_append_right _ List.mem_cons_self, List.mem_cons_self⟩
  srt := by
    have := I.srt
    rw [List.pairwise_append] at this
    obtain ⟨h1, h2, h3⟩ := this
    have low : ∀ d, d ∈ r → ∀ y ∈ negs d.2, -(n : Int) < y := fun d hd y hy => by
      obtain ⟨z, hz, rfl⟩ := List.mem_map.mp hy
      have := ((I.ne d (List.mem_append_right _ hd)).2.2.1).mem z hz
      omega
    rw [List.pairwise_append, List.pairwise_cons]
    refine ⟨h1, ⟨fun d hd => ?_, h2⟩, fun e he f hf => ?_⟩
    · show HT.lexLt (negs (c ++ [(n : Int)])) (negs d.2) = true
      rw [negs_snoc]
      refine lex_mid ?_ (low d hd)
      rcases hc with ⟨rfl, rfl⟩ | ⟨l', e, rfl, rfl⟩
      · have hne := (I.ne d (List.mem_append_right _ hd)).2.1
        cases hd2 : d.2 with
        | nil => exact absurd hd2 hne
        | cons _ _ => rfl
      · exact h3 e (List.mem_append_right _ List.mem_cons_self) d hd
    · rcases List.mem_cons.mp hf with rfl | hf
      · show HT.lexLt (negs e.2) (negs (c ++ [(n : Int)])) = true
        rw [negs_snoc]
        rcases hc with ⟨rfl, rfl⟩ | ⟨l', e', rfl, rfl⟩
        · cases he
        · rcases List.mem_append.mp he with he | he
          · rw [List.pairwise_append] at h1
            exact lex_trans (h1.2.2 e he e' List.mem_cons_self) (lex_snoc _ _)
          · have : e = e' := by simpa using he
            subst this
            exact lex_snoc _ _
      · exact h3 e he f hf
  ne := fun e he => by
    have up : ∀ e, e ∈ l ++ r → e.1 ≠ [] ∧ e.2 ≠ [] ∧ Rise ((n + 1 : Nat) : Int) (-1) e.2 ∧ e.1.length ≤ n + 1 := fun e he => by
      obtain ⟨h1, h2, h3, h4⟩ := I.ne e he
      exact ⟨h1, h2, h3.up (by omega), by omega⟩
    rcases List.mem_append.mp he with h | h
    · exact up e (List.mem_append_left _ h)
    · rcases List.mem_cons.mp h with rfl | h
      · refine ⟨by simp, by simp, ?_, by simp⟩
        have hr : Rise n (-1) c := by
          rcases hc with ⟨rfl, rfl⟩ | ⟨l', e', rfl, rfl⟩
          · trivial
          · exact (I.ne e' (List.mem_append_left _ (List.mem_append_right _ List.mem_cons_self))).2.2.1
        exact hr.snoc (by omega)
      · exact up e (List.mem_append_right _ h)
  sz := by
    have := I.sz
    simp at this ⊢
    omega
end K71

set_option Elab.async false
set_option linter.all false
set_option maxRecDepth 100000
set_option maxHeartbeats 4000000
namespace K71
open PySem L2
/-! ### the law's own defs, in plain Lean -/
abbrev Place := Bool × Int
def hitB (seen g : List Int) : Bool := decide (0 < (g.filter fun x => decide (x ∈ seen)).length)
def mSeen (row : List (List Int)) (seen : List Int) : List Nat := ((row.zipIdx 0).filter fun q => hitB seen q.1).map (·.2)
def mHome (row : List (List Int)) (u : Int) : Nat := (((row.zipIdx 0).filter fun q => decide (u ∈ q.1)).map (·.2)).headD 0
def mAt (row : List (List Int)) (seen : List Int) (q : Place) : Nat := if q.2 = 0 then 0 else (mSeen row seen).getD (q.2 - 1).toNat 0 + 1
def mPut (row : List (List Int)) (seen : List Int) (n : Int) (q : Place) : List (List Int) :=
  if q.1 = true then row.take (mHome row q.2) ++ [row.getD (mHome row q.2) [] ++ [n]] ++ row.drop (mHome row q.2 + 1)
  else row.take (mAt row seen q) ++ [[n]] ++ row.drop (mAt row seen q)
def mChain (row : List (List Int)) (chains : List (List Int)) (seen : List Int) (n : Int) (q : Place) : List Int :=
  if q.1 = true then chains.getD q.2.toNat []
  else if q.2 = 0 then [n]
  else chains.getD ((row.getD ((mSeen row seen).getD (q.2 - 1).toNat 0) []).headD 0).toNat [] ++ [n]
def PlaceOk (row : List (List Int)) (seen : List Int) (q : Place) : Prop := if q.1 = true then q.2 ∈ seen else 0 ≤ q.2 ∧ q.2 ≤ (mSeen row seen).length
theorem first_at {α : Type} {p : α → Bool} : ∀ (xs : List α) (k a : Nat) (x : α), xs[a]? = some x → p x = true → (∀ b y, b < a → xs[b]? = some y → p y = false) → ∃ rest, ((xs.zipIdx k).filter fun q => p q.1).map (·.2) = (k + a) :: rest
  | [], k, a, x, h, _, _ => by simp at h
  | y :: ys, k, 0, x, h, hp, _ => by
    have : y = x := by simpa using h
    subst this
    refine ⟨((ys.zipIdx (k + 1)).filter fun q => p q.1).map (·.2), ?_⟩
    rw [List.zipIdx_cons]
    simp [List.filter_cons, hp]
  | y :: ys, k, a + 1, x, h, hp, hn => by
    have h0 := hn 0 y (by omega) rfl
    rw [List.zipIdx_cons, List.filter_cons_of_neg (by simp [h0])]
    obtain ⟨rest, e⟩ := first_at ys (k + 1) a x (by simpa using h) hp fun b z hb hz => hn (b + 1) z (by omega) (by simpa using hz)
    exact ⟨rest, by rw [e]; congr 1; omega⟩
theorem zip_fst {α : Type} {p : α → Bool} : ∀ (xs : List α) (k : Nat), ((xs.zipIdx k).filter fun q => p q.1).map (·.1) = xs.filter p
  | [], k => rfl
  | y :: ys, k => by
    rw [List.zipIdx_cons]
    cases h : p y with
    | true =>
      have := zip_fst (p := p) ys (k + 1)
      simp only [List.filter_cons, h, if_true, List.map_cons, this]
    | false =>
      have := zip_fst (p := p) ys (k + 1)
      simp only [List.filter_cons, h, if_false, Bool.false_eq_true, this]
theorem zip_mem {α : Type} : ∀ (xs : List α) (k : Nat) (q : α × Nat), q ∈ xs.zipIdx k → k ≤ q.2 ∧ xs[q.2 - k]? = some q.1
  | [], k, q, h => by simp at h
  | y :: ys, k, q, h => by
    rw [List.zipIdx_cons] at h
    rcases List.mem_cons.mp h with rfl | h
    · exact ⟨Nat.le_refl _, by simp⟩
    · obtain ⟨h1, h2⟩ := zip_mem ys (k + 1) q h
      refine ⟨by omega, ?_⟩
      rw [show q.2 - k = (q.2 - (k + 1)) + 1 by omega]
      simpa using h2
/-- the groups that are hit, with their places -/
def HL (kr : List (List Int × List Int)) (seen : List Int) : List ((List Int × List Int) × Nat) := (kr.zipIdx 0).filter fun q => hitB seen q.1.1
theorem mSeen_HL (kr : List (List Int × List Int)) (seen : List Int) : mSeen (kr.map (·.1)) seen = (HL kr seen).map (·.2) := by
  have go : ∀ (kr : List (List Int × List Int)) (k : Nat), (((kr.map (·.1)).zipIdx k).filter fun q => hitB seen q.1).map (·.2) = ((kr.zipIdx k).filter fun q => hitB seen q.1.1).map (·.2) := by
    intro kr
    induction kr with
    | nil => intro k; rfl
    | cons e es ih =>
      intro k
      rw [List.map_cons, List.zipIdx_cons, List.zipIdx_cons]
      cases h : hitB seen e.1 with
      | true => simp only [List.filter_cons, h, if_true, List.map_cons, ih]
      | false => simp only [List.filter_cons, h, if_false, Bool.false_eq_true, ih]
  exact go kr 0
theorem HL_at {kr : List (List Int × List Int)} {seen : List Int} {j k : Nat} {e : List Int × List Int} (h : (HL kr seen)[j]? = some (e, k)) : kr[k]? = some e ∧ (kr.filter fun e => hitB seen e.1)[j]? = some e := by
  have h1 := List.mem_of_getElem? h
  obtain ⟨h2, h3⟩ := List.mem_filter.mp h1
  refine ⟨by simpa using (zip_mem _ _ _ h2).2, ?_⟩
  rw [← zip_fst (p := fun e : List Int × List Int => hitB seen e.1) kr 0, List.getElem?_map]
  show ((HL kr seen)[j]?).map (·.1) = _
  rw [h]
  rfl
theorem HL_put {l r : List (List Int × List Int)} {m : List Int × List Int} {seen : List Int} {j k : Nat} {e : List Int × List Int} (h : (HL (l ++ r) seen)[j]? = some (e, k)) (hl : l.length = k + 1) : (HL (l ++ m :: r) seen)[j]? = some (e, k) := by
  unfold HL at h ⊢
  rw [List.zipIdx_append, List.filter_append] at h ⊢
  by_cases hj : j < ((l.zipIdx 0).filter fun q => hitB seen q.1.1).length
  · rw [List.getElem?_append_left hj] at h ⊢
    exact h
  · rw [List.getElem?_append_right (by omega)] at h
    have h1 := (List.mem_filter.mp (List.mem_of_getElem? h)).1
    have := (zip_mem _ _ _ h1).1
    have : k ≥ 0 + l.length := this
    omega
theorem Inv.uniq {n : Nat} {kr : List (List Int × List Int)} {chains : List (List Int)} (I : Inv n kr chains) {a b : Nat} {e f : List Int × List Int} (ha : kr[a]? = some e) (hb : kr[b]? = some f) {i : Int} (h1 : i ∈ e.1) (h2 : i ∈ f.1) : ¬ a < b := fun hab => by
  have h3 := (I.ch e (List.mem_of_getElem? ha) i h1).2.2
  have h4 := (I.ch f (List.mem_of_getElem? hb) i h2).2.2
  rw [h3] at h4
  have h5 := Option.some.inj h4
  obtain ⟨la, ea⟩ := List.getElem?_eq_some_iff.mp ha
  obtain ⟨lb, eb⟩ := List.getElem?_eq_some_iff.mp hb
  have := List.pairwise_iff_getElem.mp I.srt a b la lb hab
  rw [ea, eb, h5, lex_irrefl] at this
  cases this
theorem split_at {α : Type} {xs : List α} {a : Nat} {x : α} (h : xs[a]? = some x) : xs = xs.take a ++ x :: xs.drop (a + 1) := by
  obtain ⟨hl, e⟩ := List.getElem?_eq_some_iff.mp h
  conv => lhs; rw [← List.take_append_drop a xs, List.drop_eq_getElem_cons hl, e]
theorem Inv.home {n : Nat} {kr : List (List Int × List Int)} {chains : List (List Int)} (I : Inv n kr chains) {a : Nat} {e : List Int × List Int} (ha : kr[a]? = some e) {i : Int} (h1 : i ∈ e.1) : mHome (kr.map (·.1)) i = a := by
  have ha' : (kr.map (·.1))[a]? = some e.1 := by rw [List.getElem?_map, ha]; rfl
  obtain ⟨rest, z⟩ := first_at (p := fun g : List Int => decide (i ∈ g)) (kr.map (·.1)) 0 a e.1 ha' (by simpa using h1) fun b y hb hy => by
    rw [List.getElem?_map] at hy
    obtain ⟨f, hf, rfl⟩ := Option.map_eq_some_iff.mp hy
    refine decide_eq_false fun h2 => ?_
    exact I.uniq hf ha h2 h1 hb
  unfold mHome
  rw [z]
  simp
theorem Inv.has {n : Nat} {kr : List (List Int × List Int)} {chains : List (List Int)} (I : Inv n kr chains) {i : Int} (h0 : 0 ≤ i) (h1 : i < n) : ∃ (a : Nat) (e : List Int × List Int), kr[a]? = some e ∧ i ∈ e.1 := by
  obtain ⟨e, he, hi⟩ := I.ex i.toNat (by omega)
  obtain ⟨a, ha⟩ := List.mem_iff_getElem?.mp he
  exact ⟨a, e, ha, by rwa [Int.toNat_of_nonneg h0] at hi⟩
/-- one item is placed: the law's row and chain, and what the program makes of the same -/
theorem step_ok {n : Nat} {kr : List (List Int × List Int)} {chains : List (List Int)} {seen : List Int} {q : Place} (I : Inv n kr chains) (hs : ∀ x ∈ seen, 0 ≤ x ∧ x < (n : Int)) (hq : PlaceOk (kr.map (·.1)) seen q) : ∃ kr' c, kr'.map (·.1) = mPut (kr.map (·.1)) seen n q ∧ c = mChain (mPut (kr.map (·.1)) seen n q) chains seen n q ∧ Inv (n + 1) kr' (chains ++ [c]) ∧
    (q.1 = true → chains[q.2.toNat]? = some c ∧ Rise n (-1) c ∧ ∃ (a : Nat) (e : List Int × List Int), kr[a]? = some e ∧ q.2 ∈ e.1) ∧
    (q.1 = false → q.2 = 0 → c = [(n : Int)]) ∧
    (q.1 = false → q.2 ≠ 0 → ∃ (k : Nat) (g : List Int) (i : Int) (c0 : List Int), (mSeen (kr.map (·.1)) seen)[(q.2 - 1).toNat]? = some k ∧ k < kr.length ∧ (mSeen (kr'.map (·.1)) seen)[(q.2 - 1).toNat]? = some k ∧ (kr'.map (·.1))[k]? = some (i :: g) ∧ 0 ≤ i ∧ chains[i.toNat]? = some c0 ∧ c = c0 ++ [(n : Int)] ∧
      ((kr.filter fun e => hitB seen e.1).map fun e => negs e.2)[(q.2 - 1).toNat]? = some (negs c0)) := by
  obtain ⟨b, u⟩ := q
  cases b with
  | true =>
    have hu : u ∈ seen := hq
    obtain ⟨h0, h1⟩ := hs u hu
    obtain ⟨a, e, ha, he⟩ := I.has h0 h1
    have hh := I.home ha he
    have hc := (I.ch e (List.mem_of_getElem? ha) u he).2.2
    have sp := split_at ha
    have hr := (I.ne e (List.mem_of_getElem? ha)).2.2.1
    refine ⟨kr.take a ++ (e.1 ++ [(n : Int)], e.2) :: kr.drop (a + 1), e.2, ?_, ?_, ?_, fun _ => ⟨hc, hr, a, e, ha, he⟩, fun z => (nomatch z), fun z => nomatch z⟩
    · unfold mPut
      rw [if_pos rfl]
      show _ = (kr.map (·.1)).take (mHome (kr.map (·.1)) u) ++ [(kr.map (·.1)).getD (mHome (kr.map (·.1)) u) [] ++ [(n : Int)]] ++ (kr.map (·.1)).drop (mHome (kr.map (·.1)) u + 1)
      rw [hh, List.getD_eq_getElem?_getD, List.getElem?_map, ha, ← List.map_take, ← List.map_drop]
      simp
    · unfold mChain
      rw [if_pos rfl]
      show _ = chains.getD u.toNat []
      rw [List.getD_eq_getElem?_getD, hc]
      rfl
    · rw [sp] at I
      exact I.tie (G := e.1) (c := e.2)
  | false =>
    have hu : 0 ≤ u ∧ u ≤ (mSeen (kr.map (·.1)) seen).length := hq
    by_cases hz : u = 0
    · subst hz
      refine ⟨([(n : Int)], [] ++ [(n : Int)]) :: kr, [] ++ [(n : Int)], ?_, ?_, Inv.gap (l := []) (r := kr) I (.inl ⟨rfl, rfl⟩), fun z => (nomatch z), fun _ _ => rfl, fun _ z => absurd rfl z⟩
      · unfold mPut mAt
        rw [if_neg (by simp), if_pos rfl]
        simp
      · unfold mChain
        rw [if_neg (by simp), if_pos rfl]
        rfl
    · have hj : (u - 1).toNat < (HL kr seen).length := by
        have := hu.2
        rw [mSeen_HL, List.length_map] at this
        omega
      obtain ⟨⟨e, k⟩, hjk⟩ : ∃ q, (HL kr seen)[(u - 1).toNat]? = some q := ⟨_, List.getElem?_eq_getElem hj⟩
      obtain ⟨hk, hf⟩ := HL_at hjk
      have sp : kr = kr.take (k + 1) ++ kr.drop (k + 1) := (List.take_append_drop _ _).symm
      have hkl := (List.getElem?_eq_some_iff.mp hk).1
      have hlen : (kr.take (k + 1)).length = k + 1 := by rw [List.length_take]; omega
      have sp2 : kr.take (k + 1) = kr.take k ++ [e] := by
        rw [List.take_succ, hk]
        rfl
      have hne := I.ne e (List.mem_of_getElem? hk)
      obtain ⟨i, g, hg⟩ : ∃ i g, e.1 = i :: g := by
        cases h : e.1 with
        | nil => exact absurd h hne.1
        | cons i g => exact ⟨i, g, rfl⟩
      have hi := I.ch e (List.mem_of_getElem? hk) i (by rw [hg]; exact List.mem_cons_self)
      have hm : (mSeen (kr.map (·.1)) seen)[(u - 1).toNat]? = some k := by
        rw [mSeen_HL, List.getElem?_map, hjk]
        rfl
      have hm2 : (mSeen ((kr.take (k + 1) ++ ([(n : Int)], e.2 ++ [(n : Int)]) :: kr.drop (k + 1)).map (·.1)) seen)[(u - 1).toNat]? = some k := by
        have hp := HL_put (m := ([(n : Int)], e.2 ++ [(n : Int)])) (r := kr.drop (k + 1)) (by rw [← sp]; exact hjk) hlen
        rw [mSeen_HL, List.getElem?_map, hp]
        rfl
      have hrow : ((kr.take (k + 1) ++ ([(n : Int)], e.2 ++ [(n : Int)]) :: kr.drop (k + 1)).map (·.1))[k]? = some (i :: g) := by
        rw [List.getElem?_map, List.getElem?_append_left (by omega), List.getElem?_take_of_lt (by omega), hk, ← hg]
        rfl
      have hput : (kr.take (k + 1) ++ ([(n : Int)], e.2 ++ [(n : Int)]) :: kr.drop (k + 1)).map (·.1) = mPut (kr.map (·.1)) seen n (false, u) := by
        unfold mPut mAt
        rw [if_neg (by simp)]
        simp only [if_neg hz]
        rw [List.getD_eq_getElem?_getD, hm, ← List.map_take, ← List.map_drop]
        simp
      refine ⟨kr.take (k + 1) ++ ([(n : Int)], e.2 ++ [(n : Int)]) :: kr.drop (k + 1), e.2 ++ [(n : Int)], hput, ?_, ?_, fun z => (nomatch z), fun _ z => absurd z hz, fun _ _ => ⟨k, g, i, e.2, hm, hkl, hm2, hrow, hi.1, hi.2.2, rfl, ?_⟩⟩
      · rw [← hput]
        unfold mChain
        rw [if_neg (by simp), if_neg hz]
        rw [List.getD_eq_getElem?_getD (l := mSeen _ _), hm2, Option.getD_some, List.getD_eq_getElem?_getD (l := List.map _ _), hrow, Option.getD_some]
        show _ = chains.getD i.toNat [] ++ [(n : Int)]
        rw [List.getD_eq_getElem?_getD, hi.2.2]
        rfl
      · rw [sp] at I
        exact I.gap (.inr ⟨_, e, sp2, rfl⟩)
      · rw [List.getElem?_map, hf]
        rfl
end K71

set_option Elab.async false
set_option linter.all false
set_option maxRecDepth 100000
set_option maxHeartbeats 4000000
namespace K71
open PySem L2
def placeD (q : Place) : PyData := .tuple [.str (if q.1 = true then "tie" else "gap"), .int q.2]
def rowD (r : List (List Int)) : PyData := .list (r.map tupI)
theorem gIn_tup (b : Bool) (x : Int) (xs : List Int) : gIn b (.int x) (tupI xs) = some (.bool (if b = true then !decide (x ∈ xs) else decide (x ∈ xs))) := by
  have h1 : (xs.map PyData.int).all flatD = true := List.all_eq_true.mpr fun d hd => by
    obtain ⟨i, _, rfl⟩ := List.mem_map.mp hd
    rfl
  have h2 : (xs.map PyData.int).any (fun e => PyData.eqv e (.int x)) = decide (x ∈ xs) := by
    induction xs with
    | nil => rfl
    | cons y ys ih =>
      have h1' : (ys.map PyData.int).all flatD = true := List.all_eq_true.mpr fun d hd => by
        obtain ⟨i, _, rfl⟩ := List.mem_map.mp hd
        rfl
      rw [List.map_cons, List.any_cons, ih h1']
      by_cases h : y = x
      · subst h; simp [PyData.eqv]
      · have h' : ¬ x = y := fun z => h z.symm
        simp [PyData.eqv, h, h']
  unfold tupI gIn
  simp only [if_pos (show flatD (.int x) = true ∧ (xs.map PyData.int).all flatD = true from ⟨rfl, h1⟩), h2]
theorem tst_tie {i : Nat} {δ : Dn} {q : Place} (hv : dVar i δ = some (placeD q, δ.bag)) : tst (dOp gEq (dOp gIx (dVar i) (dC (.int 0))) (dC (.str "tie"))) δ = some (q.1, δ.bag) := by
  obtain ⟨b, n⟩ := q
  refine tst_eq (op_eq (g := δ.bag) (x := .str (if b = true then "tie" else "gap")) (y := .str "tie") (op_eq (g := δ.bag) hv rfl rfl) rfl ?_)
  cases b with
  | true => exact gEq_str ok_tie ok_tie
  | false => exact gEq_str ok_gap ok_tie
theorem num_eq {i : Nat} {δ : Dn} {q : Place} (hv : dVar i δ = some (placeD q, δ.bag)) : dOp gIx (dVar i) (dC (.int 1)) δ = some (.int q.2, δ.bag) := op_eq (g := δ.bag) hv rfl rfl
theorem gTo_row (r : List (List Int)) (k : Nat) : gTo (rowD r) (.int k) = some (rowD (r.take k)) := by
  show some (PyData.list (cutD (r.map tupI) none (some k))) = _
  unfold cutD
  rw [HT.sIx_none, HT.sIx_nat]
  unfold rowD
  rw [List.drop_zero, Nat.sub_zero, List.map_take, List.length_map]
  congr 2
  by_cases h : k ≤ r.length
  · rw [Nat.min_eq_left h]
  · rw [Nat.min_eq_right (by omega), List.take_of_length_le (by simp), List.take_of_length_le (by simp; omega)]
theorem gFrom_row (r : List (List Int)) (k : Nat) : gFrom (rowD r) (.int k) = some (rowD (r.drop k)) := by
  show some (PyData.list (cutD (r.map tupI) (some k) none)) = _
  unfold cutD
  rw [HT.sIx_none, HT.sIx_nat]
  unfold rowD
  rw [List.map_drop, List.length_map]
  congr 2
  by_cases h : k ≤ r.length
  · rw [Nat.min_eq_left h, List.take_of_length_le (by simp)]
  · rw [Nat.min_eq_right (by omega), List.drop_of_length_le (by simp), List.drop_of_length_le (by simp; omega)]
    simp
theorem gAdd_row {a b : List (List Int)} (h : a.length + b.length ≤ 1000) : gAdd (rowD a) (rowD b) = some (rowD (a ++ b)) := by
  unfold rowD gAdd
  simp only [List.length_map]
  rw [if_pos (Nat.le_trans h (by rw [sizeLine_eq]; decide)), List.map_append]
theorem gAdd_tup {a b : List Int} (h : a.length + b.length ≤ 1000) : gAdd (tupI a) (tupI b) = some (tupI (a ++ b)) := by
  unfold tupI gAdd
  simp only [List.length_map]
  rw [if_pos (Nat.le_trans h (by rw [sizeLine_eq]; decide)), List.map_append]
theorem gIx_row {r : List (List Int)} {k : Nat} {G : List Int} (h : r[k]? = some G) : gIx (rowD r) (.int k) = some (tupI G) := by
  show atI (r.map tupI) (k : Int) = _
  exact at_eq (by omega) (by simp [h])

/-! ### the law's own defs on data -/
theorem zip_len {α : Type} (xs : List α) (k : Nat) : (xs.zipIdx k).length = xs.length := by simp
theorem l_home_eq {row : List (List Int)} {u : Int} (hl : row.length ≤ 1000) {G : List Int} (h : row[mHome row u]? = some G) (hu : u ∈ G) : f_l_home [rowD row, .int u] = some (.int (mHome row u : Nat)) := by
  have e1 : dLc (iEL (dVar 0)) (.many [2, 3]) (tst (dOp (gIn false) (dVar 1) (dVar 3))) (dVar 2) [2, 3] ⟨[some (.dat (rowD row)), some (.dat (.int u)), none, none], B0, none⟩ = some (.list (((row.zipIdx 0).filter fun q => decide (u ∈ q.1)).map fun q => .int (q.2 : Nat)), B0) := by
    refine dLc_eq (g := B0) (ds := (row.zipIdx 0).map fun q => .tuple [.int (q.2 : Nat), tupI q.1]) ?_ (by simpa using hl) rfl rfl ?_
    · rw [← enum_map]
      rfl
    · refine lc_pure _ _ _ _ fun q _ => ⟨_, rfl, ?_, fun _ => rfl⟩
      exact tst_eq (op_eq (g := B0) (x := .int u) (y := tupI q.1) rfl rfl (gIn_tup false u q.1))
  refine runP_rt (g := B0) (ret_eq (op_eq (g := B0) e1 rfl ?_))
  have hne : ((row.zipIdx 0).filter fun q => decide (u ∈ q.1)) ≠ [] := by
    intro z
    have hz : (G, mHome row u) ∈ (row.zipIdx 0).filter fun q => decide (u ∈ q.1) := List.mem_filter.mpr ⟨List.mem_iff_getElem?.mpr ⟨mHome row u, by rw [List.getElem?_zipIdx, h]; simp⟩, by simpa using hu⟩
    rw [z] at hz
    cases hz
  unfold mHome
  cases hL : (row.zipIdx 0).filter fun q => decide (u ∈ q.1) with
  | nil => exact absurd hL hne
  | cons a l =>
    show atI (PyData.int (a.2 : Nat) :: l.map fun q => .int (q.2 : Nat)) 0 = _
    exact at_eq (by omega) rfl
theorem l_seen_eq {row : List (List Int)} {seen : List Int} (hl : row.length ≤ 1000) (hg : ∀ G ∈ row, G.length ≤ 1000) : f_l_seen_groups [rowD row, tupI seen] = some (.list ((mSeen row seen).map fun k => .int (k : Nat))) := by
  refine runP_rt (g := B0) (ret_eq ?_)
  unfold mSeen
  rw [List.map_map]
  refine dLc_eq (g := B0) (ds := (row.zipIdx 0).map fun q => .tuple [.int (q.2 : Nat), tupI q.1]) ?_ (by simpa using hl) rfl rfl ?_
  · rw [← enum_map]
    rfl
  · refine lc_pure _ (fun q : List Int × Nat => hitB seen q.1) (fun q => .int (q.2 : Nat)) _ fun q hq => ⟨⟨[some (.dat (rowD row)), some (.dat (tupI seen)), some (.dat (.int (q.2 : Nat))), some (.dat (tupI q.1)), none], B0, none⟩, rfl, ?_, fun _ => rfl⟩
    have hG : q.1.length ≤ 1000 := hg q.1 (List.mem_of_getElem? (zip_mem _ _ _ hq).2)
    have e1 : dLc (iT (dVar 3)) (.one 4) (tst (dOp (gIn false) (dVar 4) (dVar 1))) (dVar 4) [4] ⟨[some (.dat (rowD row)), some (.dat (tupI seen)), some (.dat (.int (q.2 : Nat))), some (.dat (tupI q.1)), none], B0, none⟩ = some (.list ((q.1.filter fun x => decide (x ∈ seen)).map .int), B0) := by
      refine dLc_eq (g := B0) (ds := q.1.map .int) rfl (by simpa using hG) rfl rfl ?_
      refine lc_pure _ _ _ _ fun x _ => ⟨_, rfl, ?_, fun _ => rfl⟩
      exact tst_eq (op_eq (g := B0) (x := .int x) (y := tupI seen) rfl rfl (gIn_tup false x seen))
    refine tst_eq (op_eq (g := B0) (x := .int ((q.1.filter fun x => decide (x ∈ seen)).length : Nat)) (y := .int 0) (call_eq (one_eq e1) (gLen_mapL _ _)) rfl ?_)
    show some (PyData.bool (decide ((0 : Int) < ((q.1.filter fun x => decide (x ∈ seen)).length : Nat)))) = _
    unfold hitB
    congr 2
    by_cases h : 0 < (q.1.filter fun x => decide (x ∈ seen)).length
    · rw [decide_eq_true h, decide_eq_true (by omega)]
    · rw [decide_eq_false h, decide_eq_false (by omega)]
theorem gIx_seen {row : List (List Int)} {seen : List Int} {j : Int} {k : Nat} (h0 : 0 ≤ j) (h : (mSeen row seen)[j.toNat]? = some k) : gIx (.list ((mSeen row seen).map fun k => .int (k : Nat))) (.int j) = some (.int (k : Nat)) := at_eq h0 (by simp [h])
theorem l_put_eq {row : List (List Int)} {seen : List Int} {n : Int} {q : Place} (hl : row.length ≤ 100) (hg : ∀ G ∈ row, G.length ≤ 100) (ht : q.1 = true → ∃ G, row[mHome row q.2]? = some G ∧ q.2 ∈ G)
    (hp : q.1 = false → q.2 ≠ 0 → 0 < q.2 ∧ ∃ k, (mSeen row seen)[(q.2 - 1).toNat]? = some k) : f_l_put [rowD row, tupI seen, .int n, placeD q] = some (rowD (mPut row seen n q)) := by
  refine runP_rt (g := B0) ?_
  show d_l_put ⟨[some (.dat (rowD row)), some (.dat (tupI seen)), some (.dat (.int n)), some (.dat (placeD q)), none, none], B0, none⟩ = _
  unfold d_l_put mPut
  have tt := tst_tie (i := 3) (q := q) (δ := ⟨[some (.dat (rowD row)), some (.dat (tupI seen)), some (.dat (.int n)), some (.dat (placeD q)), none, none], B0, none⟩) rfl
  have nm := num_eq (i := 3) (q := q) (δ := ⟨[some (.dat (rowD row)), some (.dat (tupI seen)), some (.dat (.int n)), some (.dat (placeD q)), none, none], B0, none⟩) rfl
  cases hq : q.1 with
  | true =>
    obtain ⟨G, h1, h2⟩ := ht hq
    rw [hq] at tt
    rw [if_pos rfl]
    refine seq_rt ?_
    rw [if_t tt, seq_nx (δ1 := ⟨[some (.dat (rowD row)), some (.dat (tupI seen)), some (.dat (.int n)), some (.dat (placeD q)), none, some (.dat (.int (mHome row q.2 : Nat)))], B0, none⟩) (asg_one (g := B0) (fn_eq (g := B0) (cons_eq (g := B0) rfl (one_eq nm)) rfl (l_home_eq (by omega) h1 h2)) rfl)]
    have hh := (List.getElem?_eq_some_iff.mp h1).1
    have hG := hg G (List.mem_of_getElem? h1)
    refine ret_eq (op_eq (g := B0) (op_eq (g := B0) (x := rowD (row.take (mHome row q.2))) (y := rowD [G ++ [n]]) (op_eq (g := B0) rfl rfl (gTo_row row _)) (lst_eq (one_eq (op_eq (g := B0) (x := tupI G) (y := tupI [n]) (op_eq (g := B0) rfl rfl (gIx_row h1)) (tup_eq (one_eq rfl) (by simp)) (gAdd_tup (by simp; omega)))) (by simp)) (gAdd_row (by simp; omega)))
      (op_eq (g := B0) (x := rowD row) (y := .int (mHome row q.2 + 1 : Nat)) rfl (op_eq (g := B0) rfl rfl rfl) (gFrom_row row _)) ?_)
    rw [gAdd_row (by simp; omega), List.getD_eq_getElem?_getD, h1]
    rfl
  | false =>
    rw [hq] at tt
    rw [if_neg (by simp)]
    rw [seq_nx (δ1 := ⟨[some (.dat (rowD row)), some (.dat (tupI seen)), some (.dat (.int n)), some (.dat (placeD q)), none, none], B0, none⟩) (by rw [if_f tt]; rfl),
      seq_nx (δ1 := ⟨[some (.dat (rowD row)), some (.dat (tupI seen)), some (.dat (.int n)), some (.dat (placeD q)), some (.dat (.list ((mSeen row seen).map fun k => .int (k : Nat)))), none], B0, none⟩) (asg_one (g := B0) (fn_eq (g := B0) rfl rfl (l_seen_eq (by omega) fun G hG => by have := hg G hG; omega)) rfl)]
    have nm2 := num_eq (i := 3) (q := q) (δ := ⟨[some (.dat (rowD row)), some (.dat (tupI seen)), some (.dat (.int n)), some (.dat (placeD q)), some (.dat (.list ((mSeen row seen).map fun k => .int (k : Nat)))), none], B0, none⟩) rfl
    have ea : dIf (tst (dOp gEq (dOp gIx (dVar 3) (dC (.int 1))) (dC (.int 0)))) (dC (.int 0)) (dOp gAdd (dOp gIx (dVar 4) (dOp gSub (dOp gIx (dVar 3) (dC (.int 1))) (dC (.int 1)))) (dC (.int 1)))
        ⟨[some (.dat (rowD row)), some (.dat (tupI seen)), some (.dat (.int n)), some (.dat (placeD q)), some (.dat (.list ((mSeen row seen).map fun k => .int (k : Nat)))), none], B0, none⟩ = some (.int (mAt row seen q : Nat), B0) := by
      unfold mAt
      by_cases hz : q.2 = 0
      · rw [if_pos hz, ife_t (g := B0) (tst_eq (op_eq (g := B0) nm2 rfl (by rw [gEq_int, hz]; rfl)))]
        rfl
      · obtain ⟨h0, k, hk⟩ := hp hq hz
        rw [if_neg hz, ife_f (g := B0) (tst_eq (op_eq (g := B0) nm2 rfl (by rw [gEq_int]; simp [hz])))]
        rw [List.getD_eq_getElem?_getD, hk]
        exact op_eq (g := B0) (x := .int (k : Nat)) (y := .int 1) (op_eq (g := B0) (y := .int (q.2 - 1)) rfl (op_eq (g := B0) (x := .int q.2) (y := .int 1) nm2 rfl rfl) (gIx_seen (by omega) hk)) rfl rfl
    rw [seq_nx (asg_one (g := B0) ea rfl)]
    refine ret_eq (op_eq (g := B0) (op_eq (g := B0) (x := rowD (row.take (mAt row seen q))) (y := rowD [[n]]) (op_eq (g := B0) rfl rfl (gTo_row row _)) (lst_eq (one_eq (tup_eq (one_eq rfl) (by simp))) (by simp)) (gAdd_row (by simp; omega)))
      (op_eq (g := B0) (x := rowD row) (y := .int (mAt row seen q : Nat)) rfl rfl (gFrom_row row _)) ?_)
    exact gAdd_row (by simp; omega)
theorem l_chain_eq {row chains : List (List Int)} {seen : List Int} {n : Int} {q : Place} (hl : row.length ≤ 100) (hg : ∀ G ∈ row, G.length ≤ 100) (hc : ∀ c ∈ chains, c.length ≤ 100) (ht : q.1 = true → 0 ≤ q.2 ∧ ∃ c, chains[q.2.toNat]? = some c)
    (hp : q.1 = false → q.2 ≠ 0 → 0 < q.2 ∧ ∃ (k : Nat) (g : List Int) (i : Int) (c : List Int), (mSeen row seen)[(q.2 - 1).toNat]? = some k ∧ row[k]? = some (i :: g) ∧ 0 ≤ i ∧ chains[i.toNat]? = some c) :
    f_l_chain [rowD row, rowD chains, tupI seen, .int n, placeD q] = some (tupI (mChain row chains seen n q)) := by
  refine runP_rt (g := B0) ?_
  show d_l_chain ⟨[some (.dat (rowD row)), some (.dat (rowD chains)), some (.dat (tupI seen)), some (.dat (.int n)), some (.dat (placeD q))], B0, none⟩ = _
  unfold d_l_chain mChain
  have tt := tst_tie (i := 4) (q := q) (δ := ⟨[some (.dat (rowD row)), some (.dat (rowD chains)), some (.dat (tupI seen)), some (.dat (.int n)), some (.dat (placeD q))], B0, none⟩) rfl
  have nm := num_eq (i := 4) (q := q) (δ := ⟨[some (.dat (rowD row)), some (.dat (rowD chains)), some (.dat (tupI seen)), some (.dat (.int n)), some (.dat (placeD q))], B0, none⟩) rfl
  have ix : ∀ {i : Int} {c : List Int}, 0 ≤ i → chains[i.toNat]? = some c → gIx (rowD chains) (.int i) = some (tupI c) := fun h0 h => at_eq h0 (by simp [h])
  cases hq : q.1 with
  | true =>
    obtain ⟨h0, c, h1⟩ := ht hq
    rw [hq] at tt
    rw [if_pos rfl]
    refine seq_rt ?_
    rw [if_t tt, List.getD_eq_getElem?_getD, h1]
    exact ret_eq (op_eq (g := B0) rfl nm (ix h0 h1))
  | false =>
    rw [hq] at tt
    rw [if_neg (by simp)]
    rw [seq_nx (δ1 := ⟨[some (.dat (rowD row)), some (.dat (rowD chains)), some (.dat (tupI seen)), some (.dat (.int n)), some (.dat (placeD q))], B0, none⟩) (by rw [if_f tt]; rfl)]
    by_cases hz : q.2 = 0
    · rw [if_pos hz]
      refine seq_rt ?_
      rw [if_t (g := B0) (tst_eq (op_eq (g := B0) nm rfl (by rw [gEq_int, hz]; rfl)))]
      exact ret_eq (tup_eq (ds := [.int n]) (one_eq rfl) (by simp))
    · obtain ⟨h0, k, g, i, c, hk, hr, hi, hcc⟩ := hp hq hz
      rw [if_neg hz, seq_nx (δ1 := ⟨[some (.dat (rowD row)), some (.dat (rowD chains)), some (.dat (tupI seen)), some (.dat (.int n)), some (.dat (placeD q))], B0, none⟩) (by rw [if_f (g := B0) (tst_eq (op_eq (g := B0) nm rfl (by rw [gEq_int]; simp [hz])))]; rfl)]
      have e1 : ((row.getD ((mSeen row seen).getD (q.2 - 1).toNat 0) []).headD 0) = i := by
        rw [List.getD_eq_getElem?_getD (l := mSeen _ _), hk, Option.getD_some, List.getD_eq_getElem?_getD, hr]
        rfl
      rw [e1, List.getD_eq_getElem?_getD, hcc]
      have hcl := hc c (List.mem_of_getElem? hcc)
      refine ret_eq (op_eq (g := B0) (x := tupI c) (y := tupI [n]) (op_eq (g := B0) rfl (op_eq (g := B0) (x := tupI (i :: g)) (y := .int 0) (op_eq (g := B0) (x := rowD row) (y := .int (k : Nat)) rfl (op_eq (g := B0) (y := .int (q.2 - 1)) (fn_eq (g := B0) rfl rfl (l_seen_eq (by omega) fun G hG => by have := hg G hG; omega)) (op_eq (g := B0) (x := .int q.2) (y := .int 1) nm rfl rfl) (gIx_seen (by omega) hk)) (gIx_row hr)) rfl (at_eq (by omega) rfl)) (ix hi hcc)) (tup_eq (one_eq rfl) (by simp)) (gAdd_tup (by simp; omega)))
end K71

set_option Elab.async false
set_option linter.all false
set_option maxRecDepth 100000
set_option maxHeartbeats 4000000
namespace K71
open PySem L2
/-! ### a run, its row and chains, item by item -/
def StepAt (p : List (List Int)) (run : List Place) (chains : List (List Int)) (k : Nat) : Prop := ∃ kr seen q c, Inv k kr (chains.take k) ∧ p[k]? = some seen ∧ run[k]? = some q ∧ chains[k]? = some c ∧ c ≠ [] ∧
  (q.1 = true → q.2 ∈ seen ∧ (chains.take k)[q.2.toNat]? = some c ∧ Rise k (-1) c) ∧
  (q.1 = false → 0 ≤ q.2 ∧ q.2 ≤ (kr.filter fun e => hitB seen e.1).length ∧ (q.2 = 0 → c = [(k : Int)]) ∧ (q.2 ≠ 0 → ∃ c0, ((kr.filter fun e => hitB seen e.1).map fun e => negs e.2)[(q.2 - 1).toNat]? = some (negs c0) ∧ c = c0 ++ [(k : Int)]))
structure Run (p : List (List Int)) (n : Nat) (run : List Place) (kr : List (List Int × List Int)) (chains : List (List Int)) : Prop where
  inv : Inv n kr chains
  rl : run.length = n
  at_ : ∀ k, k < n → StepAt p run chains k
theorem Run.nil {p : List (List Int)} : Run p 0 [] [] [] := ⟨Inv.nil, rfl, fun _ h => by omega⟩
theorem HL_len (kr : List (List Int × List Int)) (seen : List Int) : (mSeen (kr.map (·.1)) seen).length = (kr.filter fun e => hitB seen e.1).length := by
  rw [mSeen_HL, List.length_map, ← zip_fst (p := fun e : List Int × List Int => hitB seen e.1) kr 0, List.length_map]
  rfl
theorem Run.next {p : List (List Int)} {n : Nat} {run : List Place} {kr : List (List Int × List Int)} {chains : List (List Int)} {seen : List Int} {q : Place} (R : Run p n run kr chains) (hp : PlanOk p) (h : p[n]? = some seen) (hq : PlaceOk (kr.map (·.1)) seen q) :
    ∃ kr', kr'.map (·.1) = mPut (kr.map (·.1)) seen n q ∧ Run p (n + 1) (run ++ [q]) kr' (chains ++ [mChain (mPut (kr.map (·.1)) seen n q) chains seen n q]) ∧
    (f_l_put [rowD (kr.map (·.1)), tupI seen, .int n, placeD q] = some (rowD (mPut (kr.map (·.1)) seen n q)) ∨ ¬ n ≤ 40) ∧
    (f_l_chain [rowD (mPut (kr.map (·.1)) seen n q), rowD chains, tupI seen, .int n, placeD q] = some (tupI (mChain (mPut (kr.map (·.1)) seen n q) chains seen n q)) ∨ ¬ n ≤ 40) := by
  have hs : ∀ x ∈ seen, 0 ≤ x ∧ x < (n : Int) := fun x hx => by
    have := hp.at h hx
    omega
  obtain ⟨kr', c, e1, e2, I', f1, f2, f3⟩ := step_ok R.inv hs hq
  subst e2
  refine ⟨kr', e1, ⟨I', by simp [R.rl], fun k hk => ?_⟩, ?_, ?_⟩
  · by_cases hkn : k < n
    · obtain ⟨kr0, seen0, q0, c0, I0, g1, g2, g3, g4, g5, g6⟩ := R.at_ k hkn
      have ht : (chains ++ [mChain (mPut (kr.map (·.1)) seen n q) chains seen n q]).take k = chains.take k := List.take_append_of_le_length (by rw [R.inv.len]; omega)
      refine ⟨kr0, seen0, q0, c0, by rw [ht]; exact I0, g1, ?_, ?_, g4, by rw [ht]; exact g5, g6⟩
      · rw [List.getElem?_append_left (by rw [R.rl]; exact hkn)]
        exact g2
      · rw [List.getElem?_append_left (by rw [R.inv.len]; exact hkn)]
        exact g3
    · have : k = n := by omega
      subst this
      have ht : (chains ++ [mChain (mPut (kr.map (·.1)) seen k q) chains seen k q]).take k = chains := by
        rw [List.take_append_of_le_length (by rw [R.inv.len]; omega), List.take_of_length_le (by rw [R.inv.len]; omega)]
      have hlast : (chains ++ [mChain (mPut (kr.map (·.1)) seen k q) chains seen k q])[k]? = some (mChain (mPut (kr.map (·.1)) seen k q) chains seen k q) := by
        have := R.inv.last (mChain (mPut (kr.map (·.1)) seen k q) chains seen k q)
        rwa [Int.toNat_natCast] at this
      refine ⟨kr, seen, q, _, by rw [ht]; exact R.inv, h, ?_, hlast, ?_, fun hb => ?_, fun hb => ?_⟩
      · rw [List.getElem?_append_right (by rw [R.rl]; omega), R.rl, Nat.sub_self]
        rfl
      · obtain ⟨e, he, hi⟩ := I'.ex k (by omega)
        have h1 := (I'.ch e he k hi).2.2
        rw [Int.toNat_natCast, hlast] at h1
        rw [Option.some.inj h1]
        exact (I'.ne e he).2.1
      · rw [ht]
        refine ⟨?_, (f1 hb).1, (f1 hb).2.1⟩
        unfold PlaceOk at hq
        rw [if_pos hb] at hq
        exact hq
      · unfold PlaceOk at hq
        rw [if_neg (by simp [hb]), HL_len] at hq
        refine ⟨hq.1, hq.2, f2 hb, fun hz => ?_⟩
        obtain ⟨k0, g, i, c0, h1, h2, h3, h4, h5, h6, h7, h8⟩ := f3 hb hz
        exact ⟨c0, h8, h7⟩
  · by_cases hn : n ≤ 40
    · refine .inl (l_put_eq (by have := R.inv.sz; simp; omega) (fun G hG => ?_) (fun hb => ?_) (fun hb hz => ?_))
      · obtain ⟨e, he, rfl⟩ := List.mem_map.mp hG
        have := (R.inv.ne e he).2.2.2
        omega
      · obtain ⟨a, e, ha, he⟩ := (f1 hb).2.2
        exact ⟨e.1, by rw [R.inv.home ha he, List.getElem?_map, ha]; rfl, he⟩
      · obtain ⟨k0, g, i, c0, h1, h2, h3, h4, h5, h6, h7, h8⟩ := f3 hb hz
        unfold PlaceOk at hq
        rw [if_neg (by simp [hb])] at hq
        exact ⟨by omega, k0, h1⟩
    · exact .inr hn
  · by_cases hn : n ≤ 40
    · rw [← e1] at f3 ⊢
      refine .inl (l_chain_eq (by have := I'.sz; simp; omega) (fun G hG => ?_) (fun c hc => ?_) (fun hb => ?_) (fun hb hz => ?_))
      · obtain ⟨e, he, rfl⟩ := List.mem_map.mp hG
        have := (I'.ne e he).2.2.2
        omega
      · obtain ⟨i, hi⟩ := List.mem_iff_getElem?.mp hc
        have hil := (List.getElem?_eq_some_iff.mp hi).1
        obtain ⟨e, he, h2⟩ := R.inv.ex i (by rw [← R.inv.len]; exact hil)
        have h3 := (R.inv.ch e he i h2).2.2
        rw [Int.toNat_natCast, hi] at h3
        rw [Option.some.inj h3]
        have h4 := (R.inv.ne e he).2.2.1.len (by omega)
        omega
      · have hu : q.2 ∈ seen := by
          unfold PlaceOk at hq
          rw [if_pos hb] at hq
          exact hq
        exact ⟨(hs _ hu).1, _, (f1 hb).1⟩
      · obtain ⟨k0, g, i, c0, h1, h2, h3, h4, h5, h6, h7, h8⟩ := f3 hb hz
        unfold PlaceOk at hq
        rw [if_neg (by simp [hb])] at hq
        exact ⟨by omega, k0, g, i, c0, h3, h4, h5, h6⟩
    · exact .inr hn

/-! ### the groups of what is seen, by their keys -/
theorem insT_mem (acc : List (List Int)) (x y : List Int) : y ∈ insT acc x ↔ y ∈ acc ∨ y = x := by
  unfold insT
  split
  · constructor
    · exact .inl
    · rintro (h | rfl)
      · exact h
      · assumption
  · simp
theorem insTs_mem (y : List Int) : ∀ (xs acc : List (List Int)), y ∈ xs.foldl insT acc ↔ y ∈ acc ∨ y ∈ xs
  | [], acc => by simp
  | x :: xs, acc => by rw [List.foldl_cons, insTs_mem y xs, insT_mem, List.mem_cons, or_assoc]
theorem insTs_nodup : ∀ (xs acc : List (List Int)), acc.Nodup → (xs.foldl insT acc).Nodup
  | [], acc, h => h
  | x :: xs, acc, h => by
    rw [List.foldl_cons]
    refine insTs_nodup xs _ ?_
    unfold insT
    split
    · exact h
    · rename_i hx
      rw [List.nodup_append]
      refine ⟨h, by simp, fun a ha b hb => ?_⟩
      have : b = x := by simpa using hb
      subst this
      exact fun z => hx (z ▸ ha)
theorem groups_eq {n : Nat} {kr : List (List Int × List Int)} {chains : List (List Int)} {seen : List Int} (I : Inv n kr chains) (hs : ∀ x ∈ seen, 0 ≤ x ∧ x < (n : Int)) :
    sortT ((seen.map fun o => negs (chains.getD o.toNat [])).foldl insT []) = (kr.filter fun e => hitB seen e.1).map fun e => negs e.2 := by
  have hp : ((kr.filter fun e => hitB seen e.1).map fun e => negs e.2).Pairwise fun a b => HT.lexLt a b = true := by
    rw [List.pairwise_map]
    exact I.srt.filter _
  refine sortT_eq ?_ hp
  refine (List.perm_ext_iff_of_nodup (hp.imp fun {a b} h z => ?_) (insTs_nodup _ _ List.nodup_nil)).mpr fun x => ?_
  · rw [z, lex_irrefl] at h
    cases h
  · rw [insTs_mem]
    constructor
    · intro h
      obtain ⟨e, he, rfl⟩ := List.mem_map.mp h
      obtain ⟨he, hh⟩ := List.mem_filter.mp he
      have hh := of_decide_eq_true hh
      obtain ⟨i, hi⟩ := List.exists_mem_of_length_pos hh
      obtain ⟨h1, h2⟩ := List.mem_filter.mp hi
      refine .inr (List.mem_map.mpr ⟨i, of_decide_eq_true h2, ?_⟩)
      rw [List.getD_eq_getElem?_getD, (I.ch e he i h1).2.2]
      rfl
    · rintro (h | h)
      · cases h
      · obtain ⟨o, ho, rfl⟩ := List.mem_map.mp h
        obtain ⟨h0, h1⟩ := hs o ho
        obtain ⟨a, e, ha, he⟩ := I.has h0 h1
        have hm := List.mem_of_getElem? ha
        refine List.mem_map.mpr ⟨e, List.mem_filter.mpr ⟨hm, ?_⟩, ?_⟩
        · refine decide_eq_true (List.length_pos_of_mem (a := o) (List.mem_filter.mpr ⟨he, by simpa using ho⟩))
        · rw [List.getD_eq_getElem?_getD, (I.ch e hm o he).2.2]
          rfl
end K71

set_option Elab.async false
set_option linter.all false
set_option maxRecDepth 100000
set_option maxHeartbeats 4000000
namespace K71
open PySem L2
def runD (run : List Place) : PyData := .tuple (run.map placeD)
theorem keys_eq {i : Nat} {tk : DE} {δ : Dn} (key : Int → List Int) : ∀ (xs : List Int) (acc : List (List Int)), δ.bk = none → (∀ x ∈ xs, tk { δ with sl := δ.sl.set i (some (.dat (.int x))) } = some (tupI (key x), δ.bag)) →
    keysD (.one i) tk (xs.map .int) δ acc = some ((xs.map key).foldl insT acc, δ.bag)
  | [], acc, _, _ => rfl
  | x :: xs, acc, hb, h => by
    rw [List.map_cons, keysD, putTg_one, if_pos (by rw [hb]; rfl)]
    simp only [h x List.mem_cons_self]
    unfold tupI
    simp only [asInts_ints]
    exact keys_eq key xs _ hb fun y hy => h y (List.mem_cons_of_mem _ hy)
theorem asTups_eq : ∀ (nss : List (List Int)), (∀ ns ∈ nss, ns ≠ []) → asTups (nss.map tupI) = some nss
  | [], _ => rfl
  | [] :: nss, h => absurd rfl (h [] List.mem_cons_self)
  | (n :: ns) :: nss, h => by
    have ih := asTups_eq nss fun m hm => h m (List.mem_cons_of_mem _ hm)
    have e := asInts_ints (n :: ns)
    show asTups (.tuple ((n :: ns).map .int) :: nss.map tupI) = _
    rw [asTups, e, ih]
theorem gSortT_eq (nss : List (List Int)) (h : ∀ ns ∈ nss, ns ≠ []) (hl : nss.length ≤ 1000) : gSortT [.list (nss.map tupI)] = some (.list ((sortT nss).map tupI)) := by
  show (if (nss.map tupI).length ≤ sizeLine then (asTups (nss.map tupI)).map fun r => PyData.list ((sortT r).map tupI) else none) = _
  rw [if_pos (size_ok (by simpa using hl)), asTups_eq nss h]
  rfl
abbrev oSt (P R : PyData) (F : List PyData) (x3 x4 x5 x6 x7 x8 x9 x10 : Option PyData) : Dn := ⟨[some (.dat P), some (.dat R), some (.own F), jk x3, jk x4, jk x5, jk x6, jk x7, jk x8, jk x9, jk x10], B0, none⟩
theorem insTs_len : ∀ (xs acc : List (List Int)), (xs.foldl insT acc).length ≤ acc.length + xs.length
  | [], acc => by simp
  | x :: xs, acc => by
    rw [List.foldl_cons]
    have h1 := insTs_len xs (insT acc x)
    have h2 := insT_length acc x
    rw [List.length_cons]
    omega
theorem sortT_len (ks : List (List Int)) : (sortT ks).length = ks.length := (List.mergeSort_perm ks _).length_eq
theorem own_body {p : List (List Int)} (hp : PlanOk p) (hl : p.length ≤ 40) {run : List Place} {chains : List (List Int)} (hrl : run.length = p.length) (hcl : chains.length = p.length) {k : Nat} {seen : List Int} (hk : p[k]? = some seen) (S : StepAt p run chains k) (x5 x6 x7 x8 x9 x10 : Option PyData) :
    ∃ y5 y6 y7 y8 y9 y10 : Option PyData, (sSeq (sAsg (.many [5, 6]) (dOp gIx (dVar 1) (dVar 3)))
  (sIf (tst (dOp gEq (dVar 5) (dC (.str "tie")))) (sSeq (sIf (tst (dOp (gIn true) (dVar 6) (dVar 4))) (sRet (dC .none)) sNil)
  (sApp 2 (dOwnIx 2 (dVar 6)))) (sSeq (sAsg (.one 7) (dCall gSortT (aCons (dKeys (iT (dVar 4)) (.one 9) (dFn 1 f_chain_key (aCons (dOwnIx 2 (dVar 9)) aNil)) [9]) aNil)))
  (sSeq (sIf (tst (dOp gGt (dVar 6) (dCall gLen (aCons (dVar 7) aNil)))) (sRet (dC .none)) sNil)
  (sSeq (sAsg (.one 8) (dIf (tst (dOp gEq (dVar 6) (dC (.int 0)))) (dTup aNil) (dCall gTuple (aCons (dLc (iT (dOp gIx (dVar 7) (dOp gSub (dVar 6) (dC (.int 1))))) (.one 10) tTrue (dUn gNeg (dVar 10)) [10]) aNil))))
  (sApp 2 (dOp gAdd (dVar 8) (dTup (aCons (dVar 3) aNil)))))))))
    (oSt (planD p) (runD run) ((chains.take k).map tupI) (some (.int k)) (some (tupI seen)) x5 x6 x7 x8 x9 x10) = some (.nx (oSt (planD p) (runD run) ((chains.take (k + 1)).map tupI) (some (.int k)) (some (tupI seen)) y5 y6 y7 y8 y9 y10)) := by
  obtain ⟨kr, seen', q, c, I, h1, h2, h3, hc, ht, hg⟩ := S
  have := h1.symm.trans hk
  cases this
  have hklt := (List.getElem?_eq_some_iff.mp hk).1
  have hsl := hp.len hk
  have hs : ∀ x ∈ seen, 0 ≤ x ∧ x < (k : Int) := fun x hx => by
    have := hp.at hk hx
    omega
  have htk : chains.take (k + 1) = chains.take k ++ [c] := by
    rw [List.take_succ, h3]
    rfl
  have hlt : (chains.take k).length = k := by rw [List.length_take]; omega
  have hap : (chains.take (k + 1)).map tupI = (chains.take k).map tupI ++ [tupI c] := by rw [htk, List.map_append]; rfl
  obtain ⟨b, u⟩ := q
  have hix : dOp gIx (dVar 1) (dVar 3) (oSt (planD p) (runD run) ((chains.take k).map tupI) (some (.int k)) (some (tupI seen)) x5 x6 x7 x8 x9 x10) = some (placeD (b, u), B0) := op_eq (g := B0) (x := runD run) (y := .int k) rfl rfl (at_eq (by omega) (by simp [h2]))
  have hasg : sAsg (.many [5, 6]) (dOp gIx (dVar 1) (dVar 3)) (oSt (planD p) (runD run) ((chains.take k).map tupI) (some (.int k)) (some (tupI seen)) x5 x6 x7 x8 x9 x10) = some (.nx (oSt (planD p) (runD run) ((chains.take k).map tupI) (some (.int k)) (some (tupI seen)) (some (.str (if b = true then "tie" else "gap"))) (some (.int u)) x7 x8 x9 x10)) := by
    unfold sAsg
    rw [hix]
    rfl
  have own_ix : ∀ {i : Int} {d : List Int} {δ : Dn} {a : DE}, δ.bag = B0 → slOwn 2 δ = some ((chains.take k).map tupI) → a δ = some (.int i, B0) → 0 ≤ i → (chains.take k)[i.toNat]? = some d → dOwnIx 2 a δ = some (tupI d, B0) := fun {i d δ a} hB ho ha h0 hi => by
    unfold dOwnIx bd
    rw [ha]
    have ho' : slOwn 2 (δ.wb B0) = some ((chains.take k).map tupI) := ho
    have e : atI ((chains.take k).map tupI) i = some (tupI d) := at_eq h0 (by rw [List.getElem?_map, hi]; rfl)
    simp only [ho', e]
    rfl
  cases b with
  | true =>
    obtain ⟨hu, hcu, hr⟩ := ht rfl
    have hasg : sAsg (.many [5, 6]) (dOp gIx (dVar 1) (dVar 3)) (oSt (planD p) (runD run) ((chains.take k).map tupI) (some (.int k)) (some (tupI seen)) x5 x6 x7 x8 x9 x10) = some (.nx (oSt (planD p) (runD run) ((chains.take k).map tupI) (some (.int k)) (some (tupI seen)) (some (.str "tie")) (some (.int u)) x7 x8 x9 x10)) := hasg
    rw [seq_nx hasg]
    rw [if_t (g := B0) (tst_eq (op_eq (g := B0) (x := .str "tie") (y := .str "tie") rfl rfl (gEq_str ok_tie ok_tie)))]
    refine ⟨some (.str "tie"), some (.int u), x7, x8, x9, x10, ?_⟩
    have hin : tst (dOp (gIn true) (dVar 6) (dVar 4)) (oSt (planD p) (runD run) ((chains.take k).map tupI) (some (.int k)) (some (tupI seen)) (some (.str "tie")) (some (.int u)) x7 x8 x9 x10) = some (false, B0) := by
      refine tst_eq (op_eq (g := B0) (x := .int u) (y := tupI seen) rfl rfl ?_)
      rw [gIn_tup, if_pos rfl, decide_eq_true hu]
      rfl
    rw [seq_nx (δ1 := oSt (planD p) (runD run) ((chains.take k).map tupI) (some (.int k)) (some (tupI seen)) (some (.str "tie")) (some (.int u)) x7 x8 x9 x10) (Eq.trans (if_f (g := B0) hin) rfl)]
    rw [app_eq (ds := (chains.take k).map tupI) (own_ix (a := dVar 6) rfl rfl rfl (hs u hu).1 hcu) rfl (by simp; omega), ← hap]
    rfl
  | false =>
    obtain ⟨hu0, hul, hz0, hz1⟩ := hg rfl
    have hasg : sAsg (.many [5, 6]) (dOp gIx (dVar 1) (dVar 3)) (oSt (planD p) (runD run) ((chains.take k).map tupI) (some (.int k)) (some (tupI seen)) x5 x6 x7 x8 x9 x10) = some (.nx (oSt (planD p) (runD run) ((chains.take k).map tupI) (some (.int k)) (some (tupI seen)) (some (.str "gap")) (some (.int u)) x7 x8 x9 x10)) := hasg
    rw [seq_nx hasg]
    rw [if_f (g := B0) (tst_eq (op_eq (g := B0) (x := .str "gap") (y := .str "tie") rfl rfl (gEq_str ok_gap ok_tie)))]
    have hgr := groups_eq I hs
    have hlen : ((seen.map fun o => negs ((chains.take k).getD o.toNat [])).foldl insT []).length ≤ 40 := by
      have := insTs_len (seen.map fun o => negs ((chains.take k).getD o.toNat [])) []
      rw [List.length_map, List.length_nil, Nat.zero_add] at this
      omega
    have hne : ∀ ns ∈ (seen.map fun o => negs ((chains.take k).getD o.toNat [])).foldl insT [], ns ≠ [] := fun ns hns => by
      rcases (insTs_mem ns _ _).mp hns with h | h
      · cases h
      · obtain ⟨o, ho, rfl⟩ := List.mem_map.mp h
        obtain ⟨h0, h1⟩ := hs o ho
        obtain ⟨a, e, ha, he⟩ := I.has h0 h1
        have hm := List.mem_of_getElem? ha
        rw [List.getD_eq_getElem?_getD, (I.ch e hm o he).2.2]
        intro z
        exact (I.ne e hm).2.1 (by simpa [negs] using z)
    have hkeys : dKeys (iT (dVar 4)) (.one 9) (dFn 1 f_chain_key (aCons (dOwnIx 2 (dVar 9)) aNil)) [9] (oSt (planD p) (runD run) ((chains.take k).map tupI) (some (.int k)) (some (tupI seen)) (some (.str "gap")) (some (.int u)) x7 x8 x9 x10)
        = some (.list (((seen.map fun o => negs ((chains.take k).getD o.toNat [])).foldl insT []).map tupI), B0) := by
      have hf : free [9] (oSt (planD p) (runD run) ((chains.take k).map tupI) (some (.int k)) (some (tupI seen)) (some (.str "gap")) (some (.int u)) x7 x8 x9 x10) = true := by cases x9 <;> rfl
      unfold dKeys
      show (if (seen.map PyData.int).length ≤ sizeLine ∧ free [9] (oSt (planD p) (runD run) ((chains.take k).map tupI) (some (.int k)) (some (tupI seen)) (some (.str "gap")) (some (.int u)) x7 x8 x9 x10) = true ∧ within (Tg.slots (.one 9)) [9] = true then _ else none) = _
      rw [if_pos ⟨size_ok (by simp; omega), hf, rfl⟩, keys_eq (fun o => negs ((chains.take k).getD o.toNat [])) seen [] rfl]
      · intro o ho
        obtain ⟨h0, h1⟩ := hs o ho
        obtain ⟨a, e, ha, he⟩ := I.has h0 h1
        have hm := List.mem_of_getElem? ha
        have hoc := (I.ch e hm o he).2.2
        have hel := (I.ne e hm).2.2.1.len (by omega)
        rw [List.getD_eq_getElem?_getD, hoc, Option.getD_some]
        exact fn_eq (g := B0) (one_eq (own_ix (a := dVar 9) rfl rfl rfl h0 hoc)) rfl (chain_key_eq _ (by omega))
    have hsort : dCall gSortT (aCons (dKeys (iT (dVar 4)) (.one 9) (dFn 1 f_chain_key (aCons (dOwnIx 2 (dVar 9)) aNil)) [9]) aNil) (oSt (planD p) (runD run) ((chains.take k).map tupI) (some (.int k)) (some (tupI seen)) (some (.str "gap")) (some (.int u)) x7 x8 x9 x10)
        = some (rowD ((kr.filter fun e => hitB seen e.1).map fun e => negs e.2), B0) := by
      refine call_eq (one_eq hkeys) ?_
      rw [gSortT_eq _ hne (by omega), hgr]
      rfl
    generalize hL : ((kr.filter fun e => hitB seen e.1).map fun e => negs e.2) = L at hsort hz1 hgr
    have hLl : L.length = (kr.filter fun e => hitB seen e.1).length := by rw [← hL, List.length_map]
    have hL40 : L.length ≤ 40 := by rw [← hgr, sortT_len]; exact hlen
    rw [seq_nx (asg_one hsort rfl)]
    have hgt : tst (dOp gGt (dVar 6) (dCall gLen (aCons (dVar 7) aNil))) (oSt (planD p) (runD run) ((chains.take k).map tupI) (some (.int k)) (some (tupI seen)) (some (.str "gap")) (some (.int u)) (some (rowD L)) x8 x9 x10) = some (false, B0) := by
      refine tst_eq (op_eq (g := B0) (x := .int u) (y := .int L.length) rfl (call_eq (one_eq rfl) (gLen_mapL tupI L)) ?_)
      show some (PyData.bool (decide ((L.length : Int) < u))) = _
      rw [decide_eq_false (by omega)]
    rw [seq_nx (δ1 := oSt (planD p) (runD run) ((chains.take k).map tupI) (some (.int k)) (some (tupI seen)) (some (.str "gap")) (some (.int u)) (some (rowD L)) x8 x9 x10) (by
      refine Eq.trans (if_f (g := B0) hgt) ?_
      rfl)]
    have hah : ∃ c0, c = c0 ++ [(k : Int)] ∧ dIf (tst (dOp gEq (dVar 6) (dC (.int 0)))) (dTup aNil) (dCall gTuple (aCons (dLc (iT (dOp gIx (dVar 7) (dOp gSub (dVar 6) (dC (.int 1))))) (.one 10) tTrue (dUn gNeg (dVar 10)) [10]) aNil))
        (oSt (planD p) (runD run) ((chains.take k).map tupI) (some (.int k)) (some (tupI seen)) (some (.str "gap")) (some (.int u)) (some (rowD L)) x8 x9 x10) = some (tupI c0, B0) ∧ c0.length ≤ 40 := by
      by_cases hz : u = 0
      · refine ⟨[], hz0 hz, ?_, by simp⟩
        rw [ife_t (g := B0) (tst_eq (op_eq (g := B0) (x := .int u) (y := .int 0) rfl rfl (by rw [gEq_int, hz]; rfl)))]
        exact tup_eq (ds := []) rfl (by simp)
      · obtain ⟨c0, hc0, rfl⟩ := hz1 hz
        have hc0l : c0.length ≤ 40 := by
          have hm := List.mem_of_getElem? hc0
          rw [← hL] at hm
          obtain ⟨e, he, h5⟩ := List.mem_map.mp hm
          have := (I.ne e (List.mem_filter.mp he).1).2.2.1.len (by omega)
          rw [negs_inj h5] at this
          omega
        refine ⟨c0, rfl, ?_, hc0l⟩
        rw [ife_f (g := B0) (tst_eq (op_eq (g := B0) (x := .int u) (y := .int 0) rfl rfl (by rw [gEq_int]; simp [hz])))]
        have hx : dOp gIx (dVar 7) (dOp gSub (dVar 6) (dC (.int 1))) (oSt (planD p) (runD run) ((chains.take k).map tupI) (some (.int k)) (some (tupI seen)) (some (.str "gap")) (some (.int u)) (some (rowD L)) x8 x9 x10) = some (tupI (negs c0), B0) :=
          op_eq (g := B0) (x := rowD L) (y := .int (u - 1)) rfl (op_eq (g := B0) (x := .int u) (y := .int 1) rfl rfl rfl) (at_eq (by omega) (by rw [List.getElem?_map, hc0]; rfl))
        have hf : free [10] (oSt (planD p) (runD run) ((chains.take k).map tupI) (some (.int k)) (some (tupI seen)) (some (.str "gap")) (some (.int u)) (some (rowD L)) x8 x9 x10) = true := by cases x10 <;> rfl
        refine call_eq (ds := [.list (c0.map .int)]) (one_eq (dLc_eq (ds := (negs c0).map .int) (g := B0) ?_ (by simp [negs]; omega) hf rfl ?_)) rfl
        · show iT _ _ = _
          unfold iT bd
          rw [hx]
          rfl
        · have := lc_all (t := .one 10) (te := dUn gNeg (dVar 10)) (δ := { sl := wipeD (oSt (planD p) (runD run) ((chains.take k).map tupI) (some (.int k)) (some (tupI seen)) (some (.str "gap")) (some (.int u)) (some (rowD L)) x8 x9 x10).sl [10], bag := B0, bk := none }) .int (fun x => .int (-x)) (negs c0) fun x hx => ⟨_, rfl, rfl, rfl⟩
          refine this.trans ?_
          rw [show (negs c0).map (fun x => PyData.int (-x)) = (negs (negs c0)).map .int by unfold negs; simp, negs_negs]
    obtain ⟨c0, rfl, hah, hc0l⟩ := hah
    rw [seq_nx (asg_one hah rfl)]
    refine ⟨some (.str "gap"), some (.int u), some (rowD L), some (tupI c0), x9, x10, ?_⟩
    have hadd : dOp gAdd (dVar 8) (dTup (aCons (dVar 3) aNil)) (oSt (planD p) (runD run) ((chains.take k).map tupI) (some (.int k)) (some (tupI seen)) (some (.str "gap")) (some (.int u)) (some (rowD L)) (some (tupI c0)) x9 x10) = some (tupI (c0 ++ [(k : Int)]), B0) :=
      op_eq (g := B0) (x := tupI c0) (y := tupI [(k : Int)]) rfl (tup_eq (one_eq rfl) (by simp)) (gAdd_tup (by simp; omega))
    refine Eq.trans (app_eq (ds := (chains.take k).map tupI) hadd rfl (by simp; omega)) ?_
    rw [← hap]
    rfl
theorem own_chains_eq {p : List (List Int)} (hp : PlanOk p) (hl : p.length ≤ 40) {run : List Place} {kr : List (List Int × List Int)} {chains : List (List Int)} (R : Run p p.length run kr chains) : f_own_chains [planD p, runD run] = some (rowD chains) := by
  have L : ∃ δ', loopD (.many [3, 4]) (sSeq (sAsg (.many [5, 6]) (dOp gIx (dVar 1) (dVar 3)))
  (sIf (tst (dOp gEq (dVar 5) (dC (.str "tie")))) (sSeq (sIf (tst (dOp (gIn true) (dVar 6) (dVar 4))) (sRet (dC .none)) sNil)
  (sApp 2 (dOwnIx 2 (dVar 6)))) (sSeq (sAsg (.one 7) (dCall gSortT (aCons (dKeys (iT (dVar 4)) (.one 9) (dFn 1 f_chain_key (aCons (dOwnIx 2 (dVar 9)) aNil)) [9]) aNil)))
  (sSeq (sIf (tst (dOp gGt (dVar 6) (dCall gLen (aCons (dVar 7) aNil)))) (sRet (dC .none)) sNil)
  (sSeq (sAsg (.one 8) (dIf (tst (dOp gEq (dVar 6) (dC (.int 0)))) (dTup aNil) (dCall gTuple (aCons (dLc (iT (dOp gIx (dVar 7) (dOp gSub (dVar 6) (dC (.int 1))))) (.one 10) tTrue (dUn gNeg (dVar 10)) [10]) aNil))))
  (sApp 2 (dOp gAdd (dVar 8) (dTup (aCons (dVar 3) aNil)))))))))
      ((p.zipIdx 0).map fun q => .tuple [.int (q.2 : Nat), tupI q.1]) (oSt (planD p) (runD run) [] none none none none none none none none) = some (.nx δ') ∧ ∃ x3 x4 x5 x6 x7 x8 x9 x10, δ' = oSt (planD p) (runD run) ((chains.take (p.zipIdx 0).length).map tupI) x3 x4 x5 x6 x7 x8 x9 x10 := by
    refine loop_ind _ (p.zipIdx 0) (fun k δ => ∃ x3 x4 x5 x6 x7 x8 x9 x10, δ = oSt (planD p) (runD run) ((chains.take k).map tupI) x3 x4 x5 x6 x7 x8 x9 x10) ?_ _ ⟨none, none, none, none, none, none, none, none, rfl⟩
    rintro k ⟨seen, i⟩ hk δ ⟨x3, x4, x5, x6, x7, x8, x9, x10, rfl⟩
    have hi : i = k ∧ p[k]? = some seen := by
      rw [List.getElem?_zipIdx] at hk
      obtain ⟨s, h1, h2⟩ := Option.map_eq_some_iff.mp hk
      cases h2
      exact ⟨by omega, h1⟩
    obtain ⟨rfl, hks⟩ := hi
    have hklt := (List.getElem?_eq_some_iff.mp hks).1
    obtain ⟨y5, y6, y7, y8, y9, y10, e⟩ := own_body hp hl R.rl R.inv.len hks (R.at_ i hklt) x5 x6 x7 x8 x9 x10
    exact ⟨_, _, rfl, e, _, _, _, _, _, _, _, _, rfl⟩
  obtain ⟨δ', e, x3, x4, x5, x6, x7, x8, x9, x10, rfl⟩ := L
  rw [← enum_map tupI p 0] at e
  rw [zip_len, List.take_of_length_le (by rw [R.inv.len]; omega)] at e
  refine runP_rt (g := B0) ?_
  show d_own_chains ⟨[some (.dat (planD p)), some (.dat (runD run)), none, none, none, none, none, none, none, none, none], B0, none⟩ = _
  unfold d_own_chains
  rw [seq_nx (δ1 := oSt (planD p) (runD run) [] none none none none none none none none) rfl, seq_nx ((for_eq (g := B0) rfl).trans e)]
  rfl
end K71

set_option Elab.async false
set_option linter.all false
set_option maxRecDepth 100000
set_option maxHeartbeats 4000000
namespace K71
open PySem L2
theorem gIn_kind (b : Bool) : gIn false (.str (if b = true then "tie" else "gap")) (.tuple [.str "gap", .str "tie"]) = some (.bool true) := by
  cases b with
  | true => exact congrArg (fun b => some (PyData.bool b)) (by decide +kernel : ([PyData.str "gap", PyData.str "tie"].any fun e => PyData.eqv e (.str "tie")) = true)
  | false => exact congrArg (fun b => some (PyData.bool b)) (by decide +kernel : ([PyData.str "gap", PyData.str "tie"].any fun e => PyData.eqv e (.str "gap")) = true)
theorem is_place_eq {q : Place} (h0 : 0 ≤ q.2) (h1 : q.2 ≤ 40) : f_is_place [placeD q] = some (.bool true) := by
  refine runP_rt (g := B0) ?_
  show d_is_place ⟨[some (.dat (placeD q))], B0, none⟩ = _
  unfold d_is_place
  rw [seq_nx (δ1 := ⟨[some (.dat (placeD q))], B0, none⟩)]
  · refine ret_eq ?_
    have e1 : dOp (gIn false) (dOp gIx (dVar 0) (dC (.int 0))) (dTup (aCons (dC (.str "gap")) (aCons (dC (.str "tie")) aNil))) ⟨[some (.dat (placeD q))], B0, none⟩ = some (.bool true, B0) :=
      op_eq (g := B0) (op_eq (g := B0) (x := placeD q) (y := .int 0) rfl rfl rfl) (tup_eq (ds := [.str "gap", .str "tie"]) rfl (by simp)) (gIn_kind q.1)
    unfold dAnd bd
    rw [e1]
    refine fn_eq (g := B0) (ds := [.int q.2, .int 0, .int 40]) rfl rfl ?_
    rw [is_within_eq]
    simp [inR, h0, h1]
  · refine Eq.trans (if_f (g := B0) ?_) rfl
    rw [or_f (g := B0) rfl, or_f (g := B0)]
    · exact not_eq (b := true) rfl
    · exact tst_eq (op_eq (g := B0) (x := .int 2) (y := .int 2) (call_eq (one_eq rfl) rfl) rfl (gNe_2 2))
theorem Run.places {p : List (List Int)} (hp : PlanOk p) (hl : p.length ≤ 40) {run : List Place} {kr : List (List Int × List Int)} {chains : List (List Int)} (R : Run p p.length run kr chains) : ∀ q ∈ run, 0 ≤ q.2 ∧ q.2 ≤ 40 := by
  intro q hq
  obtain ⟨k, hk⟩ := List.mem_iff_getElem?.mp hq
  have hkl := (List.getElem?_eq_some_iff.mp hk).1
  rw [R.rl] at hkl
  obtain ⟨kr0, seen, q', c, I, h1, h2, h3, _, ht, hg⟩ := R.at_ k hkl
  have := h2.symm.trans hk
  cases this
  cases hb : q.1 with
  | true =>
    have := hp.at h1 (ht hb).1
    omega
  | false =>
    obtain ⟨g1, g2, _⟩ := hg hb
    have := I.sz
    have := List.length_filter_le (fun e : List Int × List Int => hitB seen e.1) kr0
    omega
theorem checked_eq {p : List (List Int)} (hp : PlanOk p) (hl : p.length ≤ 40) {run : List Place} {kr : List (List Int × List Int)} {chains : List (List Int)} (R : Run p p.length run kr chains) : f_checked_chains [planD p, runD run] = some (rowD chains) := by
  refine runP_rt (g := B0) ?_
  show d_checked_chains ⟨[some (.dat (planD p)), some (.dat (runD run)), none, none], B0, none⟩ = _
  unfold d_checked_chains
  have hrl := R.rl
  rw [seq_nx (δ1 := ⟨[some (.dat (planD p)), some (.dat (runD run)), none, none], B0, none⟩) (expr_eq (g := B0) (fn_eq (g := B0) (ds := [planD p]) rfl rfl (check_plan_eq hp hl))),
    seq_nx (δ1 := ⟨[some (.dat (planD p)), some (.dat (runD run)), none, none], B0, none⟩)]
  · rw [seq_nx (asg_one (g := B0) (δ := ⟨[some (.dat (planD p)), some (.dat (runD run)), none, none], B0, none⟩) (fn_eq (n := 2) (g := B0) (ds := [planD p, runD run]) rfl rfl (own_chains_eq hp hl R)) rfl)]
    rfl
  · refine Eq.trans (if_f (g := B0) ?_) rfl
    rw [or_f (g := B0) rfl, or_f (g := B0)]
    · refine not_eq (b := true) (tst_eq (call_eq (one_eq (dLc_eq (ds := run.map placeD) (g := B0) (es := run.map fun _ => .bool true) rfl (by simp; omega) rfl rfl ?_)) (gAll_true run)))
      refine lc_all placeD (fun _ => .bool true) run fun q hq => ⟨_, rfl, rfl, ?_⟩
      have := R.places hp hl q hq
      exact fn_eq (g := B0) (one_eq rfl) rfl (is_place_eq this.1 this.2)
    · refine tst_eq (op_eq (g := B0) (x := .int run.length) (y := .int p.length) (call_eq (one_eq rfl) (gLen_map placeD run)) (call_eq (one_eq rfl) (gLen_map tupI p)) ?_)
      rw [gNe_int, hrl]
      simp
def mNames (run : List Place) (chains : List (List Int)) : List (List Int × Option Int) := (chains.zipIdx 0).map fun x => (x.1, if (run.getD x.2 (false, 0)).1 = true then some (x.2 : Int) else none)
def namesD (ks : List (List Int × Option Int)) : PyData := .tuple (ks.map nameD)
theorem tie_names_eq {p : List (List Int)} (hp : PlanOk p) (hl : p.length ≤ 40) {run : List Place} {kr : List (List Int × List Int)} {chains : List (List Int)} (R : Run p p.length run kr chains) : f_tie_names [planD p, runD run] = some (namesD (mNames run chains)) := by
  refine runP_rt (g := B0) ?_
  show d_tie_names ⟨[some (.dat (planD p)), some (.dat (runD run)), none, none, none], B0, none⟩ = _
  unfold d_tie_names
  have hrl := R.rl
  have hcl := R.inv.len
  rw [seq_nx (asg_one (g := B0) (δ := ⟨[some (.dat (planD p)), some (.dat (runD run)), none, none, none], B0, none⟩) (fn_eq (n := 2) (g := B0) (ds := [planD p, runD run]) rfl rfl (checked_eq hp hl R)) rfl)]
  refine ret_eq (call_eq (ds := [.list ((mNames run chains).map nameD)]) (one_eq (dLc_eq (ds := (chains.zipIdx 0).map fun q => .tuple [.int (q.2 : Nat), tupI q.1]) (g := B0) ?_ (by simp; omega) rfl rfl ?_)) rfl)
  · rw [← enum_map]
    rfl
  · unfold mNames
    rw [List.map_map]
    refine lc_all _ _ _ fun x hx => ⟨⟨[some (.dat (planD p)), some (.dat (runD run)), some (.dat (rowD chains)), some (.dat (.int (x.2 : Nat))), some (.dat (tupI x.1))], B0, none⟩, rfl, rfl, ?_⟩
    obtain ⟨_, hx2⟩ := zip_mem _ _ _ hx
    have hlt := (List.getElem?_eq_some_iff.mp hx2).1
    have hr : run[x.2]? = some run[x.2] := List.getElem?_eq_getElem (by omega)
    refine tup_eq (ds := [tupI x.1, tieD (if (run.getD x.2 (false, 0)).1 = true then some (x.2 : Int) else none)]) (cons_eq (g := B0) rfl (one_eq ?_)) (by simp)
    have e1 : tst (dOp gEq (dOp gIx (dOp gIx (dVar 1) (dVar 3)) (dC (.int 0))) (dC (.str "tie"))) ⟨[some (.dat (planD p)), some (.dat (runD run)), some (.dat (rowD chains)), some (.dat (.int (x.2 : Nat))), some (.dat (tupI x.1))], B0, none⟩ = some ((run.getD x.2 (false, 0)).1, B0) := by
      rw [List.getD_eq_getElem?_getD, hr, Option.getD_some]
      generalize run[x.2] = q at hr
      obtain ⟨b, u⟩ := q
      refine tst_eq (op_eq (g := B0) (x := .str (if b = true then "tie" else "gap")) (y := .str "tie") (op_eq (g := B0) (x := placeD (b, u)) (y := .int 0) (op_eq (g := B0) (x := runD run) (y := .int (x.2 : Nat)) rfl rfl (at_eq (by omega) (by rw [List.getElem?_map, Int.toNat_natCast, hr]; rfl))) rfl rfl) rfl ?_)
      cases b with
      | true => exact gEq_str ok_tie ok_tie
      | false => exact gEq_str ok_gap ok_tie
    cases hb : (run.getD x.2 (false, 0)).1 with
    | true =>
      rw [hb] at e1
      exact Eq.trans (ife_t e1) rfl
    | false =>
      rw [hb] at e1
      exact Eq.trans (ife_f e1) rfl
theorem l_tie_names_eq {p : List (List Int)} (hl : p.length ≤ 40) {run : List Place} {kr : List (List Int × List Int)} {chains : List (List Int)} (R : Run p p.length run kr chains) : f_l_tie_names [runD run, rowD chains] = some (namesD (mNames run chains)) := by
  have hrl := R.rl
  have hcl := R.inv.len
  refine runP_rt (g := B0) (ret_eq (call_eq (ds := [.list ((mNames run chains).map nameD)]) (one_eq (dLc_eq (ds := (run.zipIdx 0).map fun q => .tuple [.int (q.2 : Nat), placeD q.1]) (g := B0) ?_ (by simp; omega) rfl rfl ?_)) rfl))
  · rw [← enum_map]
    rfl
  · have e0 : (mNames run chains).map nameD = (run.zipIdx 0).map fun x => nameD (chains.getD x.2 [], if x.1.1 = true then some (x.2 : Int) else none) := by
      unfold mNames
      rw [List.map_map]
      apply List.ext_getElem?
      intro i
      rw [List.getElem?_map, List.getElem?_map, List.getElem?_zipIdx, List.getElem?_zipIdx]
      by_cases hi : i < p.length
      · have h1 : run[i]? = some run[i] := List.getElem?_eq_getElem (by omega)
        have h2 : chains[i]? = some chains[i] := List.getElem?_eq_getElem (by omega)
        simp [h1, h2, List.getD_eq_getElem?_getD]
      · rw [List.getElem?_eq_none (by omega), List.getElem?_eq_none (by omega)]
        rfl
    rw [e0]
    refine lc_all _ _ _ fun x hx => ⟨⟨[some (.dat (runD run)), some (.dat (rowD chains)), some (.dat (.int (x.2 : Nat))), some (.dat (placeD x.1))], B0, none⟩, rfl, rfl, ?_⟩
    obtain ⟨_, hx2⟩ := zip_mem _ _ _ hx
    have hlt := (List.getElem?_eq_some_iff.mp hx2).1
    have hr : chains[x.2]? = some chains[x.2] := List.getElem?_eq_getElem (by omega)
    refine tup_eq (ds := [tupI (chains.getD x.2 []), tieD (if x.1.1 = true then some (x.2 : Int) else none)]) (cons_eq (g := B0) (op_eq (g := B0) (x := rowD chains) (y := .int (x.2 : Nat)) rfl rfl (by rw [List.getD_eq_getElem?_getD, hr]; exact gIx_row hr)) (one_eq ?_)) (by simp)
    have e1 := tst_tie (i := 3) (q := x.1) (δ := ⟨[some (.dat (runD run)), some (.dat (rowD chains)), some (.dat (.int (x.2 : Nat))), some (.dat (placeD x.1))], B0, none⟩) rfl
    cases hb : x.1.1 with
    | true =>
      rw [hb] at e1
      exact Eq.trans (ife_t e1) rfl
    | false =>
      rw [hb] at e1
      exact Eq.trans (ife_f e1) rfl
/-! ### the names are good, and no two alike -/
theorem scan_rise {b : Int} (hb : b ≤ 40) : ∀ {ns : List Int} {l : Int}, l < b → Rise b l ns → ∃ l', scan l (ns.map .int) = some l' ∧ l' < b
  | [], l, h, _ => ⟨l, rfl, h⟩
  | x :: xs, l, h, ⟨h1, h2, h3⟩ => by
    obtain ⟨l', e, h4⟩ := scan_rise hb h2 h3
    exact ⟨l', by rw [List.map_cons, scan, if_pos (by omega)]; exact e, h4⟩
theorem good_of {c : List Int} {t : Option Int} {b : Int} (hc : c ≠ []) (hb : 0 ≤ b ∧ b ≤ 40) (h : Rise b (-1) c) (ht : ∀ i, t = some i → b ≤ i ∧ i ≤ 39) : good (nameD (c, t)) = true := by
  obtain ⟨l, e, hl⟩ := scan_rise hb.2 (by omega) h
  show (!(c.map PyData.int).isEmpty && match scan (-1) (c.map PyData.int) with
    | some l => isN (tieD t) || inR (l + 1) 39 (tieD t)
    | none => false) = true
  rw [e]
  have h1 : (c.map PyData.int).isEmpty = false := by cases c with
    | nil => exact absurd rfl hc
    | cons _ _ => rfl
  rw [h1]
  cases t with
  | none => rfl
  | some i =>
    have := ht i rfl
    show (true && (false || inR (l + 1) 39 (.int i))) = true
    simp [inR]
    omega
theorem mNames_at {run : List Place} {chains : List (List Int)} {k : Nat} {c : List Int} {q : Place} (h : chains[k]? = some c) (h2 : run[k]? = some q) : (mNames run chains)[k]? = some (c, if q.1 = true then some (k : Int) else none) := by
  unfold mNames
  rw [List.getElem?_map, List.getElem?_zipIdx, h]
  simp [List.getD_eq_getElem?_getD, h2]
theorem Run.name {p : List (List Int)} (hl : p.length ≤ 40) {run : List Place} {kr : List (List Int × List Int)} {chains : List (List Int)} (R : Run p p.length run kr chains) {k : Nat} (hk : k < p.length) : ∃ c t, (mNames run chains)[k]? = some (c, t) ∧ chains[k]? = some c ∧ good (nameD (c, t)) = true ∧ c.length ≤ 40 ∧
    ((t = some (k : Int)) ∨ (t = none ∧ ∃ c0, c = c0 ++ [(k : Int)])) := by
  obtain ⟨kr0, seen, q, c, I, h1, h2, h3, h4, ht, hg⟩ := R.at_ k hk
  have hr : Rise p.length (-1) c := by
    obtain ⟨e, he, hi⟩ := R.inv.ex k hk
    have h5 := (R.inv.ch e he k hi).2.2
    rw [Int.toNat_natCast, h3] at h5
    rw [Option.some.inj h5]
    exact (R.inv.ne e he).2.2.1
  have hcl := hr.len (by omega)
  cases hb : q.1 with
  | true =>
    have hm := mNames_at h3 h2
    rw [hb, if_pos rfl] at hm
    refine ⟨c, _, hm, h3, good_of h4 (b := k) (by omega) (ht hb).2.2 fun i hi => ?_, by omega, .inl rfl⟩
    cases hi
    omega
  | false =>
    have hm := mNames_at h3 h2
    rw [hb, if_neg (by simp)] at hm
    refine ⟨c, _, hm, h3, good_of h4 (b := p.length) (by omega) hr (fun i hi => nomatch hi), by omega, .inr ⟨rfl, ?_⟩⟩
    obtain ⟨g1, g2, g3, g4⟩ := hg hb
    by_cases hz : q.2 = 0
    · exact ⟨[], g3 hz⟩
    · obtain ⟨c0, _, e⟩ := g4 hz
      exact ⟨c0, e⟩
theorem names_ne {c c' : List Int} {t t' : Option Int} {i j : Nat} (h : i ≠ j) (h1 : (t = some (i : Int)) ∨ (t = none ∧ ∃ c0, c = c0 ++ [(i : Int)])) (h2 : (t' = some (j : Int)) ∨ (t' = none ∧ ∃ c0, c' = c0 ++ [(j : Int)])) : (c, t) ≠ (c', t') := by
  intro z
  have z1 : c = c' := congrArg Prod.fst z
  have z2 : t = t' := congrArg Prod.snd z
  rcases h1 with rfl | ⟨rfl, c0, rfl⟩
  · rcases h2 with rfl | ⟨rfl, _⟩
    · have := Option.some.inj z2
      omega
    · cases z2
  · rcases h2 with rfl | ⟨rfl, c1, rfl⟩
    · cases z2
    · have := congrArg List.getLast? z1
      simp at this
      omega
end K71

set_option Elab.async false
set_option linter.all false
set_option maxRecDepth 100000
set_option maxHeartbeats 4000000
namespace K71
open PySem L2
/-! ### the law's equality -/
def isSt (d : PyData) : Dn := ⟨[some (.dat d), some (.dat d), none, none], B0, none⟩
theorem gEq_self {d : PyData} (h : SeqAt.shaped d = true) (h2 : PyData.eqv d d = true) : gEq d d = some (.bool true) := by
  unfold gEq
  rw [if_pos ⟨h, h⟩, h2]
theorem gNe_self {d : PyData} (h : SeqAt.shaped d = true) (h2 : PyData.eqv d d = true) : gNe d d = some (.bool false) := by
  unfold gNe
  rw [if_pos ⟨h, h⟩, h2]
  rfl
theorem sh_bool (b : Bool) : SeqAt.shaped (.bool b) = true := by simp [SeqAt.shaped, PyData.canLay0, PyData.depth]
theorem and_eq {a c : DE} {δ : Dn} {g : Bag} (h : a δ = some (.bool true, g)) : dAnd a c δ = c (δ.wb g) := by
  unfold dAnd bd
  rw [h]
theorem and_no {a c : DE} {δ : Dn} {g : Bag} (h : a δ = some (.bool false, g)) : dAnd a c δ = some (.bool false, g) := by
  unfold dAnd bd
  rw [h]
theorem small62 {n : Nat} (h : n ≤ 1000) : -(2 ^ 62 : Int) ≤ (n : Int) ∧ (n : Int) < (2 ^ 62 : Int) := by
  have h1 : (2 ^ 62 : Int) = 4611686018427387904 := by decide +kernel
  rw [h1]
  omega
theorem iR_eq {a : DE} {δ : Dn} {n : Nat} {g : Bag} (h : a δ = some (.int (n : Nat), g)) (hl : n ≤ 1000) : iR a δ = some (rangeD n, g) := by
  unfold iR bd
  rw [h]
  exact if_pos (small62 hl)
theorem is_int_eq (n : Nat) (i : Int) : f_l_is (n + 1) [.int i, .int i] = some (.bool true) := by
  refine runP_rt (g := B0) ?_
  show d_l_is (f_l_is n) (isSt (.int i)) = _
  unfold d_l_is
  rw [seq_nx (δ1 := isSt (.int i)) rfl, seq_nx (δ1 := isSt (.int i)) rfl]
  refine seq_rt (Eq.trans (if_t (g := B0) rfl) (ret_eq ?_))
  rw [and_eq (g := B0) rfl, and_eq (g := B0) rfl]
  exact op_eq (g := B0) (x := .int i) (y := .int i) rfl rfl (gEq_self (sh_int i) (by simp [PyData.eqv]))
theorem is_none_eq (n : Nat) : f_l_is (n + 1) [.none, .none] = some (.bool true) := rfl
theorem is_bool_eq (n : Nat) (b : Bool) : f_l_is (n + 1) [.bool b, .bool b] = some (.bool true) := by
  refine runP_rt (g := B0) ?_
  show d_l_is (f_l_is n) (isSt (.bool b)) = _
  unfold d_l_is
  rw [seq_nx (δ1 := isSt (.bool b)) rfl]
  refine seq_rt (Eq.trans (if_t (g := B0) rfl) (ret_eq ?_))
  rw [and_eq (g := B0) rfl]
  exact op_eq (g := B0) (x := .bool b) (y := .bool b) rfl rfl (gEq_self (sh_bool b) (by simp [PyData.eqv]))
theorem is_str_eq (n : Nat) (x : Str) (h : PyData.strOk x = true) : f_l_is (n + 1) [.str x, .str x] = some (.bool true) := by
  refine runP_rt (g := B0) ?_
  show d_l_is (f_l_is n) (isSt (.str x)) = _
  unfold d_l_is
  rw [seq_nx (δ1 := isSt (.str x)) rfl, seq_nx (δ1 := isSt (.str x)) rfl, seq_nx (δ1 := isSt (.str x)) rfl, seq_nx (δ1 := isSt (.str x)) rfl, seq_nx (δ1 := isSt (.str x)) rfl]
  refine ret_eq ?_
  rw [and_eq (g := B0) rfl]
  exact op_eq (g := B0) (x := .str x) (y := .str x) rfl rfl (gEq_self (sh_str h) (by simp [PyData.eqv]))
theorem is_tup_eq (n : Nat) (ds : List PyData) (hl : ds.length ≤ 1000) (h : ∀ d ∈ ds, f_l_is n [d, d] = some (.bool true)) : f_l_is (n + 1) [.tuple ds, .tuple ds] = some (.bool true) := by
  refine runP_rt (g := B0) ?_
  show d_l_is (f_l_is n) (isSt (.tuple ds)) = _
  unfold d_l_is
  rw [seq_nx (δ1 := isSt (.tuple ds)) rfl, seq_nx (δ1 := isSt (.tuple ds)) rfl, seq_nx (δ1 := isSt (.tuple ds)) rfl]
  refine seq_rt (Eq.trans (if_t (g := B0) rfl) ?_)
  rw [seq_nx (δ1 := isSt (.tuple ds))]
  · refine ret_eq ?_
    rw [and_eq (g := B0) (op_eq (g := B0) (x := .int ds.length) (y := .int ds.length) rfl rfl (gEq_self (sh_int _) (by simp [PyData.eqv])))]
    refine call_eq (one_eq (dLc_eq (ds := rangeD ds.length) (es := (List.range ds.length).map fun _ => .bool true) (g := B0) ?_ (by simpa [rangeD] using hl) rfl rfl ?_)) (gAll_true _)
    · exact iR_eq (n := ds.length) (call_eq (one_eq rfl) rfl) hl
    · refine lc_all (fun i : Nat => PyData.int (i : Nat)) (fun _ => .bool true) (List.range ds.length) fun i hi => ⟨⟨[some (.dat (.tuple ds)), some (.dat (.tuple ds)), some (.dat (.int (i : Nat))), none], B0, none⟩, rfl, rfl, ?_⟩
      have hi' := List.mem_range.mp hi
      have e : gIx (.tuple ds) (.int (i : Nat)) = some ds[i] := at_eq (by omega) (by simp [hi'])
      exact fn_eq (g := B0) (ds := [ds[i], ds[i]]) (cons_eq (g := B0) (op_eq (g := B0) rfl rfl e) (one_eq (op_eq (g := B0) rfl rfl e))) rfl (h _ (List.getElem_mem _))
  · refine Eq.trans (if_f (g := B0) ?_) rfl
    rw [or_f (g := B0) (tst_eq (op_eq (g := B0) (x := .bool true) (y := .bool true) rfl rfl (gNe_self (sh_bool _) (by simp [PyData.eqv]))))]
    exact tst_eq (op_eq (g := B0) (x := .bool false) (y := .bool false) rfl rfl (gNe_self (sh_bool _) (by simp [PyData.eqv])))
theorem is_ints_eq (n : Nat) (c : List Int) (hl : c.length ≤ 1000) : f_l_is (n + 2) [tupI c, tupI c] = some (.bool true) := is_tup_eq (n + 1) _ (by simpa using hl) fun d hd => by
  obtain ⟨i, _, rfl⟩ := List.mem_map.mp hd
  exact is_int_eq n i
theorem is_name_eq (n : Nat) (k : List Int × Option Int) (hl : k.1.length ≤ 1000) : f_l_is (n + 3) [nameD k, nameD k] = some (.bool true) := is_tup_eq (n + 2) _ (by simp) fun d hd => by
  rcases List.mem_cons.mp hd with rfl | hd
  · exact is_ints_eq n k.1 hl
  · have : d = tieD k.2 := by simpa using hd
    subst this
    cases k.2 with
    | none => rfl
    | some i => exact is_int_eq (n + 1) i
theorem is_names_eq (n : Nat) (ks : List (List Int × Option Int)) (hl : ks.length ≤ 1000) (h : ∀ k ∈ ks, k.1.length ≤ 1000) : f_l_is (n + 4) [namesD ks, namesD ks] = some (.bool true) := is_tup_eq (n + 3) _ (by simpa using hl) fun d hd => by
  obtain ⟨k, hk, rfl⟩ := List.mem_map.mp hd
  exact is_name_eq n k (h k hk)
theorem is_told_eq (n : Nat) {x : Str} (h : PyData.strOk x = true) : f_l_is (n + 2) [.tuple [.str "told", .str x], .tuple [.str "told", .str x]] = some (.bool true) := is_tup_eq (n + 1) _ (by simp) fun d hd => by
  rcases List.mem_cons.mp hd with rfl | hd
  · exact is_str_eq n _ (by decide +kernel)
  · have : d = .str x := by simpa using hd
    subst this
    exact is_str_eq n _ h
theorem is_no_eq (n : Nat) : f_l_is (n + 2) [.tuple [.str "none", .bool true], .tuple [.str "none", .bool true]] = some (.bool true) := is_tup_eq (n + 1) _ (by simp) fun d hd => by
  rcases List.mem_cons.mp hd with rfl | hd
  · exact is_str_eq n _ (by decide +kernel)
  · have : d = .bool true := by simpa using hd
    subst this
    exact is_bool_eq n _
theorem toldS_ok (a b : List Int) : PyData.strOk (toldS a b) = true := by
  unfold toldS
  split
  · decide +kernel
  · split
    · decide +kernel
    · decide +kernel
/-! ### where two items stand -/
theorem stands_eq {n : Nat} {kr : List (List Int × List Int)} {chains : List (List Int)} (I : Inv n kr chains) (hn : n ≤ 40) {i j : Nat} (hi : i < n) (hj : j < n) {c d : List Int} (hc : chains[i]? = some c) (hd : chains[j]? = some d) : f_l_stands [rowD (kr.map (·.1)), .int i, .int j] = some (.str (toldS c d)) := by
  obtain ⟨a, e, ha, hie⟩ := I.has (i := i) (by omega) (by omega)
  obtain ⟨b, f, hb, hjf⟩ := I.has (i := j) (by omega) (by omega)
  have h1 := I.home ha hie
  have h2 := I.home hb hjf
  have ec := (I.ch e (List.mem_of_getElem? ha) i hie).2.2
  have ed := (I.ch f (List.mem_of_getElem? hb) j hjf).2.2
  rw [Int.toNat_natCast, hc] at ec
  rw [Int.toNat_natCast, hd] at ed
  have ec := Option.some.inj ec
  have ed := Option.some.inj ed
  have hsz := I.sz
  have e1 : f_l_home [rowD (kr.map (·.1)), .int i] = some (.int (a : Nat)) := by
    rw [l_home_eq (by simp; omega) (G := e.1) (by rw [h1, List.getElem?_map, ha]; rfl) hie, h1]
  have e2 : f_l_home [rowD (kr.map (·.1)), .int j] = some (.int (b : Nat)) := by
    rw [l_home_eq (by simp; omega) (G := f.1) (by rw [h2, List.getElem?_map, hb]; rfl) hjf, h2]
  have ord : ∀ {a b : Nat} {e f : List Int × List Int}, kr[a]? = some e → kr[b]? = some f → a < b → HT.lexLt (negs e.2) (negs f.2) = true := fun {a b e f} ha hb h => by
    obtain ⟨la, ea⟩ := List.getElem?_eq_some_iff.mp ha
    obtain ⟨lb, eb⟩ := List.getElem?_eq_some_iff.mp hb
    have := List.pairwise_iff_getElem.mp I.srt a b la lb h
    rw [ea, eb] at this
    exact this
  refine runP_rt (g := B0) ?_
  show d_l_stands ⟨[some (.dat (rowD (kr.map (·.1)))), some (.dat (.int i)), some (.dat (.int j)), none, none], B0, none⟩ = _
  unfold d_l_stands
  rw [seq_nx (δ1 := ⟨[some (.dat (rowD (kr.map (·.1)))), some (.dat (.int i)), some (.dat (.int j)), some (.dat (.int (a : Nat))), none], B0, none⟩) (asg_one (fn_eq (g := B0) (ds := [rowD (kr.map (·.1)), .int i]) rfl rfl e1) rfl),
    seq_nx (δ1 := ⟨[some (.dat (rowD (kr.map (·.1)))), some (.dat (.int i)), some (.dat (.int j)), some (.dat (.int (a : Nat))), some (.dat (.int (b : Nat)))], B0, none⟩) (asg_one (fn_eq (g := B0) (ds := [rowD (kr.map (·.1)), .int j]) rfl rfl e2) rfl)]
  have t1 : tst (dOp gEq (dVar 3) (dVar 4)) ⟨[some (.dat (rowD (kr.map (·.1)))), some (.dat (.int i)), some (.dat (.int j)), some (.dat (.int (a : Nat))), some (.dat (.int (b : Nat)))], B0, none⟩ = some (decide (a = b), B0) := by
    refine tst_eq (op_eq (g := B0) (x := .int (a : Nat)) (y := .int (b : Nat)) rfl rfl ?_)
    rw [gEq_int]
    congr 2
    by_cases h : a = b
    · subst h; simp
    · have : ¬ (a : Int) = b := by omega
      simp [h, this]
  have t2 : tst (dOp gLt (dVar 3) (dVar 4)) ⟨[some (.dat (rowD (kr.map (·.1)))), some (.dat (.int i)), some (.dat (.int j)), some (.dat (.int (a : Nat))), some (.dat (.int (b : Nat)))], B0, none⟩ = some (decide (a < b), B0) := by
    refine tst_eq (op_eq (g := B0) (x := .int (a : Nat)) (y := .int (b : Nat)) rfl rfl ?_)
    show some (PyData.bool (decide ((a : Int) < b))) = _
    congr 2
    by_cases h : a < b
    · rw [decide_eq_true h, decide_eq_true (by omega)]
    · rw [decide_eq_false h, decide_eq_false (by omega)]
  unfold toldS
  by_cases h : a = b
  · subst h
    have : e = f := Option.some.inj (ha.symm.trans hb)
    subst this
    rw [if_pos (by rw [ec, ed])]
    exact seq_rt (Eq.trans (if_t (g := B0) (by rw [t1, decide_eq_true rfl])) rfl)
  · rw [seq_nx (Eq.trans (if_f (g := B0) (by rw [t1, decide_eq_false h])) rfl)]
    by_cases hlt : a < b
    · have hl := ord ha hb hlt
      rw [if_neg (fun z => by rw [← ec, ← ed, z, lex_irrefl] at hl; cases hl), ec, ed, if_pos hl]
      exact ret_eq (Eq.trans (ife_t (g := B0) (by rw [t2, decide_eq_true hlt])) rfl)
    · have hl := ord hb ha (by omega)
      rw [if_neg (fun z => by rw [← ec, ← ed, z, lex_irrefl] at hl; cases hl), ec, ed, if_neg (fun z => by
        have := lex_trans hl z
        rw [lex_irrefl] at this
        cases this)]
      exact ret_eq (Eq.trans (ife_f (g := B0) (by rw [t2, decide_eq_false hlt])) rfl)
end K71

set_option Elab.async false
set_option linter.all false
set_option maxRecDepth 100000
set_option maxHeartbeats 4000000
namespace K71
open PySem L2
/-! ### what is drawn -/
theorem gMod_eq {i m : Int} (h : 0 < m) : gMod (.int i) (.int m) = some (.int (i % m)) := if_pos (decide_eq_true h)
theorem gDiv_eq {i m : Int} (h : 0 < m ∧ m < 1073741824) : gDiv (.int i) (.int m) = some (.int (i / m)) := if_pos (decide_eq_true h)
theorem bagSet_eq {k : Nat} {j z : Int} {a : DE} {δ : Dn} {g g' : Bag} (h : a δ = some (.int z, g)) (hk : δ.bk = some k) (hs : bagSet g z j = some g') : sBagSet k j a δ = some (.nx (δ.wb g')) := by
  unfold sBagSet
  rw [h]
  simp only [hk, hs, if_true]
  rfl
abbrev dSt (m : Int) (x2 x3 : Option En) (g : Bag) : Dn := ⟨[none, some (.dat (.int m)), x2, x3], g, some 0⟩
theorem draw_eq (g : Bag) {m : Int} (h0 : 0 < m) (h1 : m < 1000) : ∃ r g', f_l_draw g [.int m] = some (.int r, g') ∧ 0 ≤ r ∧ r < m := by
  by_cases hg : 0 < g.g
  · refine ⟨g.g % m, { g with g := g.g / m }, runB_rt ?_, Int.emod_nonneg _ (by omega), Int.emod_lt_of_pos _ h0⟩
    show d_l_draw (dSt m none none g) = _
    unfold d_l_draw
    refine seq_rt (Eq.trans (if_t (g := g) (tst_eq (op_eq (g := g) (x := .int g.g) (y := .int 0) rfl rfl (congrArg (fun b => some (PyData.bool b)) (decide_eq_true hg))))) ?_)
    rw [seq_nx (asg_one (d := .int (g.g % m)) (g := g) (op_eq (g := g) (x := .int g.g) (y := .int m) (call_eq (one_eq rfl) rfl) rfl (gMod_eq h0)) rfl),
      seq_nx (bagSet_eq (z := g.g / m) (g := g) (g' := { g with g := g.g / m }) (op_eq (g := g) (x := .int g.g) (y := .int m) rfl rfl (gDiv_eq ⟨h0, by omega⟩)) rfl rfl)]
    rfl
  · obtain ⟨v1, hv1⟩ : ∃ v, v = ((g.s + (g.c + 1) * 7919) * 48271 + 11) % 2147483647 := ⟨_, rfl⟩
    obtain ⟨v2, hv2⟩ : ∃ v, v = (v1 * (v1 / 1009 + 69621) + (g.c + 1)) % 2147483629 := ⟨_, rfl⟩
    obtain ⟨v3, hv3⟩ : ∃ v, v = (v2 * (v2 / 2003 + 40692)) % 2147483399 := ⟨_, rfl⟩
    have b1 : 0 ≤ v1 ∧ v1 < 2147483647 := by rw [hv1]; exact ⟨Int.emod_nonneg _ (by decide), Int.emod_lt_of_pos _ (by decide)⟩
    have b2 : 0 ≤ v2 ∧ v2 < 2147483629 := by rw [hv2]; exact ⟨Int.emod_nonneg _ (by decide), Int.emod_lt_of_pos _ (by decide)⟩
    have p64 : (2 ^ 64 : Int) = 18446744073709551616 := by decide +kernel
    have g1 : { g with c := g.c + 1 } = (⟨g.s, g.c + 1, g.g⟩ : Bag) := rfl
    refine ⟨(v3 / 64) % m, ⟨g.s, g.c + 1, g.g⟩, runB_rt ?_, Int.emod_nonneg _ (by omega), Int.emod_lt_of_pos _ h0⟩
    show d_l_draw (dSt m none none g) = _
    unfold d_l_draw
    rw [seq_nx (δ1 := dSt m none none g) (Eq.trans (if_f (g := g) (tst_eq (op_eq (g := g) (x := .int g.g) (y := .int 0) rfl rfl (congrArg (fun b => some (PyData.bool b)) (decide_eq_false hg))))) rfl),
      seq_nx (δ1 := dSt m none none ⟨g.s, g.c + 1, g.g⟩) (bagSet_eq (z := g.c + 1) (g := g) (g' := ⟨g.s, g.c + 1, g.g⟩) (op_eq (g := g) (x := .int g.c) (y := .int 1) rfl rfl rfl) rfl rfl)]
    rw [seq_nx (δ1 := dSt m (some (.dat (.int v1))) none ⟨g.s, g.c + 1, g.g⟩) (by
      rw [hv1]
      refine asg_one (g := ⟨g.s, g.c + 1, g.g⟩) (op_eq (g := ⟨g.s, g.c + 1, g.g⟩) (y := .int 2147483647) (call_eq (d := .int ((g.s + (g.c + 1) * 7919) * 48271 + 11)) (one_eq (op_eq (g := ⟨g.s, g.c + 1, g.g⟩) (x := .int ((g.s + (g.c + 1) * 7919) * 48271)) (y := .int 11) (op_eq (g := ⟨g.s, g.c + 1, g.g⟩) (x := .int (g.s + (g.c + 1) * 7919)) (y := .int 48271) (op_eq (g := ⟨g.s, g.c + 1, g.g⟩) (x := .int g.s) (y := .int ((g.c + 1) * 7919)) rfl (op_eq (g := ⟨g.s, g.c + 1, g.g⟩) (x := .int (g.c + 1)) (y := .int 7919) rfl rfl (cMul_r (by decide))) rfl) rfl (cMul_r (by decide))) rfl rfl)) rfl) rfl (gMod_eq (by decide))) rfl)]
    rw [seq_nx (δ1 := dSt m (some (.dat (.int v2))) none ⟨g.s, g.c + 1, g.g⟩) (by
      rw [hv2]
      refine asg_one (g := ⟨g.s, g.c + 1, g.g⟩) (op_eq (g := ⟨g.s, g.c + 1, g.g⟩) (y := .int 2147483629) (call_eq (d := .int (v1 * (v1 / 1009 + 69621) + (g.c + 1))) (one_eq (op_eq (g := ⟨g.s, g.c + 1, g.g⟩) (x := .int (v1 * (v1 / 1009 + 69621))) (y := .int (g.c + 1)) (op_eq (g := ⟨g.s, g.c + 1, g.g⟩) (x := .int v1) (y := .int (v1 / 1009 + 69621)) rfl (op_eq (g := ⟨g.s, g.c + 1, g.g⟩) (x := .int (v1 / 1009)) (y := .int 69621) (op_eq (g := ⟨g.s, g.c + 1, g.g⟩) (x := .int v1) (y := .int 1009) rfl rfl (gDiv_eq (by decide))) rfl rfl) (cMul_l (by rw [p64]; omega))) rfl rfl)) rfl) rfl (gMod_eq (by decide))) rfl)]
    rw [seq_nx (δ1 := dSt m (some (.dat (.int v3))) none ⟨g.s, g.c + 1, g.g⟩) (by
      rw [hv3]
      refine asg_one (g := ⟨g.s, g.c + 1, g.g⟩) (op_eq (g := ⟨g.s, g.c + 1, g.g⟩) (y := .int 2147483399) (call_eq (d := .int (v2 * (v2 / 2003 + 40692))) (one_eq (op_eq (g := ⟨g.s, g.c + 1, g.g⟩) (x := .int v2) (y := .int (v2 / 2003 + 40692)) rfl (op_eq (g := ⟨g.s, g.c + 1, g.g⟩) (x := .int (v2 / 2003)) (y := .int 40692) (op_eq (g := ⟨g.s, g.c + 1, g.g⟩) (x := .int v2) (y := .int 2003) rfl rfl (gDiv_eq (by decide))) rfl rfl) (cMul_l (by rw [p64]; omega)))) rfl) rfl (gMod_eq (by decide))) rfl)]
    exact ret_eq (op_eq (g := ⟨g.s, g.c + 1, g.g⟩) (x := .int (v3 / 64)) (y := .int m) (call_eq (one_eq (op_eq (g := ⟨g.s, g.c + 1, g.g⟩) (x := .int v3) (y := .int 64) rfl rfl (gDiv_eq (by decide)))) rfl) rfl (gMod_eq h0))
theorem any_list (g : Bag) {ds : List PyData} (h : 0 < ds.length) (hl : ds.length < 1000) : ∃ d g', f_l_any g [.list ds] = some (d, g') ∧ d ∈ ds := by
  obtain ⟨r, g', e, h0, h1⟩ := draw_eq g (m := ds.length) (by omega) (by omega)
  have hr : ds[r.toNat]? = some (ds[r.toNat]'(by omega)) := List.getElem?_eq_getElem (by omega)
  exact ⟨_, g', runB_rt (ret_eq (op_eq (g := g) (x := .list ds) (y := .int r) rfl (bag_eq (g := g) (one_eq (call_eq (one_eq rfl) rfl)) rfl rfl e) (at_eq h0 hr))), List.getElem_mem _⟩
theorem any_tup (g : Bag) {ds : List PyData} (h : 0 < ds.length) (hl : ds.length < 1000) : ∃ d g', f_l_any g [.tuple ds] = some (d, g') ∧ d ∈ ds := by
  obtain ⟨r, g', e, h0, h1⟩ := draw_eq g (m := ds.length) (by omega) (by omega)
  have hr : ds[r.toNat]? = some (ds[r.toNat]'(by omega)) := List.getElem?_eq_getElem (by omega)
  exact ⟨_, g', runB_rt (ret_eq (op_eq (g := g) (x := .tuple ds) (y := .int r) rfl (bag_eq (g := g) (one_eq (call_eq (one_eq rfl) rfl)) rfl rfl e) (at_eq h0 hr))), List.getElem_mem _⟩

/-! ### a plan -/
theorem rise_of {b : Int} : ∀ {xs : List Int} {l : Int}, xs.Pairwise (· ≤ ·) → xs.Nodup → (∀ x ∈ xs, l < x ∧ x < b) → Rise b l xs
  | [], _, _, _, _ => trivial
  | x :: xs, l, h1, h2, h3 => by
    rw [List.pairwise_cons] at h1
    rw [List.nodup_cons] at h2
    have hx := h3 x List.mem_cons_self
    refine ⟨hx.1, hx.2, rise_of h1.2 h2.2 fun y hy => ⟨?_, (h3 y (List.mem_cons_of_mem _ hy)).2⟩⟩
    have := h1.1 y hy
    have : x ≠ y := fun z => h2.1 (z ▸ hy)
    omega
theorem sortI_perm (ks : List Int) : (sortI ks).Perm ks := List.mergeSort_perm ks _
theorem sortI_le (ks : List Int) : (sortI ks).Pairwise (· ≤ ·) := by
  have := List.pairwise_mergeSort (le := fun a b : Int => decide (a ≤ b)) (fun a b c h1 h2 => decide_eq_true (Int.le_trans (of_decide_eq_true h1) (of_decide_eq_true h2))) (fun a b => by simp; omega) ks
  exact this.imp fun h => of_decide_eq_true h
def KsIn (k : Nat) (ks : List Int) : Prop := ks.Nodup ∧ ∀ x ∈ ks, 0 ≤ x ∧ x < (k : Int)
theorem KsIn.rise {k : Nat} {ks : List Int} (h : KsIn k ks) : Rise k (-1) (sortI ks) := rise_of (sortI_le ks) ((sortI_perm ks).nodup_iff.mpr h.1) fun x hx => by
  have := h.2 x ((sortI_perm ks).mem_iff.mp hx)
  omega
theorem KsIn.len {k : Nat} {ks : List Int} (h : KsIn k ks) : ks.length ≤ k := by
  have h1 := h.rise.len (by omega)
  have h2 := (sortI_perm ks).length_eq
  omega
theorem KsIn.ins {k : Nat} {ks : List Int} (h : KsIn k ks) {x : Int} (h0 : 0 ≤ x ∧ x < (k : Int)) : KsIn k (insK ks x) := by
  refine ⟨?_, fun y hy => ?_⟩
  · unfold insK
    split
    · exact h.1
    · rename_i hx
      rw [List.nodup_append]
      refine ⟨h.1, by simp, fun a ha b hb => ?_⟩
      have : b = x := by simpa using hb
      subst this
      exact fun z => hx (z ▸ ha)
  · rcases (insK_mem ks x y).mp hy with hy | rfl
    · exact h.2 y hy
    · exact h0
theorem KsIn.inss {k : Nat} : ∀ {xs ks : List Int}, KsIn k ks → (∀ x ∈ xs, 0 ≤ x ∧ x < (k : Int)) → KsIn k (xs.foldl insK ks)
  | [], _, h, _ => h
  | x :: xs, ks, h, hx => KsIn.inss (xs := xs) (h.ins (hx x List.mem_cons_self)) fun y hy => hx y (List.mem_cons_of_mem _ hy)
theorem put_loop {k : Nat} (hk : k ≤ 40) (R F r a : Option En) : ∀ (xs ks : List Int) (b : Option En), KsIn k ks → (∀ x ∈ xs, 0 ≤ x ∧ x < (k : Int)) → ∃ b', loopD (.one 5) (sPutOkd 3 (dVar 5)) (xs.map .int) ⟨[R, F, r, some (.okd ks), a, b], B0, none⟩ = some (.nx ⟨[R, F, r, some (.okd (xs.foldl insK ks)), a, b'], B0, none⟩)
  | [], ks, b, _, _ => ⟨b, rfl⟩
  | x :: xs, ks, b, h, hx => by
    obtain ⟨b', e⟩ := put_loop hk R F r a xs (insK ks x) (some (.dat (.int x))) (h.ins (hx x List.mem_cons_self)) fun y hy => hx y (List.mem_cons_of_mem _ hy)
    refine ⟨b', ?_⟩
    rw [List.map_cons, loop_nx (δ1 := ⟨[R, F, r, some (.okd ks), a, some (.dat (.int x))], B0, none⟩) (δ2 := ⟨[R, F, r, some (.okd (insK ks x)), a, some (.dat (.int x))], B0, none⟩) rfl ?_]
    · exact e
    · have := h.len
      exact if_pos (size_lt (n := ks.length) (by omega))
def kOf (plan : List (List Int)) (items ks : List Int) : List Int := items.foldl (fun ks i => (plan.getD i.toNat []).foldl insK (insK ks i)) ks
theorem item_loop {k : Nat} (hk : k ≤ 40) {plan : List (List Int)} (hp : PlanOk plan) (hpl : plan.length = k) (R r : Option En) : ∀ (items ks : List Int) (a b : Option En), KsIn k ks → (∀ x ∈ items, 0 ≤ x ∧ x < (k : Int)) → KsIn k (kOf plan items ks) ∧ ∃ a' b', loopD (.one 4) (sSeq (sPutOkd 3 (dVar 4)) (sFor (iT (dOwnIx 1 (dVar 4))) (.one 5) (sPutOkd 3 (dVar 5))))
    (items.map .int) ⟨[R, some (.own (plan.map tupI)), r, some (.okd ks), a, b], B0, none⟩ = some (.nx ⟨[R, some (.own (plan.map tupI)), r, some (.okd (kOf plan items ks)), a', b'], B0, none⟩)
  | [], ks, a, b, h, _ => ⟨h, a, b, rfl⟩
  | x :: xs, ks, a, b, h, hx => by
    have h0 := hx x List.mem_cons_self
    have hrow : plan[x.toNat]? = some (plan[x.toNat]'(by omega)) := List.getElem?_eq_getElem (by omega)
    have hrow2 : plan.getD x.toNat [] = plan[x.toNat]'(by omega) := by rw [List.getD_eq_getElem?_getD, hrow]; rfl
    generalize plan[x.toNat]'(by omega) = row at hrow hrow2
    have hin : ∀ y ∈ row, 0 ≤ y ∧ y < (k : Int) := fun y hy => by
      have := hp.at hrow hy
      omega
    have k1 := h.ins h0
    have k2 : KsIn k (row.foldl insK (insK ks x)) := k1.inss hin
    obtain ⟨k3, a', b', e⟩ := item_loop hk hp hpl R r xs (row.foldl insK (insK ks x)) (some (.dat (.int x))) (put_loop hk R (some (.own (plan.map tupI))) r (some (.dat (.int x))) row (insK ks x) b k1 hin).choose k2 fun y hy => hx y (List.mem_cons_of_mem _ hy)
    have e0 := (put_loop hk R (some (.own (plan.map tupI))) r (some (.dat (.int x))) row (insK ks x) b k1 hin).choose_spec
    have ek : kOf plan (x :: xs) ks = kOf plan xs (row.foldl insK (insK ks x)) := by
      unfold kOf
      rw [List.foldl_cons, hrow2]
    rw [ek]
    refine ⟨k3, a', b', ?_⟩
    rw [List.map_cons, loop_nx (δ1 := ⟨[R, some (.own (plan.map tupI)), r, some (.okd ks), some (.dat (.int x)), b], B0, none⟩) rfl ?_]
    · exact e
    · rw [seq_nx (δ1 := ⟨[R, some (.own (plan.map tupI)), r, some (.okd (insK ks x)), some (.dat (.int x)), b], B0, none⟩)]
      · refine Eq.trans (for_eq (ds := row.map .int) (g := B0) ?_) e0
        have ei : dOwnIx 1 (dVar 4) ⟨[R, some (.own (plan.map tupI)), r, some (.okd (insK ks x)), some (.dat (.int x)), b], B0, none⟩ = some (tupI row, B0) := by
          have : atI (plan.map tupI) x = some (tupI row) := at_eq h0.1 (by rw [List.getElem?_map, hrow]; rfl)
          show (atI (plan.map tupI) x).map (·, B0) = _
          rw [this]
          rfl
        unfold iT bd
        rw [ei]
        rfl
      · have := h.len
        exact if_pos (size_lt (n := ks.length) (by omega))
theorem kOf_mem {k : Nat} {plan : List (List Int)} (hpl : plan.length = k) (y : Int) : ∀ (items ks : List Int), y ∈ kOf plan items ks ↔ y ∈ ks ∨ ∃ i ∈ items, y = i ∨ y ∈ plan.getD i.toNat []
  | [], ks => by simp [kOf]
  | x :: xs, ks => by
    have ih := kOf_mem hpl y xs ((plan.getD x.toNat []).foldl insK (insK ks x))
    have e : kOf plan (x :: xs) ks = kOf plan xs ((plan.getD x.toNat []).foldl insK (insK ks x)) := rfl
    rw [e, ih, insKs_mem, insK_mem]
    constructor
    · rintro (((h | h) | h) | ⟨i, hi, h⟩)
      · exact .inl h
      · exact .inr ⟨x, List.mem_cons_self, .inl h⟩
      · exact .inr ⟨x, List.mem_cons_self, .inr h⟩
      · exact .inr ⟨i, List.mem_cons_of_mem _ hi, h⟩
    · rintro (h | ⟨i, hi, h⟩)
      · exact .inl (.inl (.inl h))
      · rcases List.mem_cons.mp hi with rfl | hi
        · rcases h with h | h
          · exact .inl (.inl (.inr h))
          · exact .inl (.inr h)
        · exact .inr ⟨i, hi, h⟩
theorem PlanOk.snoc {plan : List (List Int)} (hp : PlanOk plan) {items : List Int} (hi : ∀ x ∈ items, 0 ≤ x ∧ x < (plan.length : Int)) (hk : KsIn plan.length (kOf plan items [])) : PlanOk (plan ++ [sortI (kOf plan items [])]) := by
  intro i seen h
  by_cases hlt : i < plan.length
  · rw [List.getElem?_append_left hlt] at h
    obtain ⟨h1, h2⟩ := hp i seen h
    refine ⟨h1, fun o ho => ?_⟩
    obtain ⟨row, h3, h4⟩ := h2 o ho
    have := (List.getElem?_eq_some_iff.mp h3).1
    exact ⟨row, by rw [List.getElem?_append_left this]; exact h3, h4⟩
  · have hlen := (List.getElem?_eq_some_iff.mp h).1
    rw [List.length_append] at hlen
    have : i = plan.length := by simp at hlen; omega
    subst this
    rw [List.getElem?_append_right (Nat.le_refl _), Nat.sub_self] at h
    have : seen = sortI (kOf plan items []) := by simpa using h.symm
    subst this
    refine ⟨hk.rise, fun o ho => ?_⟩
    have ho := (sortI_perm _).mem_iff.mp ho
    have h0 := hk.2 o ho
    have hr : plan[o.toNat]? = some (plan[o.toNat]'(by omega)) := List.getElem?_eq_getElem (by omega)
    generalize plan[o.toNat]'(by omega) = row at hr
    refine ⟨row, by rw [List.getElem?_append_left (by omega)]; exact hr, fun m hm => (sortI_perm _).mem_iff.mpr ((kOf_mem rfl m items []).mpr (.inr ?_))⟩
    rcases (kOf_mem rfl o items []).mp ho with z | ⟨i, hi1, hi2⟩
    · cases z
    · refine ⟨i, hi1, .inr ?_⟩
      rcases hi2 with rfl | hi2
      · rw [List.getD_eq_getElem?_getD, hr]
        exact hm
      · have hb := hi i hi1
        have hri : plan[i.toNat]? = some (plan[i.toNat]'(by omega)) := List.getElem?_eq_getElem (by omega)
        rw [List.getD_eq_getElem?_getD, hri] at hi2 ⊢
        obtain ⟨row', h3, h4⟩ := (hp _ _ hri).2 o hi2
        have := hr.symm.trans h3
        cases this
        exact h4 m hm
def rawD (rows : List (List Int)) : PyData := .list (rows.map fun r => .list (r.map .int))
theorem closed_eq {rows : List (List Int)} (hl : rows.length ≤ 40) (hr : ∀ (i : Nat) (r : List Int), rows[i]? = some r → ∀ x ∈ r, 0 ≤ x ∧ x < (i : Int)) : ∃ plan, f_l_closed [rawD rows] = some (planD plan) ∧ PlanOk plan ∧ plan.length = rows.length := by
  have L : ∃ δ', loopD (.one 2) (sSeq (sNewOkd 3)
  (sSeq (sFor (iL (dVar 2)) (.one 4)
  (sSeq (sPutOkd 3 (dVar 4))
  (sFor (iT (dOwnIx 1 (dVar 4))) (.one 5)
  (sPutOkd 3 (dVar 5)))))
  (sApp 1 (dCall gTuple (aCons (dCall gSorted (aCons (dOkdList 3) aNil)) aNil)))))
      (rows.map fun r => .list (r.map .int)) ⟨[some (.dat (rawD rows)), some (.own []), none, none, none, none], B0, none⟩ = some (.nx δ') ∧ ∃ (plan : List (List Int)) (x2 x3 x4 x5 : Option En), δ' = ⟨[some (.dat (rawD rows)), some (.own (plan.map tupI)), x2, x3, x4, x5], B0, none⟩ ∧ PlanOk plan ∧ plan.length = rows.length := by
    refine loop_ind _ rows (fun k δ => ∃ (plan : List (List Int)) (x2 x3 x4 x5 : Option En), δ = ⟨[some (.dat (rawD rows)), some (.own (plan.map tupI)), x2, x3, x4, x5], B0, none⟩ ∧ PlanOk plan ∧ plan.length = k) ?_ _ ⟨[], none, none, none, none, rfl, fun i seen h => by simp at h, rfl⟩
    rintro k r hk δ ⟨plan, x2, x3, x4, x5, rfl, hp, hpl⟩
    have hkl := (List.getElem?_eq_some_iff.mp hk).1
    have hin := hr k r hk
    obtain ⟨k3, a', b', e⟩ := item_loop (k := k) (by omega) hp hpl (some (.dat (rawD rows))) (some (.dat (.list (r.map .int)))) r [] x4 x5 ⟨List.nodup_nil, fun _ h => nomatch h⟩ hin
    refine ⟨_, _, rfl, ?_, plan ++ [sortI (kOf plan r [])], some (.dat (.list (r.map .int))), some (.okd (kOf plan r [])), a', b', rfl, hp.snoc (by rw [hpl]; exact hin) (by rw [hpl]; exact k3), by simp [hpl]⟩
    rw [seq_nx (δ1 := ⟨[some (.dat (rawD rows)), some (.own (plan.map tupI)), some (.dat (.list (r.map .int))), some (.okd []), x4, x5], B0, none⟩) rfl, seq_nx ((for_eq (g := B0) rfl).trans e)]
    refine Eq.trans (app_eq (ds := plan.map tupI) (d := tupI (sortI (kOf plan r []))) (g := B0) (call_eq (one_eq (call_eq (d := .list ((sortI (kOf plan r [])).map .int)) (ds := [.list ((kOf plan r []).map .int)]) (one_eq rfl) ?_)) rfl) rfl (by simp; omega)) ?_
    · show (asInts ((kOf plan r []).map .int)).map (fun ns => PyData.list ((sortI ns).map .int)) = _
      rw [asInts_ints]
      rfl
    · rw [List.map_append]
      rfl
  obtain ⟨δ', e, plan, x2, x3, x4, x5, rfl, hp, hpl⟩ := L
  refine ⟨plan, runP_rt (g := B0) ?_, hp, hpl⟩
  show d_l_closed ⟨[some (.dat (rawD rows)), none, none, none, none, none], B0, none⟩ = _
  unfold d_l_closed
  rw [seq_nx (δ1 := ⟨[some (.dat (rawD rows)), some (.own []), none, none, none, none], B0, none⟩) rfl, seq_nx ((for_eq (g := B0) rfl).trans e)]
  rfl
end K71

set_option Elab.async false
set_option linter.all false
set_option maxRecDepth 100000
set_option maxHeartbeats 4000000
namespace K71
open PySem L2
/-! ### a plan is drawn -/
theorem lc_sub {t : Tg} {tt : DT} {te : DE} {δ : Dn} : ∀ (xs : List Int) (g : Bag), (∀ x ∈ xs, ∀ g : Bag, ∃ δ1 b g', putTg t (.int x) (δ.wb g) = some δ1 ∧ tt δ1 = some (b, g') ∧ te (δ1.wb g') = some (.int x, g')) →
    ∃ (ys : List Int) (g' : Bag), lcD t tt te (xs.map .int) (δ.wb g) = some (ys.map .int, g') ∧ ∀ y ∈ ys, y ∈ xs
  | [], g, _ => ⟨[], g, rfl, fun _ h => nomatch h⟩
  | x :: xs, g, h => by
    obtain ⟨δ1, b, g1, h1, h2, h3⟩ := h x List.mem_cons_self g
    obtain ⟨ys, g', e, hy⟩ := lc_sub (t := t) (tt := tt) (te := te) (δ := δ) xs (match b with | true => g1 | false => g1) fun y hy => h y (List.mem_cons_of_mem _ hy)
    cases b with
    | false =>
      refine ⟨ys, g', ?_, fun y hy' => List.mem_cons_of_mem _ (hy y hy')⟩
      rw [List.map_cons, lcD, h1]
      simp only [h2]
      exact e
    | true =>
      refine ⟨x :: ys, g', ?_, fun y hy' => ?_⟩
      · rw [List.map_cons, lcD, h1]
        have e' : lcD t tt te (xs.map .int) ((δ.wb g).wb g1) = some (ys.map .int, g') := e
        simp only [h2, h3, e']
        rfl
      · rcases List.mem_cons.mp hy' with rfl | hy'
        · exact List.mem_cons_self
        · exact List.mem_cons_of_mem _ (hy y hy')
theorem frz_eq {i : Nat} {b : DS} {δ : Dn} {ds : List PyData} (h : slOwn i δ = some ds) : sFrz i b δ = b { δ with sl := δ.sl.set i (some (.dat (.list ds))) } := by
  unfold sFrz
  rw [h]
abbrev zSt (n : Nat) (x2 x3 x4 : Option En) (g : Bag) : Dn := ⟨[none, some (.dat (.int n)), x2, x3, x4, none], g, some 0⟩
def rawE (r : List Int) : PyData := .list (r.map .int)
theorem sized_eq (g : Bag) {n : Nat} (hn : n ≤ 9) : ∃ plan g', f_l_sized g [.int n] = some (planD plan, g') ∧ PlanOk plan ∧ plan.length = n := by
  obtain ⟨r, g1, e1, r0, r1⟩ := draw_eq g (m := 5) (by decide) (by decide)
  have L : ∃ δ', loopD (.one 4) (sApp 3 (dLc (iR (dVar 4)) (.one 5) (tAndD (tst (dOp gLt (dBag 0 1 f_l_draw (aCons (dC (.int 6)) aNil)) (dVar 2))) (tOrD (tst (dOp gLt (dVar 4) (dC (.int 9)))) (tst (dOp gGt (dVar 5) (dOp gSub (dVar 4) (dC (.int 5))))))) (dVar 5) [5]))
      ((List.range n).map fun i : Nat => .int (i : Nat)) (zSt n (some (.dat (.int (1 + r)))) (some (.own [])) none g1) = some (.nx δ') ∧ ∃ (rows : List (List Int)) (x4 : Option En) (g2 : Bag), δ' = zSt n (some (.dat (.int (1 + r)))) (some (.own (rows.map rawE))) x4 g2 ∧ rows.length = (List.range n).length ∧ ∀ (i : Nat) (r : List Int), rows[i]? = some r → ∀ x ∈ r, 0 ≤ x ∧ x < (i : Int) := by
    refine loop_ind (fun i : Nat => PyData.int (i : Nat)) (List.range n) (fun k δ => ∃ (rows : List (List Int)) (x4 : Option En) (g2 : Bag), δ = zSt n (some (.dat (.int (1 + r)))) (some (.own (rows.map rawE))) x4 g2 ∧ rows.length = k ∧ ∀ (i : Nat) (r : List Int), rows[i]? = some r → ∀ x ∈ r, 0 ≤ x ∧ x < (i : Int)) ?_ _ ⟨[], none, g1, rfl, rfl, fun i r h => by simp at h⟩
    rintro k x hk δ ⟨rows, x4, g2, rfl, hl, hr⟩
    have hkn : k < n := by
      have := (List.getElem?_eq_some_iff.mp hk).1
      simpa using this
    have : x = k := by
      rw [List.getElem?_range hkn] at hk
      exact (Option.some.inj hk).symm
    subst this
    have C : ∃ (ys : List Int) (g' : Bag), lcD (.one 5) (tAndD (tst (dOp gLt (dBag 0 1 f_l_draw (aCons (dC (.int 6)) aNil)) (dVar 2))) (tOrD (tst (dOp gLt (dVar 4) (dC (.int 9)))) (tst (dOp gGt (dVar 5) (dOp gSub (dVar 4) (dC (.int 5))))))) (dVar 5)
        (((List.range x).map fun i : Nat => (i : Int)).map .int) (zSt n (some (.dat (.int (1 + r)))) (some (.own (rows.map rawE))) (some (.dat (.int (x : Nat)))) g2) = some (ys.map .int, g') ∧ ∀ y ∈ ys, y ∈ ((List.range x).map fun i : Nat => (i : Int)) := by
      refine lc_sub (δ := zSt n (some (.dat (.int (1 + r)))) (some (.own (rows.map rawE))) (some (.dat (.int (x : Nat)))) g2) _ g2 fun y _ g3 => ?_
      obtain ⟨z, g4, e4, z0, z1⟩ := draw_eq g3 (m := 6) (by decide) (by decide)
      refine ⟨⟨[none, some (.dat (.int n)), some (.dat (.int (1 + r))), some (.own (rows.map rawE)), some (.dat (.int (x : Nat))), some (.dat (.int y))], g3, some 0⟩, decide (z < 1 + r), g4, rfl, ?_, rfl⟩
      have t1 : tst (dOp gLt (dBag 0 1 f_l_draw (aCons (dC (.int 6)) aNil)) (dVar 2)) ⟨[none, some (.dat (.int n)), some (.dat (.int (1 + r))), some (.own (rows.map rawE)), some (.dat (.int (x : Nat))), some (.dat (.int y))], g3, some 0⟩ = some (decide (z < 1 + r), g4) := tst_eq (op_eq (g := g4) (x := .int z) (y := .int (1 + r)) (bag_eq (g := g3) (one_eq rfl) rfl rfl e4) rfl rfl)
      cases hz : decide (z < 1 + r) with
      | false => rw [hz] at t1; exact and_f t1
      | true =>
        rw [hz] at t1
        refine Eq.trans (and_t t1) (or_t (tst_eq (op_eq (g := g4) (x := .int (x : Nat)) (y := .int 9) rfl rfl ?_)))
        exact congrArg (fun b => some (PyData.bool b)) (decide_eq_true (by omega))
    obtain ⟨ys, g', e, hy⟩ := C
    refine ⟨_, _, rfl, app_eq (ds := rows.map rawE) (d := rawE ys) (g := g') (dLc_eq (ds := rangeD x) (g := g2) (es := ys.map .int) (iR_eq rfl (by omega)) (by simp [rangeD]; omega) rfl rfl ?_) rfl (by simp; omega), rows ++ [ys], some (.dat (.int (x : Nat))), g', by rw [List.map_append]; rfl, by simp [hl], fun i s hs => ?_⟩
    · rw [List.map_map] at e
      exact e
    · by_cases hi : i < rows.length
      · rw [List.getElem?_append_left hi] at hs
        exact hr i s hs
      · have hlen := (List.getElem?_eq_some_iff.mp hs).1
        rw [List.length_append] at hlen
        have : i = rows.length := by simp at hlen; omega
        subst this
        rw [List.getElem?_append_right (Nat.le_refl _), Nat.sub_self] at hs
        have : s = ys := by simpa using hs.symm
        subst this
        intro y hy'
        obtain ⟨j, hj, rfl⟩ := List.mem_map.mp (hy y hy')
        have := List.mem_range.mp hj
        omega
  obtain ⟨δ', e, rows, x4, g2, rfl, hl, hr⟩ := L
  rw [List.length_range] at hl
  obtain ⟨plan, e2, hp, hpl⟩ := closed_eq (rows := rows) (by omega) hr
  refine ⟨plan, g2, runB_rt ?_, hp, by omega⟩
  show d_l_sized (zSt n none none none g) = _
  unfold d_l_sized
  refine Eq.trans (seq_nx (asg_one (d := .int (1 + r)) (g := g1) (op_eq (g := g) (x := .int 1) (y := .int r) rfl (bag_eq (g := g) (one_eq rfl) rfl rfl e1) rfl) rfl)) ?_
  refine Eq.trans (seq_nx (δ1 := zSt n (some (.dat (.int (1 + r)))) (some (.own [])) none g1) rfl) ?_
  refine Eq.trans (seq_nx ((for_eq (g := g1) (iR_eq rfl (by omega))).trans e)) ?_
  refine Eq.trans (frz_eq rfl) ?_
  exact ret_eq (fn_eq (g := g2) (ds := [rawD rows]) rfl rfl e2)
theorem plan_eq (g : Bag) {m : Nat} (hm : m ≤ 9) : ∃ plan g', f_l_plan g [.int m] = some (planD plan, g') ∧ PlanOk plan ∧ plan.length ≤ m := by
  obtain ⟨r, g1, e1, r0, r1⟩ := draw_eq g (m := (m : Int) + 1) (by omega) (by omega)
  have hr : r = (r.toNat : Int) := by omega
  obtain ⟨plan, g2, e2, hp, hl⟩ := sized_eq g1 (n := r.toNat) (by omega)
  refine ⟨plan, g2, runB_rt ?_, hp, by omega⟩
  rw [← hr] at e2
  exact ret_eq (bag_eq (g := g1) (ds := [.int r]) (one_eq (bag_eq (g := g) (ds := [.int ((m : Int) + 1)]) (one_eq (op_eq (g := g) (x := .int m) (y := .int 1) rfl rfl rfl)) rfl rfl e1)) rfl rfl e2)
end K71

set_option Elab.async false
set_option linter.all false
set_option maxRecDepth 100000
set_option maxHeartbeats 4000000
namespace K71
open PySem L2
/-! ### a run is drawn -/
theorem noL_ints : ∀ ns : List Int, noLs (ns.map .int) = true
  | [] => rfl
  | n :: ns => by
    rw [List.map_cons, noLs, noL, noL_ints ns]
    rfl
theorem noL_tup (ns : List Int) : noL (tupI ns) = true := by
  unfold tupI
  rw [noL]
  exact noL_ints ns
theorem appB_eq {i : Nat} {a : DE} {δ : Dn} {d : PyData} {ds : List PyData} {g : Bag} (ho : slOwn i δ = some ds) (h : a { δ with sl := δ.sl.set i (some (.dat (.list ds))) } = some (d, g)) (hl : ds.length ≤ 1000) (hn : noL d = true) (hs : sole i δ = true) : sAppB i a δ = some (.nx { sl := δ.sl.set i (some (.own (ds ++ [d]))), bag := g, bk := δ.bk }) := by
  unfold sAppB
  rw [ho]
  simp only [h, if_pos (show ds.length < sizeLine ∧ noL d = true ∧ sole i δ = true from ⟨size_lt hl, hn, hs⟩)]
abbrev rSt (P : PyData) (x2 x3 x4 x5 x6 x7 x8 : Option En) (g : Bag) : Dn := ⟨[none, some (.dat P), x2, x3, x4, x5, x6, x7, x8], g, some 0⟩
theorem gAdd_run {run : List Place} {q : Place} (h : run.length ≤ 100) : gAdd (runD run) (.tuple [placeD q]) = some (runD (run ++ [q])) := by
  show (if (run.map placeD).length + 1 ≤ sizeLine then _ else none) = _
  rw [if_pos (size_ok (by simp; omega))]
  unfold runD
  rw [List.map_append]
  rfl
theorem run_body {p : List (List Int)} (hp : PlanOk p) (hl : p.length ≤ 40) {k : Nat} {seen : List Int} (hk : p[k]? = some seen) {run : List Place} {kr : List (List Int × List Int)} {chains : List (List Int)} (R : Run p k run kr chains) (x7 x8 : Option En) (g : Bag) :
    ∃ run' kr' chains' y7 y8 g', Run p (k + 1) run' kr' chains' ∧
    (sSeq (sAsg (.one 7) (dFn 2 f_l_seen_groups (aCons (dVar 2) (aCons (dVar 6) aNil))))
  (sSeq (sAsg (.one 8) (dTup (aCons (dC (.str "gap")) (aCons (dBag 0 1 f_l_draw (aCons (dOp gAdd (dCall gLen (aCons (dVar 7) aNil)) (dC (.int 1))) aNil)) aNil))))
  (sSeq (sIf (tAndD (tst (dOp gGt (dCall gLen (aCons (dVar 6) aNil)) (dC (.int 0)))) (tst (dOp gLt (dBag 0 1 f_l_draw (aCons (dC (.int 5)) aNil)) (dC (.int 2))))) (sAsg (.one 8) (dTup (aCons (dC (.str "tie")) (aCons (dBag 0 1 f_l_any (aCons (dVar 6) aNil)) aNil)))) sNil)
  (sSeq (sAsg (.one 2) (dFn 4 f_l_put (aCons (dVar 2) (aCons (dVar 6) (aCons (dVar 5) (aCons (dVar 8) aNil))))))
  (sSeq (sAppB 4 (dFn 5 f_l_chain (aCons (dVar 2) (aCons (dVar 4) (aCons (dVar 6) (aCons (dVar 5) (aCons (dVar 8) aNil)))))))
  (sAsg (.one 3) (dOp gAdd (dVar 3) (dTup (aCons (dVar 8) aNil))))))))
    (rSt (planD p) (some (.dat (rowD (kr.map (·.1))))) (some (.dat (runD run))) (some (.own (chains.map tupI))) (some (.dat (.int (k : Nat)))) (some (.dat (tupI seen))) x7 x8 g)) =
    some (.nx (rSt (planD p) (some (.dat (rowD (kr'.map (·.1))))) (some (.dat (runD run'))) (some (.own (chains'.map tupI))) (some (.dat (.int (k : Nat)))) (some (.dat (tupI seen))) y7 y8 g')) := by
  have hkl := (List.getElem?_eq_some_iff.mp hk).1
  have hsl := hp.len hk
  have hsz := R.inv.sz
  have hms : (mSeen (kr.map (·.1)) seen).length ≤ k := by
    rw [HL_len]
    exact Nat.le_trans (List.length_filter_le _ _) hsz
  obtain ⟨r, g1, e1, r0, r1⟩ := draw_eq g (m := ((mSeen (kr.map (·.1)) seen).length : Int) + 1) (by omega) (by omega)
  have eS : f_l_seen_groups [rowD (kr.map (·.1)), tupI seen] = some (.list ((mSeen (kr.map (·.1)) seen).map fun k => .int (k : Nat))) := l_seen_eq (by simp; omega) (fun G hG => by
    obtain ⟨e, he, rfl⟩ := List.mem_map.mp hG
    have := (R.inv.ne e he).2.2.2
    omega)
  obtain ⟨S7, hS7⟩ : ∃ d, d = PyData.list ((mSeen (kr.map (·.1)) seen).map fun k => .int (k : Nat)) := ⟨_, rfl⟩
  -- the place
  have Q : ∃ (q : Place) (g' : Bag), PlaceOk (kr.map (·.1)) seen q ∧ (sIf (tAndD (tst (dOp gGt (dCall gLen (aCons (dVar 6) aNil)) (dC (.int 0)))) (tst (dOp gLt (dBag 0 1 f_l_draw (aCons (dC (.int 5)) aNil)) (dC (.int 2))))) (sAsg (.one 8) (dTup (aCons (dC (.str "tie")) (aCons (dBag 0 1 f_l_any (aCons (dVar 6) aNil)) aNil)))) sNil)
      (rSt (planD p) (some (.dat (rowD (kr.map (·.1))))) (some (.dat (runD run))) (some (.own (chains.map tupI))) (some (.dat (.int (k : Nat)))) (some (.dat (tupI seen))) (some (.dat S7)) (some (.dat (placeD (false, r)))) g1) =
      some (.nx (rSt (planD p) (some (.dat (rowD (kr.map (·.1))))) (some (.dat (runD run))) (some (.own (chains.map tupI))) (some (.dat (.int (k : Nat)))) (some (.dat (tupI seen))) (some (.dat S7)) (some (.dat (placeD q))) g')) := by
    have gapOk : PlaceOk (kr.map (·.1)) seen (false, r) := by
      unfold PlaceOk
      rw [if_neg (by simp)]
      exact ⟨r0, by omega⟩
    have t1 : tst (dOp gGt (dCall gLen (aCons (dVar 6) aNil)) (dC (.int 0))) (rSt (planD p) (some (.dat (rowD (kr.map (·.1))))) (some (.dat (runD run))) (some (.own (chains.map tupI))) (some (.dat (.int (k : Nat)))) (some (.dat (tupI seen))) (some (.dat S7)) (some (.dat (placeD (false, r)))) g1) = some (decide ((0 : Int) < (seen.length : Int)), g1) :=
      tst_eq (op_eq (g := g1) (x := .int (seen.length : Nat)) (y := .int 0) (call_eq (one_eq rfl) (gLen_map PyData.int seen)) rfl rfl)
    by_cases h0 : (0 : Int) < (seen.length : Int)
    · rw [decide_eq_true h0] at t1
      obtain ⟨z, g2, e2, z0, z1⟩ := draw_eq g1 (m := 5) (by decide) (by decide)
      have t2 : tst (dOp gLt (dBag 0 1 f_l_draw (aCons (dC (.int 5)) aNil)) (dC (.int 2))) (rSt (planD p) (some (.dat (rowD (kr.map (·.1))))) (some (.dat (runD run))) (some (.own (chains.map tupI))) (some (.dat (.int (k : Nat)))) (some (.dat (tupI seen))) (some (.dat S7)) (some (.dat (placeD (false, r)))) g1) = some (decide (z < 2), g2) :=
        tst_eq (op_eq (g := g2) (x := .int z) (y := .int 2) (bag_eq (g := g1) (one_eq rfl) rfl rfl e2) rfl rfl)
      by_cases h2 : z < 2
      · rw [decide_eq_true h2] at t2
        obtain ⟨d, g3, e3, hd⟩ := any_tup g2 (ds := seen.map .int) (by simp; omega) (by simp; omega)
        obtain ⟨u, hu, rfl⟩ := List.mem_map.mp hd
        refine ⟨(true, u), g3, ?_, ?_⟩
        · unfold PlaceOk
          rw [if_pos rfl]
          exact hu
        · refine Eq.trans (if_t (g := g2) (Eq.trans (and_t t1) t2)) ?_
          exact asg_one (d := placeD (true, u)) (g := g3) (tup_eq (ds := [.str "tie", .int u]) (g := g3) (cons_eq (g := g2) rfl (one_eq (bag_eq (g := g2) (ds := [tupI seen]) (one_eq rfl) rfl rfl e3))) (by simp)) rfl
      · rw [decide_eq_false h2] at t2
        exact ⟨(false, r), g2, gapOk, Eq.trans (if_f (g := g2) (Eq.trans (and_t t1) t2)) rfl⟩
    · rw [decide_eq_false h0] at t1
      exact ⟨(false, r), g1, gapOk, Eq.trans (if_f (g := g1) (and_f t1)) rfl⟩
  obtain ⟨q, g2, hq, eQ⟩ := Q
  obtain ⟨kr', f1, R', f2, f3⟩ := R.next hp hk hq
  have f2 := f2.resolve_right (by omega)
  have f3 := f3.resolve_right (by omega)
  rw [← f1] at f2 f3 R'
  refine ⟨run ++ [q], kr', _, some (.dat S7), some (.dat (placeD q)), g2, R', ?_⟩
  refine Eq.trans (seq_nx (δ1 := rSt (planD p) (some (.dat (rowD (kr.map (·.1))))) (some (.dat (runD run))) (some (.own (chains.map tupI))) (some (.dat (.int (k : Nat)))) (some (.dat (tupI seen))) (some (.dat S7)) x8 g) (by
    subst hS7
    exact asg_one (fn_eq (g := g) (ds := [rowD (kr.map (·.1)), tupI seen]) rfl rfl eS) rfl)) ?_
  refine Eq.trans (seq_nx (δ1 := rSt (planD p) (some (.dat (rowD (kr.map (·.1))))) (some (.dat (runD run))) (some (.own (chains.map tupI))) (some (.dat (.int (k : Nat)))) (some (.dat (tupI seen))) (some (.dat S7)) (some (.dat (placeD (false, r)))) g1) (by
    subst hS7
    exact asg_one (d := placeD (false, r)) (g := g1) (tup_eq (ds := [.str "gap", .int r]) (g := g1) (cons_eq (g := g) rfl (one_eq (bag_eq (g := g) (ds := [.int (((mSeen (kr.map (·.1)) seen).length : Int) + 1)]) (one_eq (op_eq (g := g) (x := .int ((mSeen (kr.map (·.1)) seen).length : Nat)) (y := .int 1) (call_eq (one_eq rfl) (gLen_mapL _ _)) rfl rfl)) rfl rfl e1))) (by simp)) rfl)) ?_
  refine Eq.trans (seq_nx eQ) ?_
  refine Eq.trans (seq_nx (δ1 := rSt (planD p) (some (.dat (rowD (kr'.map (·.1))))) (some (.dat (runD run))) (some (.own (chains.map tupI))) (some (.dat (.int (k : Nat)))) (some (.dat (tupI seen))) (some (.dat S7)) (some (.dat (placeD q))) g2) (asg_one (fn_eq (g := g2) (ds := [rowD (kr.map (·.1)), tupI seen, .int k, placeD q]) rfl rfl f2) rfl)) ?_
  refine Eq.trans (seq_nx (δ1 := rSt (planD p) (some (.dat (rowD (kr'.map (·.1))))) (some (.dat (runD run))) (some (.own ((chains ++ [mChain (kr'.map (·.1)) chains seen k q]).map tupI))) (some (.dat (.int (k : Nat)))) (some (.dat (tupI seen))) (some (.dat S7)) (some (.dat (placeD q))) g2) (by
    refine Eq.trans (appB_eq (ds := chains.map tupI) (d := tupI (mChain (kr'.map (·.1)) chains seen k q)) (g := g2) rfl (fn_eq (g := g2) (ds := [rowD (kr'.map (·.1)), rowD chains, tupI seen, .int k, placeD q]) rfl rfl f3) ?_ (noL_tup _) rfl) ?_
    · have := R.inv.len
      simp; omega
    · rw [List.map_append]
      rfl)) ?_
  have hrl := R.rl
  exact asg_one (d := runD (run ++ [q])) (g := g2) (op_eq (g := g2) (x := runD run) (y := .tuple [placeD q]) rfl (tup_eq (one_eq rfl) (by simp)) (gAdd_run (by omega))) rfl
theorem tie_run_eq (g : Bag) {p : List (List Int)} (hp : PlanOk p) (hl : p.length ≤ 40) : ∃ run kr chains g', Run p p.length run kr chains ∧ f_l_tie_run g [planD p] = some (.tuple [runD run, rowD (kr.map (·.1)), rowD chains], g') := by
  have L : ∃ δ', loopD (.many [5, 6]) (sSeq (sAsg (.one 7) (dFn 2 f_l_seen_groups (aCons (dVar 2) (aCons (dVar 6) aNil))))
  (sSeq (sAsg (.one 8) (dTup (aCons (dC (.str "gap")) (aCons (dBag 0 1 f_l_draw (aCons (dOp gAdd (dCall gLen (aCons (dVar 7) aNil)) (dC (.int 1))) aNil)) aNil))))
  (sSeq (sIf (tAndD (tst (dOp gGt (dCall gLen (aCons (dVar 6) aNil)) (dC (.int 0)))) (tst (dOp gLt (dBag 0 1 f_l_draw (aCons (dC (.int 5)) aNil)) (dC (.int 2))))) (sAsg (.one 8) (dTup (aCons (dC (.str "tie")) (aCons (dBag 0 1 f_l_any (aCons (dVar 6) aNil)) aNil)))) sNil)
  (sSeq (sAsg (.one 2) (dFn 4 f_l_put (aCons (dVar 2) (aCons (dVar 6) (aCons (dVar 5) (aCons (dVar 8) aNil))))))
  (sSeq (sAppB 4 (dFn 5 f_l_chain (aCons (dVar 2) (aCons (dVar 4) (aCons (dVar 6) (aCons (dVar 5) (aCons (dVar 8) aNil)))))))
  (sAsg (.one 3) (dOp gAdd (dVar 3) (dTup (aCons (dVar 8) aNil)))))))))
      ((p.zipIdx 0).map fun q => .tuple [.int (q.2 : Nat), tupI q.1]) (rSt (planD p) (some (.dat (rowD []))) (some (.dat (runD []))) (some (.own [])) none none none none g) = some (.nx δ') ∧
      ∃ (run : List Place) (kr : List (List Int × List Int)) (chains : List (List Int)) (x5 x6 x7 x8 : Option En) (g' : Bag), δ' = rSt (planD p) (some (.dat (rowD (kr.map (·.1))))) (some (.dat (runD run))) (some (.own (chains.map tupI))) x5 x6 x7 x8 g' ∧ Run p (p.zipIdx 0).length run kr chains := by
    refine loop_ind _ (p.zipIdx 0) (fun k δ => ∃ (run : List Place) (kr : List (List Int × List Int)) (chains : List (List Int)) (x5 x6 x7 x8 : Option En) (g' : Bag), δ = rSt (planD p) (some (.dat (rowD (kr.map (·.1))))) (some (.dat (runD run))) (some (.own (chains.map tupI))) x5 x6 x7 x8 g' ∧ Run p k run kr chains) ?_ _ ⟨[], [], [], none, none, none, none, g, rfl, Run.nil⟩
    rintro k ⟨seen, i⟩ hk δ ⟨run, kr, chains, x5, x6, x7, x8, g1, rfl, R⟩
    have hi : i = k ∧ p[i]? = some seen := by
      rw [List.getElem?_zipIdx] at hk
      obtain ⟨s, h1, h2⟩ := Option.map_eq_some_iff.mp hk
      cases h2
      refine ⟨by omega, ?_⟩
      rw [show 0 + k = k by omega]
      exact h1
    obtain ⟨rfl, h⟩ := hi
    obtain ⟨run', kr', chains', y7, y8, g2, R', e⟩ := run_body hp hl h R x7 x8 g1
    exact ⟨_, _, rfl, e, run', kr', chains', _, _, y7, y8, g2, rfl, R'⟩
  obtain ⟨δ', e, run, kr, chains, x5, x6, x7, x8, g', rfl, R⟩ := L
  rw [zip_len] at R
  refine ⟨run, kr, chains, g', R, runB_rt ?_⟩
  show d_l_tie_run (rSt (planD p) none none none none none none none g) = _
  unfold d_l_tie_run
  rw [← enum_map tupI p 0] at e
  refine Eq.trans (seq_nx (δ1 := rSt (planD p) (some (.dat (rowD []))) none none none none none none g) rfl) ?_
  refine Eq.trans (seq_nx (δ1 := rSt (planD p) (some (.dat (rowD []))) (some (.dat (runD []))) none none none none none g) rfl) ?_
  refine Eq.trans (seq_nx (δ1 := rSt (planD p) (some (.dat (rowD []))) (some (.dat (runD []))) (some (.own [])) none none none none g) rfl) ?_
  refine Eq.trans (seq_nx ((for_eq (g := g) rfl).trans e)) ?_
  refine Eq.trans (frz_eq rfl) ?_
  rfl
end K71

set_option Elab.async false
set_option linter.all false
set_option maxRecDepth 100000
set_option maxHeartbeats 4000000
namespace K71
open PySem L2
/-! ### all runs of a small plan -/
abbrev Fnd := List Place × List (List Int) × List (List Int)
def mPlaces (row : List (List Int)) (seen : List Int) : List Place := ((List.range ((mSeen row seen).length + 1)).map fun g : Nat => ((false, (g : Int)) : Place)) ++ seen.map fun o => ((true, o) : Place)
def mNext (n : Nat) (seen : List Int) (s : Fnd) (q : Place) : Fnd := (s.1 ++ [q], mPut s.2.1 seen n q, s.2.2 ++ [mChain (mPut s.2.1 seen n q) s.2.2 seen n q])
def mAll1 (n : Nat) (seen : List Int) (s : Fnd) : List Fnd := (mPlaces s.2.1 seen).map (mNext n seen s)
def mF (p : List (List Int)) : Nat → List Fnd
  | 0 => [([], [], [])]
  | n + 1 => (mF p n).flatMap (mAll1 n (p.getD n []))
def fndD (s : Fnd) : PyData := .tuple [runD s.1, rowD s.2.1, rowD s.2.2]
def IsRun (p : List (List Int)) (n : Nat) (s : Fnd) : Prop := ∃ kr : List (List Int × List Int), s.2.1 = kr.map (·.1) ∧ Run p n s.1 kr s.2.2
theorem places_ok {row : List (List Int)} {seen : List Int} {q : Place} (h : q ∈ mPlaces row seen) : PlaceOk row seen q := by
  unfold PlaceOk
  rcases List.mem_append.mp h with h | h
  · obtain ⟨g, hg, rfl⟩ := List.mem_map.mp h
    have := List.mem_range.mp hg
    rw [if_neg (by simp)]
    exact ⟨by simp, by simp; omega⟩
  · obtain ⟨o, ho, rfl⟩ := List.mem_map.mp h
    rw [if_pos rfl]
    exact ho
theorem IsRun.many {p : List (List Int)} {n : Nat} {s : Fnd} (h : IsRun p n s) (hp : PlanOk p) {seen : List Int} (hs : p[n]? = some seen) : (mSeen s.2.1 seen).length ≤ n ∧ seen.length ≤ n := by
  obtain ⟨kr, e, R⟩ := h
  constructor
  · rw [e, HL_len]
    exact Nat.le_trans (List.length_filter_le _ _) R.inv.sz
  · have := (hp n seen hs).1.len (by omega)
    omega
theorem IsRun.places {p : List (List Int)} {n : Nat} {s : Fnd} (h : IsRun p n s) (hp : PlanOk p) {seen : List Int} (hs : p[n]? = some seen) : (mPlaces s.2.1 seen).length ≤ 2 * n + 1 := by
  have := h.many hp hs
  unfold mPlaces
  simp
  omega
theorem mF_run {p : List (List Int)} (hp : PlanOk p) : ∀ n, n ≤ p.length → ∀ s ∈ mF p n, IsRun p n s
  | 0, _, s, hs => by
    have : s = ([], [], []) := by simpa [mF] using hs
    subst this
    exact ⟨[], rfl, Run.nil⟩
  | n + 1, hn, s, hs => by
    have hk : p[n]? = some (p.getD n []) := by rw [List.getD_eq_getElem?_getD, List.getElem?_eq_getElem (show n < p.length by omega)]; rfl
    obtain ⟨s0, h0, h1⟩ := List.mem_flatMap.mp hs
    obtain ⟨q, hq, rfl⟩ := List.mem_map.mp h1
    obtain ⟨kr, e, R⟩ := mF_run hp n (by omega) s0 h0
    have hq := places_ok hq
    rw [e] at hq
    obtain ⟨kr', e', R', _, _⟩ := R.next hp hk hq
    refine ⟨kr', ?_, ?_⟩
    · rw [e', ← e]
      rfl
    · rw [← e] at R'
      exact R'
def bnd : Nat → Nat
  | 0 => 1
  | n + 1 => (2 * n + 1) * bnd n
theorem flatMap_len {α β : Type} {f : α → List β} {c : Nat} : ∀ F : List α, (∀ s ∈ F, (f s).length ≤ c) → (F.flatMap f).length ≤ c * F.length
  | [], _ => by simp
  | s :: F, h => by
    rw [List.flatMap_cons, List.length_append, List.length_cons, Nat.mul_succ]
    have := flatMap_len F fun x hx => h x (List.mem_cons_of_mem _ hx)
    have := h s List.mem_cons_self
    omega
theorem mF_len {p : List (List Int)} (hp : PlanOk p) : ∀ n, n ≤ p.length → (mF p n).length ≤ bnd n
  | 0, _ => Nat.le_refl _
  | n + 1, hn => by
    have hk : p[n]? = some (p.getD n []) := by rw [List.getD_eq_getElem?_getD, List.getElem?_eq_getElem (show n < p.length by omega)]; rfl
    refine Nat.le_trans (flatMap_len (c := 2 * n + 1) (mF p n) fun s hs => ?_) (Nat.mul_le_mul_left _ (mF_len hp n (by omega)))
    unfold mAll1
    rw [List.length_map]
    exact (mF_run hp n (by omega) s hs).places hp hk
theorem bnd_le {n : Nat} (h : n ≤ 4) : bnd n ≤ 105 := by
  match n, h with
  | 0, _ => decide
  | 1, _ => decide
  | 2, _ => decide
  | 3, _ => decide
  | 4, _ => decide
theorem take_add {α : Type} {xs : List α} {j : Nat} {x : α} (h : xs[j]? = some x) : xs.take (j + 1) = xs.take j ++ [x] := by
  rw [List.take_succ, h]
  rfl
abbrev tSt (P F : PyData) (x3 x4 x5 x6 x7 x8 x9 x10 x11 : Option En) : Dn := ⟨[some (.dat P), some (.dat (.int 600)), some (.dat F), x3, x4, x5, x6, x7, x8, x9, x10, x11, none, none], B0, none⟩
theorem put_body {p : List (List Int)} (hp : PlanOk p) (hl : p.length ≤ 40) {k : Nat} {seen : List Int} (hk : p[k]? = some seen) {s : Fnd} (hs : IsRun p k s) (F : PyData) {acc : List Fnd} (ha : acc.length ≤ 300) (x9 x10 x11 : Option En) :
    ∃ y10 y11, loopD (.one 10) (sSeq (sAsg (.one 11) (dFn 4 f_l_put (aCons (dVar 7) (aCons (dVar 4) (aCons (dVar 3) (aCons (dVar 10) aNil))))))
  (sApp 5 (dTup (aCons (dOp gAdd (dVar 6) (dTup (aCons (dVar 10) aNil))) (aCons (dVar 11) (aCons (dOp gAdd (dVar 8) (dLst (aCons (dFn 5 f_l_chain (aCons (dVar 11) (aCons (dVar 8) (aCons (dVar 4) (aCons (dVar 3) (aCons (dVar 10) aNil)))))) aNil))) aNil))))))
      ((mPlaces s.2.1 seen).map placeD) (tSt (planD p) F (some (.dat (.int (k : Nat)))) (some (.dat (tupI seen))) (some (.own (acc.map fndD))) (some (.dat (runD s.1))) (some (.dat (rowD s.2.1))) (some (.dat (rowD s.2.2))) x9 x10 x11) =
    some (.nx (tSt (planD p) F (some (.dat (.int (k : Nat)))) (some (.dat (tupI seen))) (some (.own ((acc ++ mAll1 k seen s).map fndD))) (some (.dat (runD s.1))) (some (.dat (rowD s.2.1))) (some (.dat (rowD s.2.2))) x9 y10 y11)) := by
  have hkl := (List.getElem?_eq_some_iff.mp hk).1
  have hpl := hs.places hp hk
  obtain ⟨kr, e, R⟩ := hs
  have L := loop_ind placeD (t := .one 10) (body := (sSeq (sAsg (.one 11) (dFn 4 f_l_put (aCons (dVar 7) (aCons (dVar 4) (aCons (dVar 3) (aCons (dVar 10) aNil))))))
  (sApp 5 (dTup (aCons (dOp gAdd (dVar 6) (dTup (aCons (dVar 10) aNil))) (aCons (dVar 11) (aCons (dOp gAdd (dVar 8) (dLst (aCons (dFn 5 f_l_chain (aCons (dVar 11) (aCons (dVar 8) (aCons (dVar 4) (aCons (dVar 3) (aCons (dVar 10) aNil)))))) aNil))) aNil))))))) (mPlaces s.2.1 seen)
    (fun j δ => ∃ y10 y11, δ = tSt (planD p) F (some (.dat (.int (k : Nat)))) (some (.dat (tupI seen))) (some (.own ((acc ++ ((mPlaces s.2.1 seen).take j).map (mNext k seen s)).map fndD))) (some (.dat (runD s.1))) (some (.dat (rowD s.2.1))) (some (.dat (rowD s.2.2))) x9 y10 y11) (by
    rintro j q hq δ ⟨y10, y11, rfl⟩
    have hjl := (List.getElem?_eq_some_iff.mp hq).1
    have hq' := places_ok (List.mem_of_getElem? hq)
    rw [e] at hq'
    obtain ⟨kr', e', R', f2, f3⟩ := R.next hp hk hq'
    have f2 := f2.resolve_right (by omega)
    have f3 := f3.resolve_right (by omega)
    rw [← e] at f2 f3
    have hrl := R.rl
    have hcl := R.inv.len
    refine ⟨_, _, rfl, ?_, some (.dat (placeD q)), some (.dat (rowD (mPut s.2.1 seen k q))), rfl⟩
    refine Eq.trans (seq_nx (asg_one (fn_eq (g := B0) (ds := [rowD s.2.1, tupI seen, .int k, placeD q]) rfl rfl f2) rfl)) ?_
    refine Eq.trans (app_eq (ds := (acc ++ ((mPlaces s.2.1 seen).take j).map (mNext k seen s)).map fndD) (d := fndD (mNext k seen s q)) (g := B0) (tup_eq (ds := [runD (s.1 ++ [q]), rowD (mPut s.2.1 seen k q), rowD (s.2.2 ++ [mChain (mPut s.2.1 seen k q) s.2.2 seen k q])]) (cons_eq (g := B0) (op_eq (g := B0) (x := runD s.1) (y := .tuple [placeD q]) rfl (tup_eq (one_eq rfl) (by simp)) (gAdd_run (by omega))) (cons_eq (g := B0) rfl (one_eq (op_eq (g := B0) (x := rowD s.2.2) (y := rowD [mChain (mPut s.2.1 seen k q) s.2.2 seen k q]) rfl (lst_eq (ds := [tupI (mChain (mPut s.2.1 seen k q) s.2.2 seen k q)]) (one_eq (fn_eq (g := B0) (ds := [rowD (mPut s.2.1 seen k q), rowD s.2.2, tupI seen, .int k, placeD q]) rfl rfl f3)) (by simp)) (gAdd_row (by simp; omega)))))) (by simp)) rfl ?_) ?_
    · simp
      omega
    · rw [take_add hq, List.map_append, List.map_append, List.map_append, List.map_append, List.append_assoc]
      rfl) (tSt (planD p) F (some (.dat (.int (k : Nat)))) (some (.dat (tupI seen))) (some (.own (acc.map fndD))) (some (.dat (runD s.1))) (some (.dat (rowD s.2.1))) (some (.dat (rowD s.2.2))) x9 x10 x11) ⟨x10, x11, by simp⟩
  obtain ⟨δ', e2, y10, y11, rfl⟩ := L
  refine ⟨y10, y11, ?_⟩
  rw [List.take_length] at e2
  exact e2
end K71

set_option Elab.async false
set_option linter.all false
set_option maxRecDepth 100000
set_option maxHeartbeats 4000000
namespace K71
open PySem L2
theorem zip_at {α : Type} {xs : List α} {k i : Nat} {x : α} (hk : (xs.zipIdx 0)[k]? = some (x, i)) : i = k ∧ xs[i]? = some x := by
  rw [List.getElem?_zipIdx] at hk
  obtain ⟨s, h1, h2⟩ := Option.map_eq_some_iff.mp hk
  cases h2
  refine ⟨by omega, ?_⟩
  rw [show 0 + k = k by omega]
  exact h1
theorem gAdd_l {a b : List PyData} (h : a.length + b.length ≤ 1000) : gAdd (.list a) (.list b) = some (.list (a ++ b)) := if_pos (size_ok h)
theorem iL_eq {a : DE} {δ : Dn} {ds : List PyData} {g : Bag} (h : a δ = some (.list ds, g)) : iL a δ = some (ds, g) := by
  unfold iL bd
  rw [h]
theorem iT_eq {a : DE} {δ : Dn} {ds : List PyData} {g : Bag} (h : a δ = some (.tuple ds, g)) : iT a δ = some (ds, g) := by
  unfold iT bd
  rw [h]
/-- the places of one run -/
theorem places1 {seen : List Int} {m : Nat} (hm : m ≤ 100) (P F : PyData) (x3 x5 x6 x7 x8 x10 x11 : Option En) : dLc (iR (dOp gAdd (dVar 9) (dC (.int 1)))) (.one 12) tTrue (dTup (aCons (dC (.str "gap")) (aCons (dVar 12) aNil))) [12] (tSt P F x3 (some (.dat (tupI seen))) x5 x6 x7 x8 (some (.dat (.int (m : Nat)))) x10 x11) =
    some (.list ((List.range (m + 1)).map fun g : Nat => placeD (false, (g : Int))), B0) := by
  refine dLc_eq (ds := rangeD (m + 1)) (g := B0) (iR_eq (n := m + 1) (op_eq (g := B0) (x := .int (m : Nat)) (y := .int 1) rfl rfl rfl) (by omega)) (by simp [rangeD]; omega) rfl rfl ?_
  refine lc_all (fun i : Nat => PyData.int (i : Nat)) (fun g : Nat => placeD (false, (g : Int))) (List.range (m + 1)) fun g _ => ⟨_, rfl, rfl, ?_⟩
  exact tup_eq (ds := [.str "gap", .int (g : Nat)]) rfl (by simp)
theorem places2 {seen : List Int} {m : Nat} (hs : seen.length ≤ 100) (P F : PyData) (x3 x5 x6 x7 x8 x10 x11 : Option En) : dLc (iT (dVar 4)) (.one 13) tTrue (dTup (aCons (dC (.str "tie")) (aCons (dVar 13) aNil))) [13] (tSt P F x3 (some (.dat (tupI seen))) x5 x6 x7 x8 (some (.dat (.int (m : Nat)))) x10 x11) =
    some (.list (seen.map fun o => placeD (true, o)), B0) := by
  refine dLc_eq (ds := seen.map .int) (g := B0) rfl (by simp; omega) rfl rfl ?_
  refine lc_all PyData.int (fun o => placeD (true, o)) seen fun o _ => ⟨_, rfl, rfl, ?_⟩
  exact tup_eq (ds := [.str "tie", .int o]) rfl (by simp)
theorem places3 {seen : List Int} {m : Nat} (hm : m ≤ 100) (hs : seen.length ≤ 100) : gAdd (.list ((List.range (m + 1)).map fun g : Nat => placeD (false, (g : Int)))) (.list (seen.map fun o => placeD (true, o))) = some (.list ((((List.range (m + 1)).map fun g : Nat => ((false, (g : Int)) : Place)) ++ seen.map fun o => ((true, o) : Place)).map placeD)) := by
  rw [gAdd_l (by simp; omega), List.map_append, List.map_map, List.map_map]
  rfl
theorem places_eq {seen : List Int} {m : Nat} (hm : m ≤ 100) (hs : seen.length ≤ 100) (P F : PyData) (x3 x5 x6 x7 x8 x10 x11 : Option En) :
    iL (dOp gAdd (dLc (iR (dOp gAdd (dVar 9) (dC (.int 1)))) (.one 12) tTrue (dTup (aCons (dC (.str "gap")) (aCons (dVar 12) aNil))) [12]) (dLc (iT (dVar 4)) (.one 13) tTrue (dTup (aCons (dC (.str "tie")) (aCons (dVar 13) aNil))) [13]))
      (tSt P F x3 (some (.dat (tupI seen))) x5 x6 x7 x8 (some (.dat (.int (m : Nat)))) x10 x11) = some ((((List.range (m + 1)).map fun g : Nat => ((false, (g : Int)) : Place)) ++ seen.map fun o => ((true, o) : Place)).map placeD, B0) :=
  iL_eq (op_eq (f := gAdd) (places1 hm P F x3 x5 x6 x7 x8 x10 x11) (places2 hs P F x3 x5 x6 x7 x8 x10 x11) (places3 hm hs))
theorem mid_body {p : List (List Int)} (hp : PlanOk p) (hl : p.length ≤ 4) {k : Nat} {seen : List Int} (hk : p[k]? = some seen) (F : List Fnd) (hF : ∀ s ∈ F, IsRun p k s) (hFl : (2 * k + 1) * F.length ≤ 200) (x6 x7 x8 x9 x10 x11 : Option En) :
    ∃ y6 y7 y8 y9 y10 y11, loopD (.many [6, 7, 8]) (sSeq (sAsg (.one 9) (dCall gLen (aCons (dFn 2 f_l_seen_groups (aCons (dVar 7) (aCons (dVar 4) aNil))) aNil)))
  (sFor (iL (dOp gAdd (dLc (iR (dOp gAdd (dVar 9) (dC (.int 1)))) (.one 12) tTrue (dTup (aCons (dC (.str "gap")) (aCons (dVar 12) aNil))) [12]) (dLc (iT (dVar 4)) (.one 13) tTrue (dTup (aCons (dC (.str "tie")) (aCons (dVar 13) aNil))) [13]))) (.one 10)
  (sSeq (sAsg (.one 11) (dFn 4 f_l_put (aCons (dVar 7) (aCons (dVar 4) (aCons (dVar 3) (aCons (dVar 10) aNil))))))
  (sApp 5 (dTup (aCons (dOp gAdd (dVar 6) (dTup (aCons (dVar 10) aNil))) (aCons (dVar 11) (aCons (dOp gAdd (dVar 8) (dLst (aCons (dFn 5 f_l_chain (aCons (dVar 11) (aCons (dVar 8) (aCons (dVar 4) (aCons (dVar 3) (aCons (dVar 10) aNil)))))) aNil))) aNil))))))))
      (F.map fndD) (tSt (planD p) (.list (F.map fndD)) (some (.dat (.int (k : Nat)))) (some (.dat (tupI seen))) (some (.own [])) x6 x7 x8 x9 x10 x11) =
    some (.nx (tSt (planD p) (.list (F.map fndD)) (some (.dat (.int (k : Nat)))) (some (.dat (tupI seen))) (some (.own ((F.flatMap (mAll1 k seen)).map fndD))) y6 y7 y8 y9 y10 y11)) := by
  have hkl := (List.getElem?_eq_some_iff.mp hk).1
  have L := loop_ind fndD (t := .many [6, 7, 8]) (body := (sSeq (sAsg (.one 9) (dCall gLen (aCons (dFn 2 f_l_seen_groups (aCons (dVar 7) (aCons (dVar 4) aNil))) aNil)))
  (sFor (iL (dOp gAdd (dLc (iR (dOp gAdd (dVar 9) (dC (.int 1)))) (.one 12) tTrue (dTup (aCons (dC (.str "gap")) (aCons (dVar 12) aNil))) [12]) (dLc (iT (dVar 4)) (.one 13) tTrue (dTup (aCons (dC (.str "tie")) (aCons (dVar 13) aNil))) [13]))) (.one 10)
  (sSeq (sAsg (.one 11) (dFn 4 f_l_put (aCons (dVar 7) (aCons (dVar 4) (aCons (dVar 3) (aCons (dVar 10) aNil))))))
  (sApp 5 (dTup (aCons (dOp gAdd (dVar 6) (dTup (aCons (dVar 10) aNil))) (aCons (dVar 11) (aCons (dOp gAdd (dVar 8) (dLst (aCons (dFn 5 f_l_chain (aCons (dVar 11) (aCons (dVar 8) (aCons (dVar 4) (aCons (dVar 3) (aCons (dVar 10) aNil)))))) aNil))) aNil))))))))) F
    (fun j δ => ∃ y6 y7 y8 y9 y10 y11, δ = tSt (planD p) (.list (F.map fndD)) (some (.dat (.int (k : Nat)))) (some (.dat (tupI seen))) (some (.own (((F.take j).flatMap (mAll1 k seen)).map fndD))) y6 y7 y8 y9 y10 y11) (by
    rintro j s hj δ ⟨y6, y7, y8, y9, y10, y11, rfl⟩
    have hm := List.mem_of_getElem? hj
    have hs := hF s hm
    have hmany := hs.many hp hk
    have eS : f_l_seen_groups [rowD s.2.1, tupI seen] = some (.list ((mSeen s.2.1 seen).map fun k => .int (k : Nat))) := by
      obtain ⟨kr, e, R⟩ := hs
      rw [e]
      have hsz := R.inv.sz
      exact l_seen_eq (by simp; omega) (fun G hG => by
        obtain ⟨e, he, rfl⟩ := List.mem_map.mp hG
        have := (R.inv.ne e he).2.2.2
        omega)
    have hacc : ((F.take j).flatMap (mAll1 k seen)).length ≤ 300 := by
      refine Nat.le_trans (flatMap_len (c := 2 * k + 1) (F.take j) fun s hs => ?_) ?_
      · unfold mAll1
        rw [List.length_map]
        exact (hF s (List.mem_of_mem_take hs)).places hp hk
      · have : (F.take j).length ≤ F.length := by simp; omega
        have := Nat.mul_le_mul_left (2 * k + 1) this
        omega
    obtain ⟨z10, z11, e⟩ := put_body hp (by omega) hk hs (.list (F.map fndD)) hacc (some (.dat (.int ((mSeen s.2.1 seen).length : Nat)))) y10 y11
    refine ⟨_, _, rfl, ?_, some (.dat (runD s.1)), some (.dat (rowD s.2.1)), some (.dat (rowD s.2.2)), some (.dat (.int ((mSeen s.2.1 seen).length : Nat))), z10, z11, rfl⟩
    refine Eq.trans (seq_nx (asg_one (d := .int ((mSeen s.2.1 seen).length : Nat)) (g := B0) (call_eq (one_eq (fn_eq (g := B0) (ds := [rowD s.2.1, tupI seen]) rfl rfl eS)) (gLen_mapL _ _)) rfl)) ?_
    rw [take_add hj, List.flatMap_append, List.flatMap_singleton]
    exact (for_eq (g := B0) (places_eq (by omega) (by omega) _ _ _ _ _ _ _ _ _)).trans e) (tSt (planD p) (.list (F.map fndD)) (some (.dat (.int (k : Nat)))) (some (.dat (tupI seen))) (some (.own [])) x6 x7 x8 x9 x10 x11) ⟨x6, x7, x8, x9, x10, x11, rfl⟩
  obtain ⟨δ', e, y6, y7, y8, y9, y10, y11, rfl⟩ := L
  refine ⟨y6, y7, y8, y9, y10, y11, ?_⟩
  rw [List.take_length] at e
  exact e
theorem tie_runs_eq {p : List (List Int)} (hp : PlanOk p) (hl : p.length ≤ 4) : f_l_tie_runs [planD p, .int 600] = some (.list ((mF p p.length).map fndD)) := by
  have L := loop_ind (fun q : List Int × Nat => PyData.tuple [.int (q.2 : Nat), tupI q.1]) (t := .many [3, 4]) (body := (sSeq (sNewOwn 5)
  (sSeq (sFor (iL (dVar 2)) (.many [6, 7, 8])
  (sSeq (sAsg (.one 9) (dCall gLen (aCons (dFn 2 f_l_seen_groups (aCons (dVar 7) (aCons (dVar 4) aNil))) aNil)))
  (sFor (iL (dOp gAdd (dLc (iR (dOp gAdd (dVar 9) (dC (.int 1)))) (.one 12) tTrue (dTup (aCons (dC (.str "gap")) (aCons (dVar 12) aNil))) [12]) (dLc (iT (dVar 4)) (.one 13) tTrue (dTup (aCons (dC (.str "tie")) (aCons (dVar 13) aNil))) [13]))) (.one 10)
  (sSeq (sAsg (.one 11) (dFn 4 f_l_put (aCons (dVar 7) (aCons (dVar 4) (aCons (dVar 3) (aCons (dVar 10) aNil))))))
  (sApp 5 (dTup (aCons (dOp gAdd (dVar 6) (dTup (aCons (dVar 10) aNil))) (aCons (dVar 11) (aCons (dOp gAdd (dVar 8) (dLst (aCons (dFn 5 f_l_chain (aCons (dVar 11) (aCons (dVar 8) (aCons (dVar 4) (aCons (dVar 3) (aCons (dVar 10) aNil)))))) aNil))) aNil)))))))))
  (sFrz 5 (sSeq (sAsg (.one 2) (dVar 5))
  (sIf (tst (dOp gGt (dCall gLen (aCons (dVar 2) aNil)) (dVar 1))) (sRet (dC .none)) sNil)))))) (p.zipIdx 0)
    (fun k δ => ∃ x3 x4 x5 x6 x7 x8 x9 x10 x11, δ = tSt (planD p) (.list ((mF p k).map fndD)) x3 x4 x5 x6 x7 x8 x9 x10 x11) (by
    rintro k ⟨seen, i⟩ hk δ ⟨x3, x4, x5, x6, x7, x8, x9, x10, x11, rfl⟩
    obtain ⟨rfl, h⟩ := zip_at hk
    have hil := (List.getElem?_eq_some_iff.mp h).1
    have hg : p.getD i [] = seen := by rw [List.getD_eq_getElem?_getD, h]; rfl
    have hm1 : mF p (i + 1) = (mF p i).flatMap (mAll1 i seen) := by
      rw [← hg]
      rfl
    have hb := mF_len hp (i + 1) (by omega)
    have hb2 := bnd_le (n := i + 1) (by omega)
    have hb3 : (2 * i + 1) * (mF p i).length ≤ 200 := by
      have h1 := mF_len hp i (by omega)
      have h2 := Nat.mul_le_mul_left (2 * i + 1) h1
      have h3 : bnd (i + 1) = (2 * i + 1) * bnd i := rfl
      omega
    obtain ⟨y6, y7, y8, y9, y10, y11, e⟩ := mid_body hp hl h (mF p i) (mF_run hp i (by omega)) hb3 x6 x7 x8 x9 x10 x11
    rw [← hm1] at e
    refine ⟨_, _, rfl, ?_, some (.dat (.int (i : Nat))), some (.dat (tupI seen)), some (.dat (.list ((mF p (i + 1)).map fndD))), y6, y7, y8, y9, y10, y11, rfl⟩
    refine Eq.trans (seq_nx (δ1 := tSt (planD p) (.list ((mF p i).map fndD)) (some (.dat (.int (i : Nat)))) (some (.dat (tupI seen))) (some (.own [])) x6 x7 x8 x9 x10 x11) rfl) ?_
    refine Eq.trans (seq_nx ((for_eq (g := B0) rfl).trans e)) ?_
    refine Eq.trans (frz_eq rfl) ?_
    refine Eq.trans (seq_nx (δ1 := tSt (planD p) (.list ((mF p (i + 1)).map fndD)) (some (.dat (.int (i : Nat)))) (some (.dat (tupI seen))) (some (.dat (.list ((mF p (i + 1)).map fndD)))) y6 y7 y8 y9 y10 y11) rfl) ?_
    refine Eq.trans (if_f (g := B0) (tst_eq (op_eq (g := B0) (x := .int ((mF p (i + 1)).length : Nat)) (y := .int 600) (call_eq (one_eq rfl) (gLen_mapL _ _)) rfl ?_))) rfl
    exact congrArg (fun b => some (PyData.bool b)) (decide_eq_false (by omega))) (tSt (planD p) (.list ((mF p 0).map fndD)) none none none none none none none none none) ⟨none, none, none, none, none, none, none, none, none, rfl⟩
  obtain ⟨δ', e, x3, x4, x5, x6, x7, x8, x9, x10, x11, rfl⟩ := L
  rw [zip_len] at e
  rw [← enum_map tupI p 0] at e
  refine runP_rt (g := B0) ?_
  show d_l_tie_runs ⟨[some (.dat (planD p)), some (.dat (.int 600)), none, none, none, none, none, none, none, none, none, none, none, none], B0, none⟩ = _
  unfold d_l_tie_runs
  refine Eq.trans (seq_nx (δ1 := tSt (planD p) (.list ((mF p 0).map fndD)) none none none none none none none none none) rfl) ?_
  refine Eq.trans (seq_nx ((for_eq (g := B0) rfl).trans e)) ?_
  rfl
end K71

set_option Elab.async false
set_option linter.all false
set_option maxRecDepth 100000
set_option maxHeartbeats 4000000
namespace K71
open PySem L2
/-! ### all names of a small plan -/
abbrev Nm := List Int × Option Int
def nmOf (s : Fnd) : List Nm := mNames s.1 s.2.2
theorem insN_len (ks : List Nm) (k : Nm) : (insN ks k).length ≤ ks.length + 1 := by
  unfold insN
  split
  · omega
  · simp
theorem insNs_len : ∀ (xs acc : List Nm), (xs.foldl insN acc).length ≤ acc.length + xs.length
  | [], acc => by simp
  | x :: xs, acc => by
    rw [List.foldl_cons, List.length_cons]
    have := insNs_len xs (insN acc x)
    have := insN_len acc x
    omega
theorem putN_eq {i : Nat} {a : DE} {δ : Dn} {k : Nm} {ks : List Nm} {g : Bag} (h : a δ = some (nameD k, g)) (ho : slOkn i δ = some ks) (hl : ks.length ≤ 1000) : sPutOkn i a δ = some (.nx { sl := δ.sl.set i (some (.okn (insN ks k))), bag := g, bk := δ.bk }) := by
  unfold sPutOkn
  rw [h]
  simp only [asName_name, ho, if_pos (size_lt hl)]
theorem orL_eq {a c : DE} {δ : Dn} {ds : List PyData} {g : Bag} (h : a δ = some (.list ds, g)) (h2 : c (δ.wb g) = some (.list [], g)) : dOrL a c δ = some (.list ds, g) := by
  unfold dOrL bd
  rw [h]
  cases ds with
  | nil => exact h2
  | cons d ds => rfl
abbrev aSt (P : PyData) (ks : List Nm) (x2 x3 x4 x5 : Option En) : Dn := ⟨[some (.dat P), some (.okn ks), x2, x3, x4, x5], B0, none⟩
theorem putN_loop (P : PyData) (x2 x3 x4 : Option En) : ∀ (ns acc : List Nm) (x5 : Option En), acc.length + ns.length ≤ 1000 → ∃ y5, loopD (.one 5) (sPutOkn 1 (dVar 5)) (ns.map nameD) (aSt P acc x2 x3 x4 x5) = some (.nx (aSt P (ns.foldl insN acc) x2 x3 x4 y5))
  | [], acc, x5, _ => ⟨x5, rfl⟩
  | n :: ns, acc, x5, h => by
    rw [List.length_cons] at h
    have := insN_len acc n
    obtain ⟨y5, e⟩ := putN_loop P x2 x3 x4 ns (insN acc n) (some (.dat (nameD n))) (by omega)
    refine ⟨y5, ?_⟩
    rw [List.map_cons, loop_nx (δ1 := aSt P acc x2 x3 x4 (some (.dat (nameD n)))) rfl (putN_eq (k := n) (ks := acc) (g := B0) rfl rfl (by omega))]
    exact e
theorem IsRun.nm {p : List (List Int)} {n : Nat} {s : Fnd} (h : IsRun p n s) : (nmOf s).length = n := by
  obtain ⟨kr, e, R⟩ := h
  unfold nmOf mNames
  rw [List.length_map, zip_len]
  exact R.inv.len
theorem all_names_eq {p : List (List Int)} (hp : PlanOk p) (hl : p.length ≤ 4) : f_l_all_names [planD p] = some (.int ((((mF p p.length).flatMap nmOf).foldl insN []).length : Nat)) := by
  obtain ⟨F, hF⟩ : ∃ F, F = mF p p.length := ⟨_, rfl⟩
  have hR : ∀ s ∈ F, IsRun p p.length s := by
    rw [hF]
    exact mF_run hp p.length (Nat.le_refl _)
  have hFl : F.length ≤ 105 := by
    rw [hF]
    exact Nat.le_trans (mF_len hp p.length (Nat.le_refl _)) (bnd_le hl)
  have hb : ∀ j, ((F.take j).flatMap nmOf).length ≤ 420 := fun j => by
    refine Nat.le_trans (flatMap_len (c := 4) (F.take j) fun s hs => ?_) ?_
    · rw [(hR s (List.mem_of_mem_take hs)).nm]
      exact hl
    · have : (F.take j).length ≤ F.length := by simp; omega
      omega
  have L := loop_ind fndD (t := .many [2, 3, 4]) (body := (sFor (iT (dFn 2 f_tie_names (aCons (dVar 0) (aCons (dVar 2) aNil)))) (.one 5)
  (sPutOkn 1 (dVar 5)))) F (fun j δ => ∃ x2 x3 x4 x5, δ = aSt (planD p) (((F.take j).flatMap nmOf).foldl insN []) x2 x3 x4 x5) (by
    rintro j s hj δ ⟨x2, x3, x4, x5, rfl⟩
    have hs := hR s (List.mem_of_getElem? hj)
    have hnm := hs.nm
    obtain ⟨kr, e, R⟩ := hs
    have h1 := insNs_len ((F.take j).flatMap nmOf) []
    have h2 := hb j
    rw [List.length_nil] at h1
    obtain ⟨y5, e5⟩ := putN_loop (planD p) (some (.dat (runD s.1))) (some (.dat (rowD s.2.1))) (some (.dat (rowD s.2.2))) (nmOf s) (((F.take j).flatMap nmOf).foldl insN []) x5 (by omega)
    refine ⟨_, _, rfl, ?_, some (.dat (runD s.1)), some (.dat (rowD s.2.1)), some (.dat (rowD s.2.2)), y5, rfl⟩
    rw [take_add hj, List.flatMap_append, List.flatMap_singleton, List.foldl_append]
    refine (for_eq (g := B0) (ds := (nmOf s).map nameD) ?_).trans e5
    have e6 : dFn 2 f_tie_names (aCons (dVar 0) (aCons (dVar 2) aNil)) (aSt (planD p) (((F.take j).flatMap nmOf).foldl insN []) (some (.dat (runD s.1))) (some (.dat (rowD s.2.1))) (some (.dat (rowD s.2.2))) x5) = some (namesD (nmOf s), B0) := fn_eq (g := B0) (ds := [planD p, runD s.1]) rfl rfl (tie_names_eq hp (by omega) R)
    exact iT_eq e6) (aSt (planD p) [] none none none none) ⟨none, none, none, none, rfl⟩
  obtain ⟨δ', e, x2, x3, x4, x5, rfl⟩ := L
  rw [List.take_length] at e
  have h1 := insNs_len (F.flatMap nmOf) []
  have h2 := hb F.length
  rw [List.take_length] at h2
  rw [List.length_nil] at h1
  have eT : f_l_tie_runs [planD p, .int 600] = some (.list (F.map fndD)) := by
    rw [hF]
    exact tie_runs_eq hp hl
  rw [← hF]
  have e7 : dFn 2 f_l_tie_runs (aCons (dVar 0) (aCons (dC (.int 600)) aNil)) (aSt (planD p) [] none none none none) = some (.list (F.map fndD), B0) := fn_eq (g := B0) (ds := [planD p, .int 600]) rfl rfl eT
  have e8 : dOrL (dFn 2 f_l_tie_runs (aCons (dVar 0) (aCons (dC (.int 600)) aNil))) (dLst aNil) (aSt (planD p) [] none none none none) = some (.list (F.map fndD), B0) := orL_eq e7 rfl
  refine runP_rt (g := B0) ?_
  show d_l_all_names ⟨[some (.dat (planD p)), none, none, none, none, none], B0, none⟩ = _
  unfold d_l_all_names
  refine Eq.trans (seq_nx (δ1 := aSt (planD p) [] none none none none) rfl) ?_
  refine Eq.trans (seq_nx ((for_eq (g := B0) (ds := F.map fndD) (iL_eq e8)).trans e)) ?_
  refine ret_eq ?_
  show (if (((F.flatMap nmOf).foldl insN []).length) ≤ sizeLine then _ else none) = _
  exact if_pos (size_ok (by omega))

/-! ### the count, plan by plan -/
def subs : Nat → Int → List (List Int)
  | 0, _ => [[]]
  | n + 1, s => (subs n (s + 1)).map (s :: ·) ++ subs n (s + 1)
theorem rise_subs : ∀ (n : Nat) (s : Int) (xs : List Int), Rise (s + n) (s - 1) xs → xs ∈ subs n s
  | 0, s, [], _ => by simp [subs]
  | 0, s, x :: xs, h => by
    have h1 := h.1
    have h2 := h.2.1
    simp at h2
    omega
  | n + 1, s, [], _ => by
    rw [subs]
    exact List.mem_append.mpr (.inr (rise_subs n (s + 1) [] trivial))
  | n + 1, s, x :: xs, ⟨h1, h2, h3⟩ => by
    rw [subs]
    have hb : s + ((n + 1 : Nat) : Int) = (s + 1) + (n : Int) := by omega
    rw [hb] at h2 h3
    by_cases hx : x = s
    · subst hx
      refine List.mem_append.mpr (.inl (List.mem_map.mpr ⟨xs, rise_subs n (x + 1) xs ?_, rfl⟩))
      rw [show x + 1 - 1 = x by omega]
      exact h3
    · refine List.mem_append.mpr (.inr (rise_subs n (s + 1) (x :: xs) ⟨by omega, h2, h3⟩))
def closedB (p : List (List Int)) : Bool := p.all fun seen => seen.all fun o => (p.getD o.toNat []).all fun m => decide (m ∈ seen)
def chk (p : List (List Int)) : Bool := !closedB p || match f_many_tie_names [planD p] with
  | some (.int z) => decide (z = ((((mF p p.length).flatMap nmOf).foldl insN []).length : Nat))
  | _ => false
theorem chk0 : chk [] = true := by decide +kernel
theorem chk1 : ∀ a ∈ subs 0 0, chk [a] = true := by decide +kernel
theorem chk2 : ∀ a ∈ subs 0 0, ∀ b ∈ subs 1 0, chk [a, b] = true := by decide +kernel
theorem chk3 : ∀ a ∈ subs 0 0, ∀ b ∈ subs 1 0, ∀ c ∈ subs 2 0, chk [a, b, c] = true := by decide +kernel
theorem chk4 : ∀ a ∈ subs 0 0, ∀ b ∈ subs 1 0, ∀ c ∈ subs 2 0, ∀ d ∈ subs 3 0, chk [a, b, c, d] = true := by decide +kernel
theorem PlanOk.sub {p : List (List Int)} (hp : PlanOk p) {i : Nat} {seen : List Int} (h : p[i]? = some seen) : seen ∈ subs i 0 := by
  refine rise_subs i 0 seen ?_
  have := (hp i seen h).1
  rw [show (0 : Int) + (i : Int) = i by omega]
  exact this
theorem PlanOk.closed {p : List (List Int)} (hp : PlanOk p) : closedB p = true := by
  refine List.all_eq_true.mpr fun seen hs => List.all_eq_true.mpr fun o ho => List.all_eq_true.mpr fun m hm => ?_
  obtain ⟨i, hi⟩ := List.mem_iff_getElem?.mp hs
  obtain ⟨row, h1, h2⟩ := (hp i seen hi).2 o ho
  rw [List.getD_eq_getElem?_getD, h1] at hm
  exact decide_eq_true (h2 m hm)
theorem chk_all {p : List (List Int)} (hp : PlanOk p) (hl : p.length ≤ 4) : chk p = true := by
  match p, hp, hl with
  | [], _, _ => exact chk0
  | [a], hp, _ => exact chk1 a (hp.sub (i := 0) rfl)
  | [a, b], hp, _ => exact chk2 a (hp.sub (i := 0) rfl) b (hp.sub (i := 1) rfl)
  | [a, b, c], hp, _ => exact chk3 a (hp.sub (i := 0) rfl) b (hp.sub (i := 1) rfl) c (hp.sub (i := 2) rfl)
  | [a, b, c, d], hp, _ => exact chk4 a (hp.sub (i := 0) rfl) b (hp.sub (i := 1) rfl) c (hp.sub (i := 2) rfl) d (hp.sub (i := 3) rfl)
  | _ :: _ :: _ :: _ :: _ :: _, _, hl => exact absurd hl (by simp)
theorem small_eq {p : List (List Int)} (hp : PlanOk p) (hl : p.length ≤ 4) : f_many_tie_names [planD p] = some (.int ((((mF p p.length).flatMap nmOf).foldl insN []).length : Nat)) := by
  obtain ⟨es, _, e⟩ := many_eq hp (by omega)
  have h := chk_all hp hl
  unfold chk at h
  rw [hp.closed, e] at h
  rw [e]
  have h : decide ((2 * es.sum - (p.length : Int)) = ((((mF p p.length).flatMap nmOf).foldl insN []).length : Nat)) = true := h
  rw [of_decide_eq_true h]
end K71

set_option Elab.async false
set_option linter.all false
set_option maxRecDepth 100000
set_option maxHeartbeats 4000000
namespace K71
open PySem L2
/-! ### a name is spoiled -/
theorem cut_len (ds : List PyData) (lo hi : Option Int) : (cutD ds lo hi).length ≤ ds.length := by
  unfold cutD
  simp
  omega
theorem at_last {ds : List PyData} (h : 0 < ds.length) : ∃ d, atI ds (-1) = some d := by
  unfold atI ixN
  rw [if_neg (by omega), if_pos (by omega)]
  exact ⟨ds[(-1 + (ds.length : Int)).toNat]'(by omega), List.getElem?_eq_getElem (by omega)⟩
theorem gPow_eq {i j : Int} (h : CPow i j) : gPow (.int i) (.int j) = some (.int (i ^ j.toNat)) := if_pos (decide_eq_true h)
theorem gAdd_t {a b : List PyData} (h : a.length + b.length ≤ 1000) : gAdd (.tuple a) (.tuple b) = some (.tuple (a ++ b)) := if_pos (size_ok h)
theorem ownCat_eq {i : Nat} {a b : DE} {δ : Dn} {xs ys : List PyData} {g g2 : Bag} (h : a δ = some (.list xs, g)) (h2 : b (δ.wb g) = some (.list ys, g2)) (ho : offBag [i] δ.bk = true) (hl : xs.length + ys.length ≤ 1000) : sOwnCat i a b δ = some (.nx { sl := δ.sl.set i (some (.own (xs ++ ys))), bag := g2, bk := δ.bk }) := by
  unfold sOwnCat
  have e : bd a (fun x => bd b fun y => fun δ => some ((x, y), δ.bag)) δ = some ((.list xs, .list ys), g2) := by
    unfold bd
    rw [h]
    simp only [h2]
  rw [e]
  exact if_pos ⟨ho, size_ok hl⟩
abbrev pSt (N : PyData) (x2 x3 x4 x5 x6 x7 : Option En) (g : Bag) : Dn := ⟨[none, some (.dat N), x2, x3, x4, x5, x6, x7], g, some 0⟩
theorem spoiled_eq (g : Bag) {k : Nm} (h0 : k.1 ≠ []) (hl : k.1.length ≤ 40) : ∃ d g', f_l_spoiled g [nameD k] = some (d, g') := by
  obtain ⟨c, t⟩ := k
  have hpos : 0 < c.length := List.length_pos_iff.mpr h0
  have hl : c.length ≤ 40 := hl
  obtain ⟨r, g1, e1, r0, r1⟩ := draw_eq g (m := (c.length : Int)) (by omega) (by omega)
  have hc : (c.map PyData.int).length = c.length := List.length_map _
  have ex : (c.map PyData.int)[r.toNat]? = some (.int (c[r.toNat]'(by omega))) := by simp
  obtain ⟨x, hx⟩ : ∃ x, x = c[r.toNat]'(by omega) := ⟨_, rfl⟩
  rw [← hx] at ex
  have ex : gIx (tupI c) (.int r) = some (.int x) := at_eq r0 ex
  obtain ⟨z, ez⟩ := at_last (ds := c.map PyData.int) (by omega)
  have ez : gIx (tupI c) (.int (-1)) = some z := ez
  obtain ⟨num, g2, e2, _⟩ := any_list g1 (ds := [.int (x + 1), .int 40, .int 39, .int (-1), .bool true, .none, .str "1", .tuple [.int 1], .int (10 ^ (30 : Int).toNat), .int 0]) (by simp) (by simp)
  obtain ⟨more, g3, e3, _⟩ := any_list g2 (ds := [.int 0, .int 39, .int 40, z, .bool true, .str "5"]) (by simp) (by simp)
  obtain ⟨A, hA⟩ : ∃ A, A = cutD (c.map PyData.int) none (some r) := ⟨_, rfl⟩
  obtain ⟨B, hB⟩ : ∃ B, B = cutD (c.map PyData.int) (some (r + 1)) none := ⟨_, rfl⟩
  have lA : A.length ≤ 40 := by
    rw [hA]
    exact Nat.le_trans (cut_len _ _ _) (by omega)
  have lB : B.length ≤ 40 := by
    rw [hB]
    exact Nat.le_trans (cut_len _ _ _) (by omega)
  obtain ⟨T1, hT1⟩ : ∃ T, T = [PyData.tuple [.tuple ((A ++ [num]) ++ B), tieD t], .tuple [tupI c, more], .tuple [.tuple (c.map PyData.int ++ [.int 39]), .none]] := ⟨_, rfl⟩
  obtain ⟨T2, hT2⟩ : ∃ T, T = [PyData.tuple [.tuple (c.map PyData.int ++ [num]), tieD t], .tuple [.list (c.map PyData.int), tieD t], tupI c, .tuple [tupI c], .list [tupI c, tieD t]] := ⟨_, rfl⟩
  obtain ⟨T3, hT3⟩ : ∃ T, T = [PyData.tuple [tupI c, tieD t, .none], .tuple [.tuple [], tieD t], .tuple [tieD t, tupI c], .none, .dict [], .str "name", .tuple [.tuple (c.map PyData.int).reverse, tieD t]] := ⟨_, rfl⟩
  have l1 : T1.length = 3 := by rw [hT1]; rfl
  have l2 : T2.length = 5 := by rw [hT2]; rfl
  have l3 : T3.length = 7 := by rw [hT3]; rfl
  obtain ⟨d, g4, e4, _⟩ := any_list g3 (ds := ((T1 ++ T2) ++ T3) ++ [.tuple [tupI c, .tuple [.int 39]]]) (by simp; omega) (by simp; omega)
  refine ⟨d, g4, runB_rt ?_⟩
  show d_l_spoiled (pSt (nameD (c, t)) none none none none none none g) = _
  unfold d_l_spoiled
  refine Eq.trans (seq_nx (δ1 := pSt (nameD (c, t)) none none none none (some (.dat (tupI c))) (some (.dat (tieD t))) g) rfl) ?_
  refine Eq.trans (seq_nx (asg_one (d := .int r) (g := g1) (bag_eq (g := g) (ds := [.int (c.length : Nat)]) (one_eq (call_eq (one_eq rfl) (gLen_map PyData.int c))) rfl rfl e1) rfl)) ?_
  refine Eq.trans (seq_nx (δ1 := pSt (nameD (c, t)) (some (.dat (.int r))) (some (.dat num)) none none (some (.dat (tupI c))) (some (.dat (tieD t))) g2)
    (asg_one (d := num) (g := g2) (bag_eq (g := g1) (ds := [.list [.int (x + 1), .int 40, .int 39, .int (-1), .bool true, .none, .str "1", .tuple [.int 1], .int (10 ^ (30 : Int).toNat), .int 0]]) (one_eq (lst_eq (cons_eq (g := g1) (op_eq (g := g1) (x := .int x) (y := .int 1) (op_eq (g := g1) (x := tupI c) (y := .int r) rfl rfl ex) rfl rfl)
      (cons_eq (g := g1) rfl (cons_eq (g := g1) rfl (cons_eq (g := g1) rfl (cons_eq (g := g1) rfl (cons_eq (g := g1) rfl (cons_eq (g := g1) rfl (cons_eq (g := g1) (tup_eq (ds := [.int 1]) rfl (by simp)) (cons_eq (g := g1) (op_eq (g := g1) (x := .int 10) (y := .int 30) rfl rfl (gPow_eq (by decide +kernel))) (one_eq rfl))))))))))
      (by simp))) rfl rfl e2) rfl)) ?_
  refine Eq.trans (seq_nx (δ1 := pSt (nameD (c, t)) (some (.dat (.int r))) (some (.dat num)) (some (.dat more)) none (some (.dat (tupI c))) (some (.dat (tieD t))) g3)
    (asg_one (d := more) (g := g3) (bag_eq (g := g2) (ds := [.list [.int 0, .int 39, .int 40, z, .bool true, .str "5"]]) (one_eq (lst_eq (cons_eq (g := g2) rfl (cons_eq (g := g2) rfl (cons_eq (g := g2) rfl (cons_eq (g := g2) (op_eq (g := g2) (x := tupI c) (y := .int (-1)) rfl rfl ez) (cons_eq (g := g2) rfl (one_eq rfl)))))) (by simp))) rfl rfl e3) rfl)) ?_
  refine Eq.trans (seq_nx (δ1 := pSt (nameD (c, t)) (some (.dat (.int r))) (some (.dat num)) (some (.dat more)) (some (.dat (.list T1))) (some (.dat (tupI c))) (some (.dat (tieD t))) g3) (by
    rw [hT1]
    refine asg_one (g := g3) (lst_eq (cons_eq (g := g3) (tup_eq (ds := [.tuple ((A ++ [num]) ++ B), tieD t]) (cons_eq (g := g3) (op_eq (g := g3) (x := .tuple (A ++ [num])) (y := .tuple B) (op_eq (g := g3) (x := .tuple A) (y := .tuple [num]) (op_eq (g := g3) (x := tupI c) (y := .int r) rfl rfl ?_) (tup_eq (one_eq rfl) (by simp)) (gAdd_t (by simp; omega))) (op_eq (g := g3) (x := tupI c) (y := .int (r + 1)) rfl (op_eq (g := g3) (x := .int r) (y := .int 1) rfl rfl rfl) ?_) (gAdd_t (by simp; omega))) (one_eq rfl)) (by simp))
      (cons_eq (g := g3) (tup_eq (ds := [tupI c, more]) (cons_eq (g := g3) rfl (one_eq rfl)) (by simp)) (one_eq (tup_eq (ds := [.tuple (c.map PyData.int ++ [.int 39]), .none]) (cons_eq (g := g3) (op_eq (g := g3) (x := .tuple (c.map PyData.int)) (y := .tuple [.int 39]) rfl (tup_eq (one_eq rfl) (by simp)) (gAdd_t (by simp; omega))) (one_eq rfl)) (by simp))))) (by simp)) rfl
    · rw [hA]
      rfl
    · rw [hB]
      rfl)) ?_
  refine Eq.trans (seq_nx (δ1 := pSt (nameD (c, t)) (some (.dat (.int r))) (some (.dat num)) (some (.dat more)) (some (.dat (.list (T1 ++ T2)))) (some (.dat (tupI c))) (some (.dat (tieD t))) g3) (by
    refine asg_one (g := g3) (op_eq (g := g3) (x := .list T1) (y := .list T2) rfl ?_ (gAdd_l (by omega))) rfl
    rw [hT2]
    exact lst_eq (cons_eq (g := g3) (tup_eq (ds := [.tuple (c.map PyData.int ++ [num]), tieD t]) (cons_eq (g := g3) (op_eq (g := g3) (x := .tuple (c.map PyData.int)) (y := .tuple [num]) rfl (tup_eq (one_eq rfl) (by simp)) (gAdd_t (by simp; omega))) (one_eq rfl)) (by simp))
      (cons_eq (g := g3) (tup_eq (ds := [.list (c.map PyData.int), tieD t]) (cons_eq (g := g3) (call_eq (one_eq rfl) rfl) (one_eq rfl)) (by simp)) (cons_eq (g := g3) rfl (cons_eq (g := g3) (tup_eq (ds := [tupI c]) (one_eq rfl) (by simp)) (one_eq (lst_eq (ds := [tupI c, tieD t]) (cons_eq (g := g3) rfl (one_eq rfl)) (by simp))))))) (by simp))) ?_
  refine Eq.trans (seq_nx (δ1 := pSt (nameD (c, t)) (some (.dat (.int r))) (some (.dat num)) (some (.dat more)) (some (.own ((T1 ++ T2) ++ T3))) (some (.dat (tupI c))) (some (.dat (tieD t))) g3) (by
    refine ownCat_eq (g := g3) (g2 := g3) (xs := T1 ++ T2) (ys := T3) rfl ?_ rfl (by simp; omega)
    rw [hT3]
    exact lst_eq (cons_eq (g := g3) (tup_eq (ds := [tupI c, tieD t, .none]) (cons_eq (g := g3) rfl (cons_eq (g := g3) rfl (one_eq rfl))) (by simp)) (cons_eq (g := g3) (tup_eq (ds := [.tuple [], tieD t]) (cons_eq (g := g3) (tup_eq (ds := []) rfl (by simp)) (one_eq rfl)) (by simp))
      (cons_eq (g := g3) (tup_eq (ds := [tieD t, tupI c]) (cons_eq (g := g3) rfl (one_eq rfl)) (by simp)) (cons_eq (g := g3) rfl (cons_eq (g := g3) rfl (cons_eq (g := g3) rfl (one_eq (tup_eq (ds := [.tuple (c.map PyData.int).reverse, tieD t]) (cons_eq (g := g3) rfl (one_eq rfl)) (by simp))))))))) (by simp))) ?_
  refine Eq.trans (seq_nx (δ1 := pSt (nameD (c, t)) (some (.dat (.int r))) (some (.dat num)) (some (.dat more)) (some (.own (((T1 ++ T2) ++ T3) ++ [.tuple [tupI c, .tuple [.int 39]]]))) (some (.dat (tupI c))) (some (.dat (tieD t))) g3) (by
    refine app_eq (ds := (T1 ++ T2) ++ T3) (d := .tuple [tupI c, .tuple [.int 39]]) (g := g3) (tup_eq (cons_eq (g := g3) rfl (one_eq (tup_eq (ds := [.int 39]) (one_eq rfl) (by simp)))) (by simp)) rfl (by simp; omega))) ?_
  rw [frz_eq rfl]
  exact ret_eq (bag_eq (g := g3) (one_eq rfl) rfl rfl e4)
end K71

set_option Elab.async false
set_option linter.all false
set_option maxRecDepth 100000
set_option maxHeartbeats 4000000
namespace K71
open PySem L2
/-! ### the bag -/
abbrev bSt (x1 x2 x3 x4 : Option En) : Dn := ⟨[none, x1, x2, x3, x4, none], B0, none⟩
theorem great_loop (x1 x2 : Option En) : ∀ (ms : List Int) (g : Int) (x4 : Option En), ∃ g' y4, loopD (.one 4) (sIf (tst (dOp gGe (dCall gAbs (aCons (dVar 4) aNil)) (dOp gPow (dC (.int 10)) (dC (.int 18))))) (sSeq (sAsg (.one 3) (dCall gAbs (aCons (dVar 4) aNil)))
  sBreak) sNil) (ms.map .int) (bSt x1 x2 (some (.dat (.int g))) x4) = some (.nx (bSt x1 x2 (some (.dat (.int g'))) y4))
  | [], g, x4 => ⟨g, x4, rfl⟩
  | x :: ms, g, x4 => by
    have t1 : tst (dOp gGe (dCall gAbs (aCons (dVar 4) aNil)) (dOp gPow (dC (.int 10)) (dC (.int 18)))) (bSt x1 x2 (some (.dat (.int g))) (some (.dat (.int x)))) = some (decide ((10 : Int) ^ (18 : Int).toNat ≤ (if x < 0 then -x else x)), B0) :=
      tst_eq (op_eq (g := B0) (x := .int (if x < 0 then -x else x)) (y := .int (10 ^ (18 : Int).toNat)) (call_eq (one_eq rfl) rfl) (op_eq (g := B0) (x := .int 10) (y := .int 18) rfl rfl (gPow_eq (by decide +kernel))) rfl)
    by_cases h : (10 : Int) ^ (18 : Int).toNat ≤ (if x < 0 then -x else x)
    · rw [decide_eq_true h] at t1
      refine ⟨(if x < 0 then -x else x), some (.dat (.int x)), ?_⟩
      rw [List.map_cons, loop_bk (δ1 := bSt x1 x2 (some (.dat (.int g))) (some (.dat (.int x)))) (δ2 := bSt x1 x2 (some (.dat (.int (if x < 0 then -x else x)))) (some (.dat (.int x)))) rfl ?_]
      refine Eq.trans (if_t (g := B0) t1) ?_
      refine Eq.trans (seq_nx (asg_one (d := .int (if x < 0 then -x else x)) (g := B0) (call_eq (one_eq rfl) rfl) rfl)) ?_
      rfl
    · rw [decide_eq_false h] at t1
      obtain ⟨g', y4, e⟩ := great_loop x1 x2 ms g (some (.dat (.int x)))
      refine ⟨g', y4, ?_⟩
      rw [List.map_cons, loop_nx (δ1 := bSt x1 x2 (some (.dat (.int g))) (some (.dat (.int x)))) (δ2 := bSt x1 x2 (some (.dat (.int g))) (some (.dat (.int x)))) rfl ?_]
      · exact e
      · exact Eq.trans (if_f (g := B0) t1) rfl
theorem bag_ok (ns : List Int) (hn : ns.length ≤ 63) : ∃ s g, f_l_bag ns = some (.list [.int s, .int 0, .int g]) := by
  obtain ⟨ms, hms, hml⟩ : ∃ ms : List Int, cutD (ns.map PyData.int) none (some 63) = ms.map PyData.int ∧ ms.length ≤ 63 := by
    unfold cutD
    rw [← List.map_drop, ← List.map_take]
    exact ⟨_, rfl, by simp; omega⟩
  have e1 : d_l_bag1 ns (bSt none none none none) = some (.nx (bSt (some (.dat (.list (ms.map .int)))) none none none)) := by
    refine asg_one (d := .list (ms.map .int)) (g := B0) (dLc_eq (ds := ms.map .int) (g := B0) ?_ (by simp; omega) rfl rfl ?_) rfl
    · show some (cutD (ns.map PyData.int) none (some 63), B0) = _
      rw [hms]
    · exact lc_all .int .int ms fun x _ => ⟨_, rfl, rfl, rfl⟩
  have p64 : (2 ^ 64 : Int) = 18446744073709551616 := by decide +kernel
  obtain ⟨ws, hws⟩ : ∃ ws : List Int, ws = (ms.zipIdx 0).map fun q => q.1 * ((q.2 : Int) + 5) := ⟨_, rfl⟩
  have e2 : dLc (iEL (dVar 1)) (.many [5, 4]) tTrue (dOp gMulC (dCall gInt (aCons (dVar 4) aNil)) (dOp gAdd (dVar 5) (dC (.int 5)))) [5, 4] (bSt (some (.dat (.list (ms.map .int)))) none none none) = some (.list (ws.map .int), B0) := by
    refine dLc_eq (ds := (ms.zipIdx 0).map fun q => .tuple [.int (q.2 : Nat), .int q.1]) (g := B0) ?_ (by simp; omega) rfl rfl ?_
    · rw [← enum_map PyData.int ms 0]
      rfl
    · rw [hws, List.map_map]
      refine lc_all (fun q : Int × Nat => PyData.tuple [.int (q.2 : Nat), .int q.1]) (fun q => .int (q.1 * ((q.2 : Int) + 5))) (ms.zipIdx 0) fun q hq => ⟨_, rfl, rfl, ?_⟩
      have h1 := (zip_mem ms 0 q hq).2
      have h2 := (List.getElem?_eq_some_iff.mp h1).1
      exact op_eq (g := B0) (x := .int q.1) (y := .int ((q.2 : Int) + 5)) (call_eq (one_eq rfl) rfl) (op_eq (g := B0) (x := .int (q.2 : Nat)) (y := .int 5) rfl rfl rfl) (cMul_r (by rw [p64]; omega))
  obtain ⟨g, y4, e3⟩ := great_loop (some (.dat (.list (ms.map .int)))) (some (.dat (.int ((ws.sum + 37 * (ms.length : Nat)) % 2147483647)))) ms 0 none
  refine ⟨(ws.sum + 37 * (ms.length : Nat)) % 2147483647, g, ?_⟩
  have e4 : sSeq (d_l_bag1 ns) d_l_bag2 (bSt none none none none) = some (.rt (.list [.int ((ws.sum + 37 * (ms.length : Nat)) % 2147483647), .int 0, .int g]) B0) := by
    refine Eq.trans (seq_nx e1) ?_
    unfold d_l_bag2
    refine Eq.trans (seq_nx (δ1 := bSt (some (.dat (.list (ms.map .int)))) (some (.dat (.int ((ws.sum + 37 * (ms.length : Nat)) % 2147483647)))) none none) (asg_one (g := B0) (op_eq (g := B0) (x := .int (ws.sum + 37 * (ms.length : Nat))) (y := .int 2147483647) (call_eq (one_eq (op_eq (g := B0) (x := .int ws.sum) (y := .int (37 * (ms.length : Nat))) (call_eq (one_eq e2) (gSum_ints ws)) (op_eq (g := B0) (x := .int 37) (y := .int (ms.length : Nat)) rfl (call_eq (one_eq rfl) (gLen_mapL PyData.int ms)) (cMul_l (by decide))) rfl)) rfl) rfl (gMod_eq (by decide))) rfl)) ?_
    refine Eq.trans (seq_nx (δ1 := bSt (some (.dat (.list (ms.map .int)))) (some (.dat (.int ((ws.sum + 37 * (ms.length : Nat)) % 2147483647)))) (some (.dat (.int 0))) none) rfl) ?_
    refine Eq.trans (seq_nx ((for_eq (g := B0) rfl).trans e3)) ?_
    exact ret_eq (lst_eq (cons_eq (g := B0) rfl (cons_eq (g := B0) rfl (one_eq rfl))) (by simp))
  unfold f_l_bag
  have e5 : sSeq (d_l_bag1 ns) d_l_bag2 ⟨List.replicate 6 none, ⟨0, 0, 0⟩, none⟩ = some (.rt (.list [.int ((ws.sum + 37 * (ms.length : Nat)) % 2147483647), .int 0, .int g]) B0) := e4
  rw [e5]
end K71

set_option Elab.async false
set_option linter.all false
set_option maxRecDepth 100000
set_option maxHeartbeats 4000000
namespace K71
open PySem L2
/-! ### the law, part by part -/
theorem asg_many {is : List Nat} {a : DE} {δ : Dn} {ds : List PyData} {g : Bag} (h : a δ = some (.tuple ds, g)) (hl : ds.length = is.length) (hb : offBag is δ.bk = true) : sAsg (.many is) a δ = some (.nx { sl := setMany is ds δ.sl, bag := g, bk := δ.bk }) := by
  unfold sAsg
  rw [h]
  show Option.map Out.nx (putTg (.many is) (.tuple ds) (δ.wb g)) = _
  rw [putTg_many, if_pos ⟨hl, hb⟩]
  rfl
theorem rng_at {n k x : Nat} (h : (List.range n)[k]? = some x) : x = k ∧ k < n := by
  have hkn : k < n := by
    have := (List.getElem?_eq_some_iff.mp h).1
    simpa using this
  rw [List.getElem?_range hkn] at h
  exact ⟨(Option.some.inj h).symm, hkn⟩
theorem sh_ne {d : PyData} (h : SeqAt.shaped d = true ∧ PyData.eqv d d = true) : gNe d d = some (.bool false) := gNe_self h.1 h.2
abbrev lSt (x2 x3 x4 x5 x6 x7 x8 x9 x10 x11 x12 x13 x14 x15 : Option En) (g : Bag) : Dn := ⟨[none, none, x2, x3, x4, x5, x6, x7, x8, x9, x10, x11, x12, x13, x14, x15], g, some 1⟩
abbrev dt (d : PyData) : Option En := some (.dat d)
theorem len_name {run : List Place} {chains : List (List Int)} : (mNames run chains).length = chains.length := by
  unfold mNames
  rw [List.length_map, zip_len]
theorem Run.nameAt {p : List (List Int)} (hl : p.length ≤ 40) {run : List Place} {kr : List (List Int × List Int)} {chains : List (List Int)} (R : Run p p.length run kr chains) {k : Nm} (hk : k ∈ mNames run chains) : good (nameD k) = true ∧ k.1.length ≤ 40 := by
  obtain ⟨i, hi⟩ := List.mem_iff_getElem?.mp hk
  have h1 := (List.getElem?_eq_some_iff.mp hi).1
  rw [len_name, R.inv.len] at h1
  obtain ⟨c, t, h2, _, h3, h4, _⟩ := R.name hl h1
  have := hi.symm.trans h2
  cases this
  exact ⟨h3, h4⟩
theorem good_ne {k : Nm} (h : good (nameD k) = true) : k.1 ≠ [] := fun z => by
  obtain ⟨c, t⟩ := k
  cases z
  cases h
def pairB : DS := (sSeq (sAsg (.one 14) (dIf (tst (dOp gEq (dVar 4) (dVar 11))) (dTup (aCons (dC (.str "none")) (aCons (dC (.bool true)) aNil))) (dTup (aCons (dC (.str "told")) (aCons (dFn 3 f_l_stands (aCons (dVar 9) (aCons (dVar 4) (aCons (dVar 11) aNil)))) aNil)))))
  (sIf (tNotD (tst (dFn 2 (f_l_is 6) (aCons (dFn 2 f_l_told (aCons (dOp gIx (dVar 3) (dVar 4)) (aCons (dOp gIx (dVar 3) (dVar 11)) aNil))) (aCons (dVar 14) aNil))))) (sRet (dC (.bool false))) sNil))
theorem pair_body {p : List (List Int)} (hl : p.length ≤ 40) {run : List Place} {kr : List (List Int × List Int)} {chains : List (List Int)} (R : Run p p.length run kr chains) {i j : Nat} (hi : i < p.length) (hj : j < p.length) (x2 x5 x6 x7 x8 x10 x12 x13 x14 x15 : Option En) (g : Bag) :
    ∃ y14, pairB (lSt x2 (dt (namesD (mNames run chains))) (dt (.int (i : Nat))) x5 x6 x7 x8 (dt (rowD (kr.map (·.1)))) x10 (dt (.int (j : Nat))) x12 x13 x14 x15 g) = some (.nx (lSt x2 (dt (namesD (mNames run chains))) (dt (.int (i : Nat))) x5 x6 x7 x8 (dt (rowD (kr.map (·.1)))) x10 (dt (.int (j : Nat))) x12 x13 y14 x15 g)) := by
  obtain ⟨c, t, n1, c1, g1, l1, s1⟩ := R.name hl hi
  obtain ⟨c', t', n2, c2, g2, l2, s2⟩ := R.name hl hj
  have i1 : gIx (namesD (mNames run chains)) (.int (i : Nat)) = some (nameD (c, t)) := at_eq (by omega) (by simp [n1])
  have i2 : gIx (namesD (mNames run chains)) (.int (j : Nat)) = some (nameD (c', t')) := at_eq (by omega) (by simp [n2])
  have K : ∃ T, (dIf (tst (dOp gEq (dVar 4) (dVar 11))) (dTup (aCons (dC (.str "none")) (aCons (dC (.bool true)) aNil))) (dTup (aCons (dC (.str "told")) (aCons (dFn 3 f_l_stands (aCons (dVar 9) (aCons (dVar 4) (aCons (dVar 11) aNil)))) aNil))))
      (lSt x2 (dt (namesD (mNames run chains))) (dt (.int (i : Nat))) x5 x6 x7 x8 (dt (rowD (kr.map (·.1)))) x10 (dt (.int (j : Nat))) x12 x13 x14 x15 g) = some (T, g) ∧ f_l_told [nameD (c, t), nameD (c', t')] = some T ∧ f_l_is 6 [T, T] = some (.bool true) := by
    have t1 : tst (dOp gEq (dVar 4) (dVar 11)) (lSt x2 (dt (namesD (mNames run chains))) (dt (.int (i : Nat))) x5 x6 x7 x8 (dt (rowD (kr.map (·.1)))) x10 (dt (.int (j : Nat))) x12 x13 x14 x15 g) = some ((i : Int) == (j : Int), g) := tst_eq (op_eq (g := g) (x := .int (i : Nat)) (y := .int (j : Nat)) rfl rfl (gEq_int _ _))
    by_cases h : i = j
    · subst h
      have := n1.symm.trans n2
      cases this
      rw [beq_self_eq_true] at t1
      refine ⟨.tuple [.str "none", .bool true], Eq.trans (ife_t (g := g) t1) ?_, l_told_no (.inr (.inr rfl)), is_no_eq 4⟩
      exact tup_eq (cons_eq (g := g) rfl (one_eq rfl)) (by simp)
    · rw [show ((i : Int) == (j : Int)) = false by simp; omega] at t1
      refine ⟨.tuple [.str "told", .str (toldS c c')], Eq.trans (ife_f (g := g) t1) ?_, l_told_yes g1 g2 (names_ne h s1 s2) (Nat.le_trans l1 (by decide)) (Nat.le_trans l2 (by decide)), is_told_eq 4 (toldS_ok _ _)⟩
      exact tup_eq (cons_eq (g := g) rfl (one_eq (fn_eq (g := g) (ds := [rowD (kr.map (·.1)), .int i, .int j]) rfl rfl (stands_eq R.inv hl hi hj c1 c2)))) (by simp)
  obtain ⟨T, e1, e2, e3⟩ := K
  refine ⟨dt T, ?_⟩
  unfold pairB
  refine Eq.trans (seq_nx (asg_one e1 rfl)) ?_
  refine Eq.trans (if_f (g := g) (not_eq (b := true) (tst_eq (fn_eq (g := g) (ds := [T, T]) (cons_eq (g := g) (fn_eq (g := g) (ds := [nameD (c, t), nameD (c', t')]) (cons_eq (g := g) (op_eq (g := g) (x := namesD (mNames run chains)) (y := .int (i : Nat)) rfl rfl i1) (one_eq (op_eq (g := g) (x := namesD (mNames run chains)) (y := .int (j : Nat)) rfl rfl i2))) rfl e2) (one_eq rfl)) rfl e3)))) rfl
theorem pair_loop {p : List (List Int)} (hl : p.length ≤ 40) {run : List Place} {kr : List (List Int × List Int)} {chains : List (List Int)} (R : Run p p.length run kr chains) (x4 x5 x6 x7 x8 x10 x11 x12 x13 x14 x15 : Option En) (g : Bag) :
    ∃ y4 y11 y14, (sFor (iR (dCall gLen (aCons (dVar 2) aNil))) (.one 4) (sFor (iR (dCall gLen (aCons (dVar 2) aNil))) (.one 11) pairB)) (lSt (dt (planD p)) (dt (namesD (mNames run chains))) x4 x5 x6 x7 x8 (dt (rowD (kr.map (·.1)))) x10 x11 x12 x13 x14 x15 g) =
    some (.nx (lSt (dt (planD p)) (dt (namesD (mNames run chains))) y4 x5 x6 x7 x8 (dt (rowD (kr.map (·.1)))) x10 y11 x12 x13 y14 x15 g)) := by
  have hI : ∀ δ : Dn, δ.sl[2]? = some (dt (planD p)) → iR (dCall gLen (aCons (dVar 2) aNil)) δ = some (rangeD p.length, δ.bag) := fun δ h => by
    refine iR_eq (n := p.length) (call_eq (ds := [planD p]) (one_eq ?_) (gLen_map tupI p)) (by omega)
    show dVar 2 δ = _
    unfold dVar
    rw [h]
  have inner : ∀ (i : Nat), i < p.length → ∀ (x11 x14 : Option En), ∃ y11 y14, (sFor (iR (dCall gLen (aCons (dVar 2) aNil))) (.one 11) pairB) (lSt (dt (planD p)) (dt (namesD (mNames run chains))) (dt (.int (i : Nat))) x5 x6 x7 x8 (dt (rowD (kr.map (·.1)))) x10 x11 x12 x13 x14 x15 g) =
      some (.nx (lSt (dt (planD p)) (dt (namesD (mNames run chains))) (dt (.int (i : Nat))) x5 x6 x7 x8 (dt (rowD (kr.map (·.1)))) x10 y11 x12 x13 y14 x15 g)) := fun i hi x11 x14 => by
    obtain ⟨δ', e, y11, y14, rfl⟩ := loop_ind (fun i : Nat => PyData.int (i : Nat)) (t := .one 11) (body := pairB) (List.range p.length) (fun _ δ => ∃ y11 y14, δ = lSt (dt (planD p)) (dt (namesD (mNames run chains))) (dt (.int (i : Nat))) x5 x6 x7 x8 (dt (rowD (kr.map (·.1)))) x10 y11 x12 x13 y14 x15 g) (by
      rintro k x hk δ ⟨y11, y14, rfl⟩
      obtain ⟨rfl, hkn⟩ := rng_at hk
      obtain ⟨z14, e⟩ := pair_body hl R hi hkn (dt (planD p)) x5 x6 x7 x8 x10 x12 x13 y14 x15 g
      exact ⟨_, _, rfl, e, _, z14, rfl⟩) (lSt (dt (planD p)) (dt (namesD (mNames run chains))) (dt (.int (i : Nat))) x5 x6 x7 x8 (dt (rowD (kr.map (·.1)))) x10 x11 x12 x13 x14 x15 g) ⟨x11, x14, rfl⟩
    exact ⟨y11, y14, (for_eq (g := g) (hI _ rfl)).trans e⟩
  obtain ⟨δ', e, y4, y11, y14, rfl⟩ := loop_ind (fun i : Nat => PyData.int (i : Nat)) (t := .one 4) (body := sFor (iR (dCall gLen (aCons (dVar 2) aNil))) (.one 11) pairB) (List.range p.length) (fun _ δ => ∃ y4 y11 y14, δ = lSt (dt (planD p)) (dt (namesD (mNames run chains))) y4 x5 x6 x7 x8 (dt (rowD (kr.map (·.1)))) x10 y11 x12 x13 y14 x15 g) (by
    rintro k x hk δ ⟨y4, y11, y14, rfl⟩
    obtain ⟨rfl, hkn⟩ := rng_at hk
    obtain ⟨z11, z14, e⟩ := inner x hkn y11 y14
    exact ⟨_, _, rfl, e, _, z11, z14, rfl⟩) (lSt (dt (planD p)) (dt (namesD (mNames run chains))) x4 x5 x6 x7 x8 (dt (rowD (kr.map (·.1)))) x10 x11 x12 x13 x14 x15 g) ⟨x4, x11, x14, rfl⟩
  exact ⟨y4, y11, y14, (for_eq (g := g) (hI _ rfl)).trans e⟩

/-! ### the spoiled names -/
def turnB : DS := (sSeq (sAsg (.one 15) (dFn 2 f_l_told (aCons (dVar 4) (aCons (dVar 11) aNil))))
  (sSeq (sIf (tAndD (tst (dVar 13)) (tOrD (tst (dOp gNe (dOp gIx (dVar 15) (dC (.int 0))) (dC (.str "told")))) (tst (dOp (gIn true) (dOp gIx (dVar 15) (dC (.int 1))) (dTup (aCons (dC (.str "tied")) (aCons (dC (.str "ahead")) (aCons (dC (.str "behind")) aNil)))))))) (sRet (dC (.bool false))) sNil)
  (sIf (tAndD (tNotD (tst (dVar 13))) (tst (dOp gNe (dVar 15) (dTup (aCons (dC (.str "none")) (aCons (dC (.bool true)) aNil)))))) (sRet (dC (.bool false))) sNil)))
def Told (fine : Bool) (T : PyData) : Prop := if fine = true then ∃ a b : List Int, T = .tuple [.str "told", .str (toldS a b)] else T = .tuple [.str "none", .bool true]
theorem in_three {x : Str} (h : ([.str "tied", .str "ahead", .str "behind"] : List PyData).any (fun e => PyData.eqv e (.str x)) = true) : gIn true (.str x) (.tuple [.str "tied", .str "ahead", .str "behind"]) = some (.bool false) := by
  have e : gIn true (.str x) (.tuple [.str "tied", .str "ahead", .str "behind"]) = some (.bool (!(([.str "tied", .str "ahead", .str "behind"] : List PyData).any fun e => PyData.eqv e (.str x)))) := by
    show (if flatD (.str x) = true ∧ ([.str "tied", .str "ahead", .str "behind"] : List PyData).all flatD = true then _ else none) = _
    rw [if_pos (show flatD (.str x) = true ∧ ([.str "tied", .str "ahead", .str "behind"] : List PyData).all flatD = true from ⟨rfl, rfl⟩)]
    rfl
  rw [e, h]
  rfl
theorem in_told (a b : List Int) : gIn true (.str (toldS a b)) (.tuple [.str "tied", .str "ahead", .str "behind"]) = some (.bool false) := by
  unfold toldS
  split
  · exact in_three (by decide +kernel)
  · split
    · exact in_three (by decide +kernel)
    · exact in_three (by decide +kernel)
theorem turn_body {d e T : PyData} {fine : Bool} (h : f_l_told [d, e] = some T) (hT : Told fine T) (x2 x3 x5 x6 x7 x8 x9 x10 x12 x14 x15 : Option En) (g : Bag) :
    ∃ y15, turnB (lSt x2 x3 (dt d) x5 x6 x7 x8 x9 x10 (dt e) x12 (dt (.bool fine)) x14 x15 g) = some (.nx (lSt x2 x3 (dt d) x5 x6 x7 x8 x9 x10 (dt e) x12 (dt (.bool fine)) x14 y15 g)) := by
  refine ⟨dt T, ?_⟩
  unfold turnB
  refine Eq.trans (seq_nx (asg_one (fn_eq (g := g) (ds := [d, e]) rfl rfl h) rfl)) ?_
  unfold Told at hT
  cases fine with
  | true =>
    rw [if_pos rfl] at hT
    obtain ⟨a, b, rfl⟩ := hT
    rw [seq_nx (δ1 := lSt x2 x3 (dt d) x5 x6 x7 x8 x9 x10 (dt e) x12 (dt (.bool true)) x14 (dt (.tuple [.str "told", .str (toldS a b)])) g)]
    · exact Eq.trans (if_f (g := g) (and_f (not_eq (b := true) rfl))) rfl
    · refine Eq.trans (if_f (g := g) (Eq.trans (and_t (g := g) rfl) (Eq.trans (or_f (g := g) (tst_eq (op_eq (g := g) (x := .str "told") (y := .str "told") (op_eq (g := g) (x := .tuple [.str "told", .str (toldS a b)]) (y := .int 0) rfl rfl rfl) rfl (gNe_self (sh_str (by decide +kernel)) (by decide +kernel))))) (tst_eq (op_eq (g := g) (x := .str (toldS a b)) (y := .tuple [.str "tied", .str "ahead", .str "behind"]) (op_eq (g := g) (x := .tuple [.str "told", .str (toldS a b)]) (y := .int 1) rfl rfl rfl) (tup_eq (cons_eq (g := g) rfl (cons_eq (g := g) rfl (one_eq rfl))) (by simp)) (in_told a b)))))) rfl
  | false =>
    rw [if_neg (by simp)] at hT
    subst hT
    rw [seq_nx (δ1 := lSt x2 x3 (dt d) x5 x6 x7 x8 x9 x10 (dt e) x12 (dt (.bool false)) x14 (dt (.tuple [.str "none", .bool true])) g)]
    · refine Eq.trans (if_f (g := g) (Eq.trans (and_t (g := g) (not_eq (b := false) rfl)) (tst_eq (op_eq (g := g) (x := .tuple [.str "none", .bool true]) (y := .tuple [.str "none", .bool true]) rfl (tup_eq (cons_eq (g := g) rfl (one_eq rfl)) (by simp)) (gNe_self (by decide +kernel) (by decide +kernel)))))) rfl
    · exact Eq.trans (if_f (g := g) (and_f rfl)) rfl
def spoilB : DS := (sSeq (sAsg (.one 12) (dBag 1 1 f_l_spoiled (aCons (dVar 5) aNil)))
  (sSeq (sAsg (.one 13) (dAnd (dFn 1 f_l_is_tied_name (aCons (dVar 12) aNil)) (dOp gNe (dVar 12) (dVar 5))))
  (sFor (iL (dLst (aCons (dTup (aCons (dVar 12) (aCons (dVar 5) aNil))) (aCons (dTup (aCons (dVar 5) (aCons (dVar 12) aNil))) aNil)))) (.many [4, 11]) turnB)))
theorem spoil_body {k : Nm} (hg : good (nameD k) = true) (hk : k.1.length ≤ 40) (x2 x3 x4 x6 x7 x8 x9 x10 x11 x12 x13 x14 x15 : Option En) (g : Bag) :
    ∃ y4 y11 y12 y13 y15 g', spoilB (lSt x2 x3 x4 (dt (nameD k)) x6 x7 x8 x9 x10 x11 x12 x13 x14 x15 g) = some (.nx (lSt x2 x3 y4 (dt (nameD k)) x6 x7 x8 x9 x10 y11 y12 y13 x14 y15 g')) := by
  obtain ⟨d, g1, e1⟩ := spoiled_eq g (good_ne hg) hk
  have K : ∃ (fine : Bool) (T T' : PyData), (dAnd (dFn 1 f_l_is_tied_name (aCons (dVar 12) aNil)) (dOp gNe (dVar 12) (dVar 5))) (lSt x2 x3 x4 (dt (nameD k)) x6 x7 x8 x9 x10 x11 (dt d) x13 x14 x15 g1) = some (.bool fine, g1) ∧ f_l_told [d, nameD k] = some T ∧ Told fine T ∧ f_l_told [nameD k, d] = some T' ∧ Told fine T' := by
    have t1 : (dFn 1 f_l_is_tied_name (aCons (dVar 12) aNil)) (lSt x2 x3 x4 (dt (nameD k)) x6 x7 x8 x9 x10 x11 (dt d) x13 x14 x15 g1) = some (.bool (good d), g1) := fn_eq (g := g1) (ds := [d]) rfl rfl (is_tied_name_eq d)
    cases hd : good d with
    | false =>
      rw [hd] at t1
      exact ⟨false, _, _, and_no t1, l_told_no (.inl hd), rfl, l_told_no (.inr (.inl hd)), rfl⟩
    | true =>
      rw [hd] at t1
      obtain ⟨k', rfl, hl'⟩ := good_name hd
      by_cases hkk : k' = k
      · subst hkk
        refine ⟨false, _, _, Eq.trans (and_eq t1) (op_eq (g := g1) (x := nameD k') (y := nameD k') rfl rfl ?_), l_told_no (.inr (.inr rfl)), rfl, l_told_no (.inr (.inr rfl)), rfl⟩
        rw [gNe_name]
        simp
      · refine ⟨true, _, _, Eq.trans (and_eq t1) (op_eq (g := g1) (x := nameD k') (y := nameD k) rfl rfl ?_), l_told_yes hd hg hkk (Nat.le_trans hl' (by decide)) (Nat.le_trans hk (by decide)), ?_, l_told_yes hg hd (Ne.symm hkk) (Nat.le_trans hk (by decide)) (Nat.le_trans hl' (by decide)), ?_⟩
        · rw [gNe_name]
          simp [hkk]
        · unfold Told
          rw [if_pos rfl]
          exact ⟨_, _, rfl⟩
        · unfold Told
          rw [if_pos rfl]
          exact ⟨_, _, rfl⟩
  obtain ⟨fine, T, T', e2, e3, h3, e4, h4⟩ := K
  obtain ⟨y15, e5⟩ := turn_body e3 h3 x2 x3 (dt (nameD k)) x6 x7 x8 x9 x10 (dt d) x14 x15 g1
  obtain ⟨z15, e6⟩ := turn_body e4 h4 x2 x3 (dt (nameD k)) x6 x7 x8 x9 x10 (dt d) x14 y15 g1
  refine ⟨dt (nameD k), dt d, dt d, dt (.bool fine), z15, g1, ?_⟩
  unfold spoilB
  refine Eq.trans (seq_nx (asg_one (bag_eq (g := g) (ds := [nameD k]) (one_eq rfl) rfl rfl e1) rfl)) ?_
  refine Eq.trans (seq_nx (asg_one e2 rfl)) ?_
  refine Eq.trans (for_eq (g := g1) (ds := [.tuple [d, nameD k], .tuple [nameD k, d]]) ?_) ?_
  · have : dLst (aCons (dTup (aCons (dVar 12) (aCons (dVar 5) aNil))) (aCons (dTup (aCons (dVar 5) (aCons (dVar 12) aNil))) aNil)) (lSt x2 x3 x4 (dt (nameD k)) x6 x7 x8 x9 x10 x11 (dt d) (dt (.bool fine)) x14 x15 g1) = some (.list [.tuple [d, nameD k], .tuple [nameD k, d]], g1) :=
      lst_eq (cons_eq (g := g1) (tup_eq (ds := [d, nameD k]) (cons_eq (g := g1) rfl (one_eq rfl)) (by simp)) (one_eq (tup_eq (ds := [nameD k, d]) (cons_eq (g := g1) rfl (one_eq rfl)) (by simp)))) (by simp)
    exact iL_eq this
  · refine Eq.trans (loop_nx (δ1 := lSt x2 x3 (dt d) (dt (nameD k)) x6 x7 x8 x9 x10 (dt (nameD k)) (dt d) (dt (.bool fine)) x14 x15 g1) rfl e5) ?_
    refine Eq.trans (loop_nx (δ1 := lSt x2 x3 (dt (nameD k)) (dt (nameD k)) x6 x7 x8 x9 x10 (dt d) (dt d) (dt (.bool fine)) x14 y15 g1) rfl e6) rfl
theorem spoil_loop {k : Nm} (hg : good (nameD k) = true) (hk : k.1.length ≤ 40) (x2 x3 x4 x6 x7 x8 x9 x10 x11 x12 x13 x14 x15 : Option En) (g : Bag) :
    ∃ y4 y6 y11 y12 y13 y15 g', (sFor (iR (dC (.int 6))) (.one 6) spoilB) (lSt x2 x3 x4 (dt (nameD k)) x6 x7 x8 x9 x10 x11 x12 x13 x14 x15 g) = some (.nx (lSt x2 x3 y4 (dt (nameD k)) y6 x7 x8 x9 x10 y11 y12 y13 x14 y15 g')) := by
  obtain ⟨δ', e, y4, y6, y11, y12, y13, y15, g', rfl⟩ := loop_ind (fun i : Nat => PyData.int (i : Nat)) (t := .one 6) (body := spoilB) (List.range 6) (fun _ δ => ∃ y4 y6 y11 y12 y13 y15 g', δ = lSt x2 x3 y4 (dt (nameD k)) y6 x7 x8 x9 x10 y11 y12 y13 x14 y15 g') (by
    rintro j x hj δ ⟨y4, y6, y11, y12, y13, y15, g', rfl⟩
    obtain ⟨z4, z11, z12, z13, z15, g2, e⟩ := spoil_body hg hk x2 x3 y4 (dt (.int (x : Nat))) x7 x8 x9 x10 y11 y12 y13 x14 y15 g'
    exact ⟨_, _, rfl, e, z4, _, z11, z12, z13, z15, g2, rfl⟩) (lSt x2 x3 x4 (dt (nameD k)) x6 x7 x8 x9 x10 x11 x12 x13 x14 x15 g) ⟨x4, x6, x11, x12, x13, x15, g, rfl⟩
  exact ⟨y4, y6, y11, y12, y13, y15, g', (for_eq (g := g) (iR_eq (n := 6) rfl (by decide))).trans e⟩
end K71

set_option Elab.async false
set_option linter.all false
set_option maxRecDepth 100000
set_option maxHeartbeats 4000000
namespace K71
open PySem L2
/-! ### the law, whole -/
theorem ok37 : good (nameD ([3, 5], some 7)) = true := by decide +kernel
theorem law_eq (g0 : Bag) : ∃ b, d_law (initL g0) = some (.rt (.bool true) b) := by
  obtain ⟨p, g1, e1, hp, hl9⟩ := plan_eq g0 (m := 9) (by decide)
  have hl : p.length ≤ 40 := by omega
  obtain ⟨run, kr, chains, g2, R, e2⟩ := tie_run_eq g1 hp hl
  obtain ⟨N, hN⟩ : ∃ N, N = mNames run chains := ⟨_, rfl⟩
  have hNl : N.length = p.length := by rw [hN, len_name, R.inv.len]
  have hNg : ∀ k ∈ N, good (nameD k) = true ∧ k.1.length ≤ 40 := fun k hk => R.nameAt hl (hN ▸ hk)
  have e3 : f_tie_names [planD p, runD run] = some (namesD N) := by rw [hN]; exact tie_names_eq hp hl R
  have e4 : f_l_tie_names [runD run, rowD chains] = some (namesD N) := by rw [hN]; exact l_tie_names_eq hl R
  have e5 : f_l_is 6 [namesD N, namesD N] = some (.bool true) := is_names_eq 2 N (by omega) fun k hk => Nat.le_trans (hNg k hk).2 (by decide)
  obtain ⟨y4, y11, y14, e6⟩ := pair_loop hl R none none none none (dt (runD run)) (dt (rowD chains)) none none none none none g2
  rw [← hN] at e6
  obtain ⟨es, e7, e8⟩ := many_eq hp hl
  have e9 : f_l_is 6 [.int (2 * es.sum - p.length), .int (2 * es.sum - p.length)] = some (.bool true) := is_int_eq 5 _
  have K : ∃ (k : Nm) (g3 : Bag), good (nameD k) = true ∧ k.1.length ≤ 40 ∧ (dIf (tst (dOp gGt (dCall gLen (aCons (dVar 3) aNil)) (dC (.int 0)))) (dOp gIx (dVar 3) (dBag 1 1 f_l_draw (aCons (dCall gLen (aCons (dVar 3) aNil)) aNil))) (dTup (aCons (dTup (aCons (dC (.int 3)) (aCons (dC (.int 5)) aNil))) (aCons (dC (.int 7)) aNil))))
      (lSt (dt (planD p)) (dt (namesD N)) y4 none none none (dt (runD run)) (dt (rowD (kr.map (·.1)))) (dt (rowD chains)) y11 none none y14 none g2) = some (nameD k, g3) := by
    have t1 : tst (dOp gGt (dCall gLen (aCons (dVar 3) aNil)) (dC (.int 0))) (lSt (dt (planD p)) (dt (namesD N)) y4 none none none (dt (runD run)) (dt (rowD (kr.map (·.1)))) (dt (rowD chains)) y11 none none y14 none g2) = some (decide ((0 : Int) < (N.length : Int)), g2) :=
      tst_eq (op_eq (g := g2) (x := .int (N.length : Nat)) (y := .int 0) (call_eq (one_eq rfl) (gLen_map nameD N)) rfl rfl)
    by_cases h0 : (0 : Int) < (N.length : Int)
    · rw [decide_eq_true h0] at t1
      obtain ⟨r, g3, d1, r0, r1⟩ := draw_eq g2 (m := (N.length : Int)) h0 (by omega)
      have hr : N[r.toNat]? = some (N[r.toNat]'(by omega)) := List.getElem?_eq_getElem (by omega)
      generalize N[r.toNat]'(by omega) = k at hr
      obtain ⟨k1, k2⟩ := hNg k (List.mem_of_getElem? hr)
      refine ⟨k, g3, k1, k2, Eq.trans (ife_t (g := g2) t1) ?_⟩
      exact op_eq (g := g2) (x := namesD N) (y := .int r) rfl (bag_eq (g := g2) (ds := [.int (N.length : Nat)]) (one_eq (call_eq (one_eq rfl) (gLen_map nameD N))) rfl rfl d1) (at_eq r0 (by simp [hr]))
    · rw [decide_eq_false h0] at t1
      refine ⟨([3, 5], some 7), g2, ok37, by decide, Eq.trans (ife_f (g := g2) t1) ?_⟩
      exact tup_eq (ds := [.tuple [.int 3, .int 5], .int 7]) (cons_eq (g := g2) (tup_eq (cons_eq (g := g2) rfl (one_eq rfl)) (by simp)) (one_eq rfl)) (by simp)
  obtain ⟨k, g3, k1, k2, e10⟩ := K
  obtain ⟨z4, z6, z11, z12, z13, z15, g4, e11⟩ := spoil_loop k1 k2 (dt (planD p)) (dt (namesD N)) y4 none none (dt (runD run)) (dt (rowD (kr.map (·.1)))) (dt (rowD chains)) y11 none none y14 none g3
  obtain ⟨q, g5, e12, hq, hq4⟩ := plan_eq g4 (m := 4) (by decide)
  refine ⟨g5, ?_⟩
  show d_law (lSt none none none none none none none none none none none none none none g0) = _
  unfold d_law
  refine Eq.trans (seq_nx (δ1 := lSt (dt (planD p)) none none none none none none none none none none none none none g1) (asg_one (bag_eq (g := g0) (ds := [.int 9]) (one_eq rfl) rfl rfl e1) rfl)) ?_
  refine Eq.trans (seq_nx (δ1 := lSt (dt (planD p)) none none none none none (dt (runD run)) (dt (rowD (kr.map (·.1)))) (dt (rowD chains)) none none none none none g2) (asg_many (bag_eq (g := g1) (ds := [planD p]) (one_eq rfl) rfl rfl e2) rfl rfl)) ?_
  refine Eq.trans (seq_nx (δ1 := lSt (dt (planD p)) (dt (namesD N)) none none none none (dt (runD run)) (dt (rowD (kr.map (·.1)))) (dt (rowD chains)) none none none none none g2) (asg_one (fn_eq (g := g2) (ds := [planD p, runD run]) rfl rfl e3) rfl)) ?_
  refine Eq.trans (seq_nx (δ1 := lSt (dt (planD p)) (dt (namesD N)) none none none none (dt (runD run)) (dt (rowD (kr.map (·.1)))) (dt (rowD chains)) none none none none none g2) (Eq.trans (if_f (g := g2) (not_eq (b := true) (tst_eq (fn_eq (g := g2) (ds := [namesD N, namesD N]) (cons_eq (g := g2) rfl (one_eq (fn_eq (g := g2) (ds := [runD run, rowD chains]) rfl rfl e4))) rfl e5)))) rfl)) ?_
  refine Eq.trans (seq_nx e6) ?_
  refine Eq.trans (seq_nx (δ1 := lSt (dt (planD p)) (dt (namesD N)) y4 none none none (dt (runD run)) (dt (rowD (kr.map (·.1)))) (dt (rowD chains)) y11 none none y14 none g2) (Eq.trans (if_f (g := g2) (not_eq (b := true) (tst_eq (fn_eq (g := g2) (ds := [.int (2 * es.sum - p.length), .int (2 * es.sum - p.length)])
    (cons_eq (g := g2) (fn_eq (g := g2) (ds := [planD p]) rfl rfl e8) (one_eq (op_eq (g := g2) (x := .int (2 * es.sum)) (y := .int (p.length : Nat)) (op_eq (g := g2) (x := .int 2) (y := .int es.sum) rfl (call_eq (one_eq (fn_eq (g := g2) (ds := [planD p]) rfl rfl e7)) (gSum_ints es)) (cMul_l (by decide))) (call_eq (one_eq rfl) (gLen_map tupI p)) rfl))) rfl e9)))) rfl)) ?_
  refine Eq.trans (seq_nx (asg_one e10 rfl)) ?_
  refine Eq.trans (seq_nx e11) ?_
  refine Eq.trans (seq_nx (δ1 := lSt (dt (planD p)) (dt (namesD N)) z4 (dt (nameD k)) z6 (dt (planD q)) (dt (runD run)) (dt (rowD (kr.map (·.1)))) (dt (rowD chains)) z11 z12 z13 y14 z15 g5) (asg_one (bag_eq (g := g4) (ds := [.int 4]) (one_eq rfl) rfl rfl e12) rfl)) ?_
  refine Eq.trans (seq_nx (δ1 := lSt (dt (planD p)) (dt (namesD N)) z4 (dt (nameD k)) z6 (dt (planD q)) (dt (runD run)) (dt (rowD (kr.map (·.1)))) (dt (rowD chains)) z11 z12 z13 y14 z15 g5) (Eq.trans (if_f (g := g5) (tst_eq (op_eq (g := g5) (x := .list ((mF q q.length).map fndD)) (y := .none) (fn_eq (g := g5) (ds := [planD q, .int 600]) rfl rfl (tie_runs_eq hq hq4)) rfl rfl))) rfl)) ?_
  refine ret_eq (op_eq (g := g5) (fn_eq (g := g5) (ds := [planD q]) rfl rfl (all_names_eq hq hq4)) (fn_eq (g := g5) (ds := [planD q]) rfl rfl (small_eq hq hq4)) ?_)
  rw [gEq_int]
  simp
theorem kept : Kept := fun ns hn => by
  obtain ⟨s, g, e⟩ := bag_ok ns hn
  obtain ⟨b, h⟩ := law_eq ⟨s, 0, g⟩
  exact ⟨s, g, b, e, h⟩
end K71

set_option Elab.async false
set_option linter.all false
set_option maxRecDepth 100000
set_option maxHeartbeats 4000000
namespace K71
open PySem L2
theorem def_mk {K : PySem.W.Frag} {mg : Str → Option Value} {x : Str} {st : Stmt} {ps : List Str} {f : Addr} {fd : FuncData} (F : Fun K x x st f fd) (g : mg x = some (.ref f)) (hb : Binds K fd ps []) : DefAt K mg x st ps f fd := ⟨F, g, hb⟩
theorem kit_ref {K : PySem.W.Frag} {t : Value} {C : Addr} (h1 : PySem.W.isClsIn K C = true) (h2 : PySem.W.typeIn K (.ref C) = some (.type "type")) (h3 : PySem.W.subIn K t (.ref C) = some true) : PySem.W.kitOne K t (.ref C) = some true := by
  unfold PySem.W.kitOne
  split
  · rfl
  · show (if ((PySem.W.clsIn K C).isSome && PySem.W.typeIn K (.ref C) == some (.type "type")) = true then PySem.W.subIn K t (.ref C) else none) = some true
    have h1' : (PySem.W.clsIn K C).isSome = true := h1
    rw [h1', h2, if_pos (by rfl)]
    exact h3
theorem kit_type {K : PySem.W.Frag} {t : Value} {T : String} (h1 : PySem.W.kitMeta T = true) (h3 : PySem.W.subIn K t (.type T) = some true) : PySem.W.kitOne K t (.type T) = some true := by
  unfold PySem.W.kitOne
  split
  · rfl
  · show (if PySem.W.kitMeta T = true then PySem.W.subIn K t (.type T) else none) = some true
    rw [if_pos h1]
    exact h3
theorem all_mk (kept : Kept) {l : PySem.W.OpenLaw} {w : World} {K : PySem.W.Frag} {h : Heap} {mg : Str → Option Value} {fa : Addr} {CN CB : Addr} {tk : Tok} (X : K.In h) (G : h.Ns mainGlobals mg) (hfa : mg "law" = some (.ref fa))
    {f7 f8 f9 f10 f11 f13 f14 f16 f18 f19 f20 f21 f22 f23 f24 f25 f27 f28 f29 f30 f31 f32 f33 f34 f35 f36 f37 f38 f39 f40 f41 f42 f43 f44 f45 f46 f47 f48 f49 : Addr}
    {od7 an7 od8 an8 od9 an9 od10 an10 od11 an11 od13 an13 od14 an14 od16 an16 od18 an18 od19 an19 od20 an20 od21 an21 od22 an22 od23 an23 od24 an24 od25 an25 od27 an27 od28 an28 od29 an29 od30 an30 od31 an31 od32 an32 od33 an33 od34 an34 od35 an35 od36 an36 od37 an37 od38 an38 od39 an39 od40 an40 od41 an41 od42 an42 od43 an43 od44 an44 od45 an45 od46 an46 od47 an47 od48 an48 od49 an49 : Option Addr}
    {sl7 sl8 sl9 sl10 sl11 sl13 sl14 sl16 sl18 sl19 sl20 sl21 sl22 sl23 sl24 sl25 sl27 sl28 sl29 sl30 sl31 sl32 sl33 sl34 sl35 sl36 sl37 sl38 sl39 sl40 sl41 sl42 sl43 sl44 sl45 sl46 sl47 sl48 sl49 : Array (Option Value)}
    {oc7 kV7 dc7 pm7 cd7 ct7 oc8 kV8 dc8 pm8 cd8 ct8 oc9 kV9 dc9 pm9 cd9 ct9 oc10 kV10 dc10 pm10 cd10 ct10 oc11 kV11 dc11 pm11 cd11 ct11 oc13 kV13 dc13 pm13 cd13 ct13 oc14 kV14 dc14 pm14 cd14 ct14 oc16 kV16 dc16 pm16 cd16 ct16 oc18 kV18 dc18 pm18 cd18 ct18 oc19 kV19 dc19 pm19 cd19 ct19 oc20 kV20 dc20 pm20 cd20 ct20 oc21 kV21 dc21 pm21 cd21 ct21 oc22 kV22 dc22 pm22 cd22 ct22 oc23 kV23 dc23 pm23 cd23 ct23 oc24 kV24 dc24 pm24 cd24 ct24 oc25 kV25 dc25 pm25 cd25 ct25 oc27 kV27 dc27 pm27 cd27 ct27 oc28 kV28 dc28 pm28 cd28 ct28 oc29 kV29 dc29 pm29 cd29 ct29 oc30 kV30 dc30 pm30 cd30 ct30 oc31 kV31 dc31 pm31 cd31 ct31 oc32 kV32 dc32 pm32 cd32 ct32 oc33 kV33 dc33 pm33 cd33 ct33 oc34 kV34 dc34 pm34 cd34 ct34 oc35 kV35 dc35 pm35 cd35 ct35 oc36 kV36 dc36 pm36 cd36 ct36 oc37 kV37 dc37 pm37 cd37 ct37 oc38 kV38 dc38 pm38 cd38 ct38 oc39 kV39 dc39 pm39 cd39 ct39 oc40 kV40 dc40 pm40 cd40 ct40 oc41 kV41 dc41 pm41 cd41 ct41 oc42 kV42 dc42 pm42 cd42 ct42 oc43 kV43 dc43 pm43 cd43 ct43 oc44 kV44 dc44 pm44 cd44 ct44 oc45 kV45 dc45 pm45 cd45 ct45 oc46 kV46 dc46 pm46 cd46 ct46 oc47 kV47 dc47 pm47 cd47 ct47 oc48 kV48 dc48 pm48 cd48 ct48 oc49 kV49 dc49 pm49 cd49 ct49 : Value}
    (gN : PySem.W.nsIn K mainGlobals "NoName" = some (some (.ref CN)))
    (gB : PySem.W.nsIn K mainGlobals "BetweenError" = some (some (.ref CB)))
    (kN : PySem.W.keepIn K (.ref CN) = true)
    (xN : PySem.W.excIn K CN [.type "ValueError", .type "Exception", .type "BaseException", .type "object"] "ValueError.__new__" = true)
    (bN : PySem.W.subIn K (.ref CN) (.type "BaseException") = some true)
    (tN : PySem.W.typeIn K (.ref CN) = some (.type "type"))
    (hd : PySem.W.hasDictIn K CN = true)
    (sN : PySem.W.subIn K (.ref CN) (.ref CN) = some true)
    (ga : PySem.W.findIn K (.ref CN) "__getattribute__" = some (some (.builtin "BaseException.__getattribute__")))
    (gg : PySem.W.findIn K (.ref CN) "__getattr__" = some none)
    (gc : PySem.W.findIn K (.ref CN) "__class__" = some (some (.builtin "object.__class__")))
    (hn : PySem.W.specialIn K (.builtin "object.__class__") "__get__" = some (some (.builtin "getset_descriptor.__get__")))
    (ht : PySem.W.takesIn K (.builtin "object.__class__") = some true)
    (hm : PySem.W.mroIn K CN (.type "object") = some true)
    (hB : PySem.W.isClsIn K CB = true)
    (tB : PySem.W.typeIn K (.ref CB) = some (.type "type"))
    (sB : PySem.W.subIn K (.ref CN) (.ref CB) = some true)
    (sV : PySem.W.subIn K (.ref CN) (.type "ValueError") = some true)
    (z_len : PySem.W.nsIn K mainGlobals "len" = some none)
    (z_sum : PySem.W.nsIn K mainGlobals "sum" = some none)
    (z_sorted : PySem.W.nsIn K mainGlobals "sorted" = some none)
    (z_abs : PySem.W.nsIn K mainGlobals "abs" = some none)
    (z_all : PySem.W.nsIn K mainGlobals "all" = some none)
    (z_int : PySem.W.nsIn K mainGlobals "int" = some none)
    (z_tuple : PySem.W.nsIn K mainGlobals "tuple" = some none)
    (z_list : PySem.W.nsIn K mainGlobals "list" = some none)
    (z_bool : PySem.W.nsIn K mainGlobals "bool" = some none)
    (z_str : PySem.W.nsIn K mainGlobals "str" = some none)
    (z_dict : PySem.W.nsIn K mainGlobals "dict" = some none)
    (z_range : PySem.W.nsIn K mainGlobals "range" = some none)
    (z_enumerate : PySem.W.nsIn K mainGlobals "enumerate" = some none)
    (z_isinstance : PySem.W.nsIn K mainGlobals "isinstance" = some none)
    (z_ValueError : PySem.W.nsIn K mainGlobals "ValueError" = some none)
    (most : PySem.W.nsIn K mainGlobals "MOST_ITEMS" = some (some (.int 40 tk)))
    (a7 : PySem.W.nsIn K mainGlobals "is_integer" = some (some (.ref f7)))
    (l7 : K.lookup f7 = some ⟨oc7, od7, .func (PySem.W.fnOf "is_integer" "is_integer" (defArgs (top 7)) (defBody (top 7)) (defScope (top 7)) .none kV7 dc7 pm7 an7 cd7 ct7), sl7⟩)
    (c7 : PySem.W.codeIn K cd7 "is_integer" = true)
    (k7 : PySem.W.keepIn K (.ref f7) = true)
    (a8 : PySem.W.nsIn K mainGlobals "is_within" = some (some (.ref f8)))
    (l8 : K.lookup f8 = some ⟨oc8, od8, .func (PySem.W.fnOf "is_within" "is_within" (defArgs (top 8)) (defBody (top 8)) (defScope (top 8)) .none kV8 dc8 pm8 an8 cd8 ct8), sl8⟩)
    (c8 : PySem.W.codeIn K cd8 "is_within" = true)
    (k8 : PySem.W.keepIn K (.ref f8) = true)
    (a9 : PySem.W.nsIn K mainGlobals "are_items" = some (some (.ref f9)))
    (l9 : K.lookup f9 = some ⟨oc9, od9, .func (PySem.W.fnOf "are_items" "are_items" (defArgs (top 9)) (defBody (top 9)) (defScope (top 9)) .none kV9 dc9 pm9 an9 cd9 ct9), sl9⟩)
    (c9 : PySem.W.codeIn K cd9 "are_items" = true)
    (k9 : PySem.W.keepIn K (.ref f9) = true)
    (a10 : PySem.W.nsIn K mainGlobals "is_sound" = some (some (.ref f10)))
    (l10 : K.lookup f10 = some ⟨oc10, od10, .func (PySem.W.fnOf "is_sound" "is_sound" (defArgs (top 10)) (defBody (top 10)) (defScope (top 10)) .none kV10 dc10 pm10 an10 cd10 ct10), sl10⟩)
    (c10 : PySem.W.codeIn K cd10 "is_sound" = true)
    (k10 : PySem.W.keepIn K (.ref f10) = true)
    (a11 : PySem.W.nsIn K mainGlobals "check_plan" = some (some (.ref f11)))
    (l11 : K.lookup f11 = some ⟨oc11, od11, .func (PySem.W.fnOf "check_plan" "check_plan" (defArgs (top 11)) (defBody (top 11)) (defScope (top 11)) .none kV11 dc11 pm11 an11 cd11 ct11), sl11⟩)
    (c11 : PySem.W.codeIn K cd11 "check_plan" = true)
    (k11 : PySem.W.keepIn K (.ref f11) = true)
    (a13 : PySem.W.nsIn K mainGlobals "ending_of" = some (some (.ref f13)))
    (l13 : K.lookup f13 = some ⟨oc13, od13, .func (PySem.W.fnOf "ending_of" "ending_of" (defArgs (top 13)) (defBody (top 13)) (defScope (top 13)) .none kV13 dc13 pm13 an13 cd13 ct13), sl13⟩)
    (c13 : PySem.W.codeIn K cd13 "ending_of" = true)
    (k13 : PySem.W.keepIn K (.ref f13) = true)
    (a14 : PySem.W.nsIn K mainGlobals "many_chains" = some (some (.ref f14)))
    (l14 : K.lookup f14 = some ⟨oc14, od14, .func (PySem.W.fnOf "many_chains" "many_chains" (defArgs (top 14)) (defBody (top 14)) (defScope (top 14)) .none kV14 dc14 pm14 an14 cd14 ct14), sl14⟩)
    (c14 : PySem.W.codeIn K cd14 "many_chains" = true)
    (k14 : PySem.W.keepIn K (.ref f14) = true)
    (a16 : PySem.W.nsIn K mainGlobals "chain_key" = some (some (.ref f16)))
    (l16 : K.lookup f16 = some ⟨oc16, od16, .func (PySem.W.fnOf "chain_key" "chain_key" (defArgs (top 16)) (defBody (top 16)) (defScope (top 16)) .none kV16 dc16 pm16 an16 cd16 ct16), sl16⟩)
    (c16 : PySem.W.codeIn K cd16 "chain_key" = true)
    (k16 : PySem.W.keepIn K (.ref f16) = true)
    (a18 : PySem.W.nsIn K mainGlobals "is_place" = some (some (.ref f18)))
    (l18 : K.lookup f18 = some ⟨oc18, od18, .func (PySem.W.fnOf "is_place" "is_place" (defArgs (top 18)) (defBody (top 18)) (defScope (top 18)) .none kV18 dc18 pm18 an18 cd18 ct18), sl18⟩)
    (c18 : PySem.W.codeIn K cd18 "is_place" = true)
    (k18 : PySem.W.keepIn K (.ref f18) = true)
    (a19 : PySem.W.nsIn K mainGlobals "own_chains" = some (some (.ref f19)))
    (l19 : K.lookup f19 = some ⟨oc19, od19, .func (PySem.W.fnOf "own_chains" "own_chains" (defArgs (top 19)) (defBody (top 19)) (defScope (top 19)) .none kV19 dc19 pm19 an19 cd19 ct19), sl19⟩)
    (c19 : PySem.W.codeIn K cd19 "own_chains" = true)
    (k19 : PySem.W.keepIn K (.ref f19) = true)
    (a20 : PySem.W.nsIn K mainGlobals "checked_chains" = some (some (.ref f20)))
    (l20 : K.lookup f20 = some ⟨oc20, od20, .func (PySem.W.fnOf "checked_chains" "checked_chains" (defArgs (top 20)) (defBody (top 20)) (defScope (top 20)) .none kV20 dc20 pm20 an20 cd20 ct20), sl20⟩)
    (c20 : PySem.W.codeIn K cd20 "checked_chains" = true)
    (k20 : PySem.W.keepIn K (.ref f20) = true)
    (a21 : PySem.W.nsIn K mainGlobals "tie_names" = some (some (.ref f21)))
    (l21 : K.lookup f21 = some ⟨oc21, od21, .func (PySem.W.fnOf "tie_names" "tie_names" (defArgs (top 21)) (defBody (top 21)) (defScope (top 21)) .none kV21 dc21 pm21 an21 cd21 ct21), sl21⟩)
    (c21 : PySem.W.codeIn K cd21 "tie_names" = true)
    (k21 : PySem.W.keepIn K (.ref f21) = true)
    (a22 : PySem.W.nsIn K mainGlobals "many_tie_names" = some (some (.ref f22)))
    (l22 : K.lookup f22 = some ⟨oc22, od22, .func (PySem.W.fnOf "many_tie_names" "many_tie_names" (defArgs (top 22)) (defBody (top 22)) (defScope (top 22)) .none kV22 dc22 pm22 an22 cd22 ct22), sl22⟩)
    (c22 : PySem.W.codeIn K cd22 "many_tie_names" = true)
    (k22 : PySem.W.keepIn K (.ref f22) = true)
    (a23 : PySem.W.nsIn K mainGlobals "is_tie_name" = some (some (.ref f23)))
    (l23 : K.lookup f23 = some ⟨oc23, od23, .func (PySem.W.fnOf "is_tie_name" "is_tie_name" (defArgs (top 23)) (defBody (top 23)) (defScope (top 23)) .none kV23 dc23 pm23 an23 cd23 ct23), sl23⟩)
    (c23 : PySem.W.codeIn K cd23 "is_tie_name" = true)
    (k23 : PySem.W.keepIn K (.ref f23) = true)
    (a24 : PySem.W.nsIn K mainGlobals "told_of" = some (some (.ref f24)))
    (l24 : K.lookup f24 = some ⟨oc24, od24, .func (PySem.W.fnOf "told_of" "told_of" (defArgs (top 24)) (defBody (top 24)) (defScope (top 24)) .none kV24 dc24 pm24 an24 cd24 ct24), sl24⟩)
    (c24 : PySem.W.codeIn K cd24 "told_of" = true)
    (k24 : PySem.W.keepIn K (.ref f24) = true)
    (a25 : PySem.W.nsIn K mainGlobals "tie_told" = some (some (.ref f25)))
    (l25 : K.lookup f25 = some ⟨oc25, od25, .func (PySem.W.fnOf "tie_told" "tie_told" (defArgs (top 25)) (defBody (top 25)) (defScope (top 25)) .none kV25 dc25 pm25 an25 cd25 ct25), sl25⟩)
    (c25 : PySem.W.codeIn K cd25 "tie_told" = true)
    (k25 : PySem.W.keepIn K (.ref f25) = true)
    (a27 : PySem.W.nsIn K mainGlobals "_law_bag" = some (some (.ref f27)))
    (l27 : K.lookup f27 = some ⟨oc27, od27, .func (PySem.W.fnOf "_law_bag" "_law_bag" (defArgs (top 27)) (defBody (top 27)) (defScope (top 27)) .none kV27 dc27 pm27 an27 cd27 ct27), sl27⟩)
    (c27 : PySem.W.codeIn K cd27 "_law_bag" = true)
    (k27 : PySem.W.keepIn K (.ref f27) = true)
    (a28 : PySem.W.nsIn K mainGlobals "_law_draw" = some (some (.ref f28)))
    (l28 : K.lookup f28 = some ⟨oc28, od28, .func (PySem.W.fnOf "_law_draw" "_law_draw" (defArgs (top 28)) (defBody (top 28)) (defScope (top 28)) .none kV28 dc28 pm28 an28 cd28 ct28), sl28⟩)
    (c28 : PySem.W.codeIn K cd28 "_law_draw" = true)
    (k28 : PySem.W.keepIn K (.ref f28) = true)
    (a29 : PySem.W.nsIn K mainGlobals "_law_any" = some (some (.ref f29)))
    (l29 : K.lookup f29 = some ⟨oc29, od29, .func (PySem.W.fnOf "_law_any" "_law_any" (defArgs (top 29)) (defBody (top 29)) (defScope (top 29)) .none kV29 dc29 pm29 an29 cd29 ct29), sl29⟩)
    (c29 : PySem.W.codeIn K cd29 "_law_any" = true)
    (k29 : PySem.W.keepIn K (.ref f29) = true)
    (a30 : PySem.W.nsIn K mainGlobals "_law_is" = some (some (.ref f30)))
    (l30 : K.lookup f30 = some ⟨oc30, od30, .func (PySem.W.fnOf "_law_is" "_law_is" (defArgs (top 30)) (defBody (top 30)) (defScope (top 30)) .none kV30 dc30 pm30 an30 cd30 ct30), sl30⟩)
    (c30 : PySem.W.codeIn K cd30 "_law_is" = true)
    (k30 : PySem.W.keepIn K (.ref f30) = true)
    (a31 : PySem.W.nsIn K mainGlobals "_law_has" = some (some (.ref f31)))
    (l31 : K.lookup f31 = some ⟨oc31, od31, .func (PySem.W.fnOf "_law_has" "_law_has" (defArgs (top 31)) (defBody (top 31)) (defScope (top 31)) .none kV31 dc31 pm31 an31 cd31 ct31), sl31⟩)
    (c31 : PySem.W.codeIn K cd31 "_law_has" = true)
    (k31 : PySem.W.keepIn K (.ref f31) = true)
    (a32 : PySem.W.nsIn K mainGlobals "_law_closed" = some (some (.ref f32)))
    (l32 : K.lookup f32 = some ⟨oc32, od32, .func (PySem.W.fnOf "_law_closed" "_law_closed" (defArgs (top 32)) (defBody (top 32)) (defScope (top 32)) .none kV32 dc32 pm32 an32 cd32 ct32), sl32⟩)
    (c32 : PySem.W.codeIn K cd32 "_law_closed" = true)
    (k32 : PySem.W.keepIn K (.ref f32) = true)
    (a33 : PySem.W.nsIn K mainGlobals "_law_sized" = some (some (.ref f33)))
    (l33 : K.lookup f33 = some ⟨oc33, od33, .func (PySem.W.fnOf "_law_sized" "_law_sized" (defArgs (top 33)) (defBody (top 33)) (defScope (top 33)) .none kV33 dc33 pm33 an33 cd33 ct33), sl33⟩)
    (c33 : PySem.W.codeIn K cd33 "_law_sized" = true)
    (k33 : PySem.W.keepIn K (.ref f33) = true)
    (a34 : PySem.W.nsIn K mainGlobals "_law_ends" = some (some (.ref f34)))
    (l34 : K.lookup f34 = some ⟨oc34, od34, .func (PySem.W.fnOf "_law_ends" "_law_ends" (defArgs (top 34)) (defBody (top 34)) (defScope (top 34)) .none kV34 dc34 pm34 an34 cd34 ct34), sl34⟩)
    (c34 : PySem.W.codeIn K cd34 "_law_ends" = true)
    (k34 : PySem.W.keepIn K (.ref f34) = true)
    (a35 : PySem.W.nsIn K mainGlobals "_law_plan" = some (some (.ref f35)))
    (l35 : K.lookup f35 = some ⟨oc35, od35, .func (PySem.W.fnOf "_law_plan" "_law_plan" (defArgs (top 35)) (defBody (top 35)) (defScope (top 35)) .none kV35 dc35 pm35 an35 cd35 ct35), sl35⟩)
    (c35 : PySem.W.codeIn K cd35 "_law_plan" = true)
    (k35 : PySem.W.keepIn K (.ref f35) = true)
    (a36 : PySem.W.nsIn K mainGlobals "_law_is_index" = some (some (.ref f36)))
    (l36 : K.lookup f36 = some ⟨oc36, od36, .func (PySem.W.fnOf "_law_is_index" "_law_is_index" (defArgs (top 36)) (defBody (top 36)) (defScope (top 36)) .none kV36 dc36 pm36 an36 cd36 ct36), sl36⟩)
    (c36 : PySem.W.codeIn K cd36 "_law_is_index" = true)
    (k36 : PySem.W.keepIn K (.ref f36) = true)
    (a37 : PySem.W.nsIn K mainGlobals "_law_home" = some (some (.ref f37)))
    (l37 : K.lookup f37 = some ⟨oc37, od37, .func (PySem.W.fnOf "_law_home" "_law_home" (defArgs (top 37)) (defBody (top 37)) (defScope (top 37)) .none kV37 dc37 pm37 an37 cd37 ct37), sl37⟩)
    (c37 : PySem.W.codeIn K cd37 "_law_home" = true)
    (k37 : PySem.W.keepIn K (.ref f37) = true)
    (a38 : PySem.W.nsIn K mainGlobals "_law_seen_groups" = some (some (.ref f38)))
    (l38 : K.lookup f38 = some ⟨oc38, od38, .func (PySem.W.fnOf "_law_seen_groups" "_law_seen_groups" (defArgs (top 38)) (defBody (top 38)) (defScope (top 38)) .none kV38 dc38 pm38 an38 cd38 ct38), sl38⟩)
    (c38 : PySem.W.codeIn K cd38 "_law_seen_groups" = true)
    (k38 : PySem.W.keepIn K (.ref f38) = true)
    (a39 : PySem.W.nsIn K mainGlobals "_law_tie_run" = some (some (.ref f39)))
    (l39 : K.lookup f39 = some ⟨oc39, od39, .func (PySem.W.fnOf "_law_tie_run" "_law_tie_run" (defArgs (top 39)) (defBody (top 39)) (defScope (top 39)) .none kV39 dc39 pm39 an39 cd39 ct39), sl39⟩)
    (c39 : PySem.W.codeIn K cd39 "_law_tie_run" = true)
    (k39 : PySem.W.keepIn K (.ref f39) = true)
    (a40 : PySem.W.nsIn K mainGlobals "_law_put" = some (some (.ref f40)))
    (l40 : K.lookup f40 = some ⟨oc40, od40, .func (PySem.W.fnOf "_law_put" "_law_put" (defArgs (top 40)) (defBody (top 40)) (defScope (top 40)) .none kV40 dc40 pm40 an40 cd40 ct40), sl40⟩)
    (c40 : PySem.W.codeIn K cd40 "_law_put" = true)
    (k40 : PySem.W.keepIn K (.ref f40) = true)
    (a41 : PySem.W.nsIn K mainGlobals "_law_chain" = some (some (.ref f41)))
    (l41 : K.lookup f41 = some ⟨oc41, od41, .func (PySem.W.fnOf "_law_chain" "_law_chain" (defArgs (top 41)) (defBody (top 41)) (defScope (top 41)) .none kV41 dc41 pm41 an41 cd41 ct41), sl41⟩)
    (c41 : PySem.W.codeIn K cd41 "_law_chain" = true)
    (k41 : PySem.W.keepIn K (.ref f41) = true)
    (a42 : PySem.W.nsIn K mainGlobals "_law_tie_runs" = some (some (.ref f42)))
    (l42 : K.lookup f42 = some ⟨oc42, od42, .func (PySem.W.fnOf "_law_tie_runs" "_law_tie_runs" (defArgs (top 42)) (defBody (top 42)) (defScope (top 42)) .none kV42 dc42 pm42 an42 cd42 ct42), sl42⟩)
    (c42 : PySem.W.codeIn K cd42 "_law_tie_runs" = true)
    (k42 : PySem.W.keepIn K (.ref f42) = true)
    (a43 : PySem.W.nsIn K mainGlobals "_law_tie_names" = some (some (.ref f43)))
    (l43 : K.lookup f43 = some ⟨oc43, od43, .func (PySem.W.fnOf "_law_tie_names" "_law_tie_names" (defArgs (top 43)) (defBody (top 43)) (defScope (top 43)) .none kV43 dc43 pm43 an43 cd43 ct43), sl43⟩)
    (c43 : PySem.W.codeIn K cd43 "_law_tie_names" = true)
    (k43 : PySem.W.keepIn K (.ref f43) = true)
    (a44 : PySem.W.nsIn K mainGlobals "_law_stands" = some (some (.ref f44)))
    (l44 : K.lookup f44 = some ⟨oc44, od44, .func (PySem.W.fnOf "_law_stands" "_law_stands" (defArgs (top 44)) (defBody (top 44)) (defScope (top 44)) .none kV44 dc44 pm44 an44 cd44 ct44), sl44⟩)
    (c44 : PySem.W.codeIn K cd44 "_law_stands" = true)
    (k44 : PySem.W.keepIn K (.ref f44) = true)
    (a45 : PySem.W.nsIn K mainGlobals "_law_is_tied_name" = some (some (.ref f45)))
    (l45 : K.lookup f45 = some ⟨oc45, od45, .func (PySem.W.fnOf "_law_is_tied_name" "_law_is_tied_name" (defArgs (top 45)) (defBody (top 45)) (defScope (top 45)) .none kV45 dc45 pm45 an45 cd45 ct45), sl45⟩)
    (c45 : PySem.W.codeIn K cd45 "_law_is_tied_name" = true)
    (k45 : PySem.W.keepIn K (.ref f45) = true)
    (a46 : PySem.W.nsIn K mainGlobals "_law_told" = some (some (.ref f46)))
    (l46 : K.lookup f46 = some ⟨oc46, od46, .func (PySem.W.fnOf "_law_told" "_law_told" (defArgs (top 46)) (defBody (top 46)) (defScope (top 46)) .none kV46 dc46 pm46 an46 cd46 ct46), sl46⟩)
    (c46 : PySem.W.codeIn K cd46 "_law_told" = true)
    (k46 : PySem.W.keepIn K (.ref f46) = true)
    (a47 : PySem.W.nsIn K mainGlobals "_law_spoiled" = some (some (.ref f47)))
    (l47 : K.lookup f47 = some ⟨oc47, od47, .func (PySem.W.fnOf "_law_spoiled" "_law_spoiled" (defArgs (top 47)) (defBody (top 47)) (defScope (top 47)) .none kV47 dc47 pm47 an47 cd47 ct47), sl47⟩)
    (c47 : PySem.W.codeIn K cd47 "_law_spoiled" = true)
    (k47 : PySem.W.keepIn K (.ref f47) = true)
    (a48 : PySem.W.nsIn K mainGlobals "_law_all_names" = some (some (.ref f48)))
    (l48 : K.lookup f48 = some ⟨oc48, od48, .func (PySem.W.fnOf "_law_all_names" "_law_all_names" (defArgs (top 48)) (defBody (top 48)) (defScope (top 48)) .none kV48 dc48 pm48 an48 cd48 ct48), sl48⟩)
    (c48 : PySem.W.codeIn K cd48 "_law_all_names" = true)
    (k48 : PySem.W.keepIn K (.ref f48) = true)
    (a49 : PySem.W.nsIn K mainGlobals "law" = some (some (.ref f49)))
    (l49 : K.lookup f49 = some ⟨oc49, od49, .func (PySem.W.fnOf "law" "law" (defArgs (top 49)) (defBody (top 49)) (defScope (top 49)) .none kV49 dc49 pm49 an49 cd49 ct49), sl49⟩)
    (c49 : PySem.W.codeIn K cd49 "law" = true)
    (k49 : PySem.W.keepIn K (.ref f49) = true) :
    ∃ fd : FuncData, (∀ (s : Shared) (v : Value), BindsTo s fd ⟨[v], []⟩ [("_law_script", v)]) ∧ ∀ base : Heap, K.In base → base.Ns mainGlobals mg → FnOk l.prog w K mg base CX0 8 fa fd ["_law_script"] (spLaw K) := by
  have e := hfa.symm.trans (PySem.W.mg_of X G a49)
  cases e
  let A : Nat → Addr := fun i => match i with
    | 7 => f7
    | 8 => f8
    | 9 => f9
    | 10 => f10
    | 11 => f11
    | 13 => f13
    | 14 => f14
    | 16 => f16
    | 18 => f18
    | 19 => f19
    | 20 => f20
    | 21 => f21
    | 22 => f22
    | 23 => f23
    | 24 => f24
    | 25 => f25
    | 27 => f27
    | 28 => f28
    | 29 => f29
    | 30 => f30
    | 31 => f31
    | 32 => f32
    | 33 => f33
    | 34 => f34
    | 35 => f35
    | 36 => f36
    | 37 => f37
    | 38 => f38
    | 39 => f39
    | 40 => f40
    | 41 => f41
    | 42 => f42
    | 43 => f43
    | 44 => f44
    | 45 => f45
    | 46 => f46
    | 47 => f47
    | 48 => f48
    | 49 => fa
    | _ => 0
  let D : Nat → FuncData := fun i => match i with
    | 7 => PySem.W.fnOf "is_integer" "is_integer" (defArgs (top 7)) (defBody (top 7)) (defScope (top 7)) .none kV7 dc7 pm7 an7 cd7 ct7
    | 8 => PySem.W.fnOf "is_within" "is_within" (defArgs (top 8)) (defBody (top 8)) (defScope (top 8)) .none kV8 dc8 pm8 an8 cd8 ct8
    | 9 => PySem.W.fnOf "are_items" "are_items" (defArgs (top 9)) (defBody (top 9)) (defScope (top 9)) .none kV9 dc9 pm9 an9 cd9 ct9
    | 10 => PySem.W.fnOf "is_sound" "is_sound" (defArgs (top 10)) (defBody (top 10)) (defScope (top 10)) .none kV10 dc10 pm10 an10 cd10 ct10
    | 11 => PySem.W.fnOf "check_plan" "check_plan" (defArgs (top 11)) (defBody (top 11)) (defScope (top 11)) .none kV11 dc11 pm11 an11 cd11 ct11
    | 13 => PySem.W.fnOf "ending_of" "ending_of" (defArgs (top 13)) (defBody (top 13)) (defScope (top 13)) .none kV13 dc13 pm13 an13 cd13 ct13
    | 14 => PySem.W.fnOf "many_chains" "many_chains" (defArgs (top 14)) (defBody (top 14)) (defScope (top 14)) .none kV14 dc14 pm14 an14 cd14 ct14
    | 16 => PySem.W.fnOf "chain_key" "chain_key" (defArgs (top 16)) (defBody (top 16)) (defScope (top 16)) .none kV16 dc16 pm16 an16 cd16 ct16
    | 18 => PySem.W.fnOf "is_place" "is_place" (defArgs (top 18)) (defBody (top 18)) (defScope (top 18)) .none kV18 dc18 pm18 an18 cd18 ct18
    | 19 => PySem.W.fnOf "own_chains" "own_chains" (defArgs (top 19)) (defBody (top 19)) (defScope (top 19)) .none kV19 dc19 pm19 an19 cd19 ct19
    | 20 => PySem.W.fnOf "checked_chains" "checked_chains" (defArgs (top 20)) (defBody (top 20)) (defScope (top 20)) .none kV20 dc20 pm20 an20 cd20 ct20
    | 21 => PySem.W.fnOf "tie_names" "tie_names" (defArgs (top 21)) (defBody (top 21)) (defScope (top 21)) .none kV21 dc21 pm21 an21 cd21 ct21
    | 22 => PySem.W.fnOf "many_tie_names" "many_tie_names" (defArgs (top 22)) (defBody (top 22)) (defScope (top 22)) .none kV22 dc22 pm22 an22 cd22 ct22
    | 23 => PySem.W.fnOf "is_tie_name" "is_tie_name" (defArgs (top 23)) (defBody (top 23)) (defScope (top 23)) .none kV23 dc23 pm23 an23 cd23 ct23
    | 24 => PySem.W.fnOf "told_of" "told_of" (defArgs (top 24)) (defBody (top 24)) (defScope (top 24)) .none kV24 dc24 pm24 an24 cd24 ct24
    | 25 => PySem.W.fnOf "tie_told" "tie_told" (defArgs (top 25)) (defBody (top 25)) (defScope (top 25)) .none kV25 dc25 pm25 an25 cd25 ct25
    | 27 => PySem.W.fnOf "_law_bag" "_law_bag" (defArgs (top 27)) (defBody (top 27)) (defScope (top 27)) .none kV27 dc27 pm27 an27 cd27 ct27
    | 28 => PySem.W.fnOf "_law_draw" "_law_draw" (defArgs (top 28)) (defBody (top 28)) (defScope (top 28)) .none kV28 dc28 pm28 an28 cd28 ct28
    | 29 => PySem.W.fnOf "_law_any" "_law_any" (defArgs (top 29)) (defBody (top 29)) (defScope (top 29)) .none kV29 dc29 pm29 an29 cd29 ct29
    | 30 => PySem.W.fnOf "_law_is" "_law_is" (defArgs (top 30)) (defBody (top 30)) (defScope (top 30)) .none kV30 dc30 pm30 an30 cd30 ct30
    | 31 => PySem.W.fnOf "_law_has" "_law_has" (defArgs (top 31)) (defBody (top 31)) (defScope (top 31)) .none kV31 dc31 pm31 an31 cd31 ct31
    | 32 => PySem.W.fnOf "_law_closed" "_law_closed" (defArgs (top 32)) (defBody (top 32)) (defScope (top 32)) .none kV32 dc32 pm32 an32 cd32 ct32
    | 33 => PySem.W.fnOf "_law_sized" "_law_sized" (defArgs (top 33)) (defBody (top 33)) (defScope (top 33)) .none kV33 dc33 pm33 an33 cd33 ct33
    | 34 => PySem.W.fnOf "_law_ends" "_law_ends" (defArgs (top 34)) (defBody (top 34)) (defScope (top 34)) .none kV34 dc34 pm34 an34 cd34 ct34
    | 35 => PySem.W.fnOf "_law_plan" "_law_plan" (defArgs (top 35)) (defBody (top 35)) (defScope (top 35)) .none kV35 dc35 pm35 an35 cd35 ct35
    | 36 => PySem.W.fnOf "_law_is_index" "_law_is_index" (defArgs (top 36)) (defBody (top 36)) (defScope (top 36)) .none kV36 dc36 pm36 an36 cd36 ct36
    | 37 => PySem.W.fnOf "_law_home" "_law_home" (defArgs (top 37)) (defBody (top 37)) (defScope (top 37)) .none kV37 dc37 pm37 an37 cd37 ct37
    | 38 => PySem.W.fnOf "_law_seen_groups" "_law_seen_groups" (defArgs (top 38)) (defBody (top 38)) (defScope (top 38)) .none kV38 dc38 pm38 an38 cd38 ct38
    | 39 => PySem.W.fnOf "_law_tie_run" "_law_tie_run" (defArgs (top 39)) (defBody (top 39)) (defScope (top 39)) .none kV39 dc39 pm39 an39 cd39 ct39
    | 40 => PySem.W.fnOf "_law_put" "_law_put" (defArgs (top 40)) (defBody (top 40)) (defScope (top 40)) .none kV40 dc40 pm40 an40 cd40 ct40
    | 41 => PySem.W.fnOf "_law_chain" "_law_chain" (defArgs (top 41)) (defBody (top 41)) (defScope (top 41)) .none kV41 dc41 pm41 an41 cd41 ct41
    | 42 => PySem.W.fnOf "_law_tie_runs" "_law_tie_runs" (defArgs (top 42)) (defBody (top 42)) (defScope (top 42)) .none kV42 dc42 pm42 an42 cd42 ct42
    | 43 => PySem.W.fnOf "_law_tie_names" "_law_tie_names" (defArgs (top 43)) (defBody (top 43)) (defScope (top 43)) .none kV43 dc43 pm43 an43 cd43 ct43
    | 44 => PySem.W.fnOf "_law_stands" "_law_stands" (defArgs (top 44)) (defBody (top 44)) (defScope (top 44)) .none kV44 dc44 pm44 an44 cd44 ct44
    | 45 => PySem.W.fnOf "_law_is_tied_name" "_law_is_tied_name" (defArgs (top 45)) (defBody (top 45)) (defScope (top 45)) .none kV45 dc45 pm45 an45 cd45 ct45
    | 46 => PySem.W.fnOf "_law_told" "_law_told" (defArgs (top 46)) (defBody (top 46)) (defScope (top 46)) .none kV46 dc46 pm46 an46 cd46 ct46
    | 47 => PySem.W.fnOf "_law_spoiled" "_law_spoiled" (defArgs (top 47)) (defBody (top 47)) (defScope (top 47)) .none kV47 dc47 pm47 an47 cd47 ct47
    | 48 => PySem.W.fnOf "_law_all_names" "_law_all_names" (defArgs (top 48)) (defBody (top 48)) (defScope (top 48)) .none kV48 dc48 pm48 an48 cd48 ct48
    | 49 => PySem.W.fnOf "law" "law" (defArgs (top 49)) (defBody (top 49)) (defScope (top 49)) .none kV49 dc49 pm49 an49 cd49 ct49
    | _ => PySem.W.fnOf "is_integer" "is_integer" (defArgs (top 7)) (defBody (top 7)) (defScope (top 7)) .none kV7 dc7 pm7 an7 cd7 ct7
  have F7 := fun_mk (st := top 7) l7 c7 k7
  have d7 : DefAt K mg "is_integer" (top 7) ["thing"] (A 7) (D 7) := ⟨F7, PySem.W.mg_of X G a7, F7.binds (ps := ["thing"]) fun _ _ _ _ _ _ us hl => match us, hl with | [_], _ => rfl⟩
  have F8 := fun_mk (st := top 8) l8 c8 k8
  have d8 : DefAt K mg "is_within" (top 8) ["thing", "least", "most"] (A 8) (D 8) := ⟨F8, PySem.W.mg_of X G a8, F8.binds (ps := ["thing", "least", "most"]) fun _ _ _ _ _ _ us hl => match us, hl with | [_, _, _], _ => rfl⟩
  have F9 := fun_mk (st := top 9) l9 c9 k9
  have d9 : DefAt K mg "are_items" (top 9) ["thing", "bound"] (A 9) (D 9) := ⟨F9, PySem.W.mg_of X G a9, F9.binds (ps := ["thing", "bound"]) fun _ _ _ _ _ _ us hl => match us, hl with | [_, _], _ => rfl⟩
  have F10 := fun_mk (st := top 10) l10 c10 k10
  have d10 : DefAt K mg "is_sound" (top 10) ["thing"] (A 10) (D 10) := ⟨F10, PySem.W.mg_of X G a10, F10.binds (ps := ["thing"]) fun _ _ _ _ _ _ us hl => match us, hl with | [_], _ => rfl⟩
  have F11 := fun_mk (st := top 11) l11 c11 k11
  have d11 : DefAt K mg "check_plan" (top 11) ["thing"] (A 11) (D 11) := ⟨F11, PySem.W.mg_of X G a11, F11.binds (ps := ["thing"]) fun _ _ _ _ _ _ us hl => match us, hl with | [_], _ => rfl⟩
  have F13 := fun_mk (st := top 13) l13 c13 k13
  have d13 : DefAt K mg "ending_of" (top 13) ["plan"] (A 13) (D 13) := ⟨F13, PySem.W.mg_of X G a13, F13.binds (ps := ["plan"]) fun _ _ _ _ _ _ us hl => match us, hl with | [_], _ => rfl⟩
  have F14 := fun_mk (st := top 14) l14 c14 k14
  have d14 : DefAt K mg "many_chains" (top 14) ["plan"] (A 14) (D 14) := ⟨F14, PySem.W.mg_of X G a14, F14.binds (ps := ["plan"]) fun _ _ _ _ _ _ us hl => match us, hl with | [_], _ => rfl⟩
  have F16 := fun_mk (st := top 16) l16 c16 k16
  have d16 : DefAt K mg "chain_key" (top 16) ["chain"] (A 16) (D 16) := ⟨F16, PySem.W.mg_of X G a16, F16.binds (ps := ["chain"]) fun _ _ _ _ _ _ us hl => match us, hl with | [_], _ => rfl⟩
  have F18 := fun_mk (st := top 18) l18 c18 k18
  have d18 : DefAt K mg "is_place" (top 18) ["thing"] (A 18) (D 18) := ⟨F18, PySem.W.mg_of X G a18, F18.binds (ps := ["thing"]) fun _ _ _ _ _ _ us hl => match us, hl with | [_], _ => rfl⟩
  have F19 := fun_mk (st := top 19) l19 c19 k19
  have d19 : DefAt K mg "own_chains" (top 19) ["plan", "run"] (A 19) (D 19) := ⟨F19, PySem.W.mg_of X G a19, F19.binds (ps := ["plan", "run"]) fun _ _ _ _ _ _ us hl => match us, hl with | [_, _], _ => rfl⟩
  have F20 := fun_mk (st := top 20) l20 c20 k20
  have d20 : DefAt K mg "checked_chains" (top 20) ["plan", "run"] (A 20) (D 20) := ⟨F20, PySem.W.mg_of X G a20, F20.binds (ps := ["plan", "run"]) fun _ _ _ _ _ _ us hl => match us, hl with | [_, _], _ => rfl⟩
  have F21 := fun_mk (st := top 21) l21 c21 k21
  have d21 : DefAt K mg "tie_names" (top 21) ["plan", "run"] (A 21) (D 21) := ⟨F21, PySem.W.mg_of X G a21, F21.binds (ps := ["plan", "run"]) fun _ _ _ _ _ _ us hl => match us, hl with | [_, _], _ => rfl⟩
  have F22 := fun_mk (st := top 22) l22 c22 k22
  have d22 : DefAt K mg "many_tie_names" (top 22) ["plan"] (A 22) (D 22) := ⟨F22, PySem.W.mg_of X G a22, F22.binds (ps := ["plan"]) fun _ _ _ _ _ _ us hl => match us, hl with | [_], _ => rfl⟩
  have F23 := fun_mk (st := top 23) l23 c23 k23
  have d23 : DefAt K mg "is_tie_name" (top 23) ["thing"] (A 23) (D 23) := ⟨F23, PySem.W.mg_of X G a23, F23.binds (ps := ["thing"]) fun _ _ _ _ _ _ us hl => match us, hl with | [_], _ => rfl⟩
  have F24 := fun_mk (st := top 24) l24 c24 k24
  have d24 : DefAt K mg "told_of" (top 24) ["one", "other"] (A 24) (D 24) := ⟨F24, PySem.W.mg_of X G a24, F24.binds (ps := ["one", "other"]) fun _ _ _ _ _ _ us hl => match us, hl with | [_, _], _ => rfl⟩
  have F25 := fun_mk (st := top 25) l25 c25 k25
  have d25 : DefAt K mg "tie_told" (top 25) ["one", "other"] (A 25) (D 25) := ⟨F25, PySem.W.mg_of X G a25, F25.binds (ps := ["one", "other"]) fun _ _ _ _ _ _ us hl => match us, hl with | [_, _], _ => rfl⟩
  have F27 := fun_mk (st := top 27) l27 c27 k27
  have d27 : DefAt K mg "_law_bag" (top 27) ["_law_script"] (A 27) (D 27) := ⟨F27, PySem.W.mg_of X G a27, F27.binds (ps := ["_law_script"]) fun _ _ _ _ _ _ us hl => match us, hl with | [_], _ => rfl⟩
  have F28 := fun_mk (st := top 28) l28 c28 k28
  have d28 : DefAt K mg "_law_draw" (top 28) ["_law_bag_here", "_law_many"] (A 28) (D 28) := ⟨F28, PySem.W.mg_of X G a28, F28.binds (ps := ["_law_bag_here", "_law_many"]) fun _ _ _ _ _ _ us hl => match us, hl with | [_, _], _ => rfl⟩
  have F29 := fun_mk (st := top 29) l29 c29 k29
  have d29 : DefAt K mg "_law_any" (top 29) ["_law_bag_here", "_law_things"] (A 29) (D 29) := ⟨F29, PySem.W.mg_of X G a29, F29.binds (ps := ["_law_bag_here", "_law_things"]) fun _ _ _ _ _ _ us hl => match us, hl with | [_, _], _ => rfl⟩
  have F30 := fun_mk (st := top 30) l30 c30 k30
  have d30 : DefAt K mg "_law_is" (top 30) ["_law_told_here", "_law_due"] (A 30) (D 30) := ⟨F30, PySem.W.mg_of X G a30, F30.binds (ps := ["_law_told_here", "_law_due"]) fun _ _ _ _ _ _ us hl => match us, hl with | [_, _], _ => rfl⟩
  have F31 := fun_mk (st := top 31) l31 c31 k31
  have d31 : DefAt K mg "_law_has" (top 31) ["_law_told_here", "_law_due", "_law_key"] (A 31) (D 31) := ⟨F31, PySem.W.mg_of X G a31, F31.binds (ps := ["_law_told_here", "_law_due", "_law_key"]) fun _ _ _ _ _ _ us hl => match us, hl with | [_, _, _], _ => rfl⟩
  have F32 := fun_mk (st := top 32) l32 c32 k32
  have d32 : DefAt K mg "_law_closed" (top 32) ["_law_rows"] (A 32) (D 32) := ⟨F32, PySem.W.mg_of X G a32, F32.binds (ps := ["_law_rows"]) fun _ _ _ _ _ _ us hl => match us, hl with | [_], _ => rfl⟩
  have F33 := fun_mk (st := top 33) l33 c33 k33
  have d33 : DefAt K mg "_law_sized" (top 33) ["_law_bag_here", "_law_size"] (A 33) (D 33) := ⟨F33, PySem.W.mg_of X G a33, F33.binds (ps := ["_law_bag_here", "_law_size"]) fun _ _ _ _ _ _ us hl => match us, hl with | [_, _], _ => rfl⟩
  have F34 := fun_mk (st := top 34) l34 c34 k34
  have d34 : DefAt K mg "_law_ends" (top 34) ["_law_plan_here"] (A 34) (D 34) := ⟨F34, PySem.W.mg_of X G a34, F34.binds (ps := ["_law_plan_here"]) fun _ _ _ _ _ _ us hl => match us, hl with | [_], _ => rfl⟩
  have F35 := fun_mk (st := top 35) l35 c35 k35
  have d35 : DefAt K mg "_law_plan" (top 35) ["_law_bag_here", "_law_most"] (A 35) (D 35) := ⟨F35, PySem.W.mg_of X G a35, F35.binds (ps := ["_law_bag_here", "_law_most"]) fun _ _ _ _ _ _ us hl => match us, hl with | [_, _], _ => rfl⟩
  have F36 := fun_mk (st := top 36) l36 c36 k36
  have d36 : DefAt K mg "_law_is_index" (top 36) ["_law_thing", "_law_bound"] (A 36) (D 36) := ⟨F36, PySem.W.mg_of X G a36, F36.binds (ps := ["_law_thing", "_law_bound"]) fun _ _ _ _ _ _ us hl => match us, hl with | [_, _], _ => rfl⟩
  have F37 := fun_mk (st := top 37) l37 c37 k37
  have d37 : DefAt K mg "_law_home" (top 37) ["_law_row", "_law_item"] (A 37) (D 37) := ⟨F37, PySem.W.mg_of X G a37, F37.binds (ps := ["_law_row", "_law_item"]) fun _ _ _ _ _ _ us hl => match us, hl with | [_, _], _ => rfl⟩
  have F38 := fun_mk (st := top 38) l38 c38 k38
  have d38 : DefAt K mg "_law_seen_groups" (top 38) ["_law_row", "_law_seen"] (A 38) (D 38) := ⟨F38, PySem.W.mg_of X G a38, F38.binds (ps := ["_law_row", "_law_seen"]) fun _ _ _ _ _ _ us hl => match us, hl with | [_, _], _ => rfl⟩
  have F39 := fun_mk (st := top 39) l39 c39 k39
  have d39 : DefAt K mg "_law_tie_run" (top 39) ["_law_bag_here", "_law_plan_here"] (A 39) (D 39) := ⟨F39, PySem.W.mg_of X G a39, F39.binds (ps := ["_law_bag_here", "_law_plan_here"]) fun _ _ _ _ _ _ us hl => match us, hl with | [_, _], _ => rfl⟩
  have F40 := fun_mk (st := top 40) l40 c40 k40
  have d40 : DefAt K mg "_law_put" (top 40) ["_law_row", "_law_seen", "_law_item", "_law_place"] (A 40) (D 40) := ⟨F40, PySem.W.mg_of X G a40, F40.binds (ps := ["_law_row", "_law_seen", "_law_item", "_law_place"]) fun _ _ _ _ _ _ us hl => match us, hl with | [_, _, _, _], _ => rfl⟩
  have F41 := fun_mk (st := top 41) l41 c41 k41
  have d41 : DefAt K mg "_law_chain" (top 41) ["_law_row", "_law_chains", "_law_seen", "_law_item", "_law_place"] (A 41) (D 41) := ⟨F41, PySem.W.mg_of X G a41, F41.binds (ps := ["_law_row", "_law_chains", "_law_seen", "_law_item", "_law_place"]) fun _ _ _ _ _ _ us hl => match us, hl with | [_, _, _, _, _], _ => rfl⟩
  have F42 := fun_mk (st := top 42) l42 c42 k42
  have d42 : DefAt K mg "_law_tie_runs" (top 42) ["_law_plan_here", "_law_most"] (A 42) (D 42) := ⟨F42, PySem.W.mg_of X G a42, F42.binds (ps := ["_law_plan_here", "_law_most"]) fun _ _ _ _ _ _ us hl => match us, hl with | [_, _], _ => rfl⟩
  have F43 := fun_mk (st := top 43) l43 c43 k43
  have d43 : DefAt K mg "_law_tie_names" (top 43) ["_law_run", "_law_chains"] (A 43) (D 43) := ⟨F43, PySem.W.mg_of X G a43, F43.binds (ps := ["_law_run", "_law_chains"]) fun _ _ _ _ _ _ us hl => match us, hl with | [_, _], _ => rfl⟩
  have F44 := fun_mk (st := top 44) l44 c44 k44
  have d44 : DefAt K mg "_law_stands" (top 44) ["_law_row", "_law_one", "_law_other"] (A 44) (D 44) := ⟨F44, PySem.W.mg_of X G a44, F44.binds (ps := ["_law_row", "_law_one", "_law_other"]) fun _ _ _ _ _ _ us hl => match us, hl with | [_, _, _], _ => rfl⟩
  have F45 := fun_mk (st := top 45) l45 c45 k45
  have d45 : DefAt K mg "_law_is_tied_name" (top 45) ["_law_thing"] (A 45) (D 45) := ⟨F45, PySem.W.mg_of X G a45, F45.binds (ps := ["_law_thing"]) fun _ _ _ _ _ _ us hl => match us, hl with | [_], _ => rfl⟩
  have F46 := fun_mk (st := top 46) l46 c46 k46
  have d46 : DefAt K mg "_law_told" (top 46) ["_law_one", "_law_other"] (A 46) (D 46) := ⟨F46, PySem.W.mg_of X G a46, F46.binds (ps := ["_law_one", "_law_other"]) fun _ _ _ _ _ _ us hl => match us, hl with | [_, _], _ => rfl⟩
  have F47 := fun_mk (st := top 47) l47 c47 k47
  have d47 : DefAt K mg "_law_spoiled" (top 47) ["_law_bag_here", "_law_name"] (A 47) (D 47) := ⟨F47, PySem.W.mg_of X G a47, F47.binds (ps := ["_law_bag_here", "_law_name"]) fun _ _ _ _ _ _ us hl => match us, hl with | [_, _], _ => rfl⟩
  have F48 := fun_mk (st := top 48) l48 c48 k48
  have d48 : DefAt K mg "_law_all_names" (top 48) ["_law_plan_here"] (A 48) (D 48) := ⟨F48, PySem.W.mg_of X G a48, F48.binds (ps := ["_law_plan_here"]) fun _ _ _ _ _ _ us hl => match us, hl with | [_], _ => rfl⟩
  have F49 := fun_mk (st := top 49) l49 c49 k49
  have d49 : DefAt K mg "law" (top 49) ["_law_script"] (A 49) (D 49) := ⟨F49, PySem.W.mg_of X G a49, F49.binds (ps := ["_law_script"]) fun _ _ _ _ _ _ us hl => match us, hl with | [_], _ => rfl⟩
  have T : Txt K mg A D tk :=
    { n_len := PySem.W.mg_none_of X G z_len,
      n_sum := PySem.W.mg_none_of X G z_sum,
      n_sorted := PySem.W.mg_none_of X G z_sorted,
      n_abs := PySem.W.mg_none_of X G z_abs,
      n_all := PySem.W.mg_none_of X G z_all,
      n_int := PySem.W.mg_none_of X G z_int,
      n_tuple := PySem.W.mg_none_of X G z_tuple,
      n_list := PySem.W.mg_none_of X G z_list,
      n_bool := PySem.W.mg_none_of X G z_bool,
      n_str := PySem.W.mg_none_of X G z_str,
      n_dict := PySem.W.mg_none_of X G z_dict,
      n_range := PySem.W.mg_none_of X G z_range,
      n_enumerate := PySem.W.mg_none_of X G z_enumerate,
      n_isinstance := PySem.W.mg_none_of X G z_isinstance,
      n_ValueError := PySem.W.mg_none_of X G z_ValueError,
      most := PySem.W.mg_of X G most,
      d_is_integer := d7,
      d_is_within := d8,
      d_are_items := d9,
      d_is_sound := d10,
      d_check_plan := d11,
      d_ending_of := d13,
      d_many_chains := d14,
      d_chain_key := d16,
      d_is_place := d18,
      d_own_chains := d19,
      d_checked_chains := d20,
      d_tie_names := d21,
      d_many_tie_names := d22,
      d_is_tie_name := d23,
      d_told_of := d24,
      d_tie_told := d25,
      d_l_bag := d27,
      d_l_draw := d28,
      d_l_any := d29,
      d_l_is := d30,
      d_l_has := d31,
      d_l_closed := d32,
      d_l_sized := d33,
      d_l_ends := d34,
      d_l_plan := d35,
      d_l_is_index := d36,
      d_l_home := d37,
      d_l_seen_groups := d38,
      d_l_tie_run := d39,
      d_l_put := d40,
      d_l_chain := d41,
      d_l_tie_runs := d42,
      d_l_tie_names := d43,
      d_l_stands := d44,
      d_l_is_tied_name := d45,
      d_l_told := d46,
      d_l_spoiled := d47,
      d_l_all_names := d48,
      d_law := d49 }
  have R : Errs K mg CN CB :=
    { gN := PySem.W.mg_of X G gN, gB := PySem.W.mg_of X G gB, kN := kN, xN := xN, bN := bN, tN := tN, eN := PySem.W.exm_ref bN hd tN sN, C := ⟨ga, gg, bN, hd, gc, hn, ht, hm⟩, iB := kit_ref hB tB sB, iV := kit_type (by decide +kernel) sV }
  exact ⟨D 49, fun s v => .of_eq rfl, fun base _ _ => ok_law T R kept⟩
theorem walk (kept : Kept) {l : PySem.W.OpenLaw} {q : Program} {loose : List Str} {XP : (Str → Option Value) → Heap → Prop} {YP : World → Heap → Prop} {d : DefRec} {K : Params → PySem.W.Frag} (hn : l.most = some 63) (hdf : d.params.defaults = [])
    (hY : ∀ (w : World) (h : Heap), YP w h → (K w.params).In h)
    (F : ∀ (w : World) (mg : Str → Option Value) (fa : Addr) (h : Heap), (K w.params).In h → h.Ns mainGlobals mg → mg d.name = some (.ref fa) →
      ∃ fd : FuncData, (∀ (s : Shared) (u : Value), BindsTo s fd ⟨[u], []⟩ [("_law_script", u)]) ∧ ∀ base : Heap, (K w.params).In base → base.Ns mainGlobals mg → FnOk l.prog w (K w.params) mg base CX0 8 fa fd ["_law_script"] (spLaw (K w.params))) :
    PySem.W.WalkO q loose XP YP l.row.toRowW d [] (fun f vs => PySem.call f vs) :=
  L2.walk_of (n := 63) (k := 8) (x := "_law_script") (CX := fun _ => CX0) (sp := fun w => spLaw (K w.params)) hn (by decide) hdf ⟨rfl, by decide, by decide⟩ hY F (fun _ _ a ns hl _ hS => ⟨a, ns, rfl, hS, hl, fun _ => rfl⟩) fun _ _ _ _ _ z => z
end K71

set_option maxRecDepth 100000
open PySem PySem.W PyProof.Rows in
set_option maxHeartbeats 0 in
theorem PySem.Challenge.cw_putbetween_k71_whole_tied_names_told_holds : PySem.Challenge.rw_putbetween_k71_whole_tied_names_told.Holds := by
  w_on; o_law; k_head; (case hw => w_witness2)
  k_fill
  refine K71.walk K71.kept (l := PySem.Challenge.rw_putbetween_k71_whole_tied_names_told) rfl rfl (fun w h Y => PySem.W.kIn_of Y) ?F
  case F =>
    intro w mg fa h KX G hmg
    refine' K71.all_mk K71.kept KX G hmg ?gN ?gB ?kN ?xN ?bN ?tN ?hd ?sN ?ga ?gg ?gc ?hn ?ht ?hm ?hB ?tB ?sB ?sV ?z_len ?z_sum ?z_sorted ?z_abs ?z_all ?z_int ?z_tuple ?z_list ?z_bool ?z_str ?z_dict ?z_range ?z_enumerate ?z_isinstance ?z_ValueError ?most ?a7 ?l7 ?c7 ?k7 ?a8 ?l8 ?c8 ?k8 ?a9 ?l9 ?c9 ?k9 ?a10 ?l10 ?c10 ?k10 ?a11 ?l11 ?c11 ?k11 ?a13 ?l13 ?c13 ?k13 ?a14 ?l14 ?c14 ?k14 ?a16 ?l16 ?c16 ?k16 ?a18 ?l18 ?c18 ?k18 ?a19 ?l19 ?c19 ?k19 ?a20 ?l20 ?c20 ?k20 ?a21 ?l21 ?c21 ?k21 ?a22 ?l22 ?c22 ?k22 ?a23 ?l23 ?c23 ?k23 ?a24 ?l24 ?c24 ?k24 ?a25 ?l25 ?c25 ?k25 ?a27 ?l27 ?c27 ?k27 ?a28 ?l28 ?c28 ?k28 ?a29 ?l29 ?c29 ?k29 ?a30 ?l30 ?c30 ?k30 ?a31 ?l31 ?c31 ?k31 ?a32 ?l32 ?c32 ?k32 ?a33 ?l33 ?c33 ?k33 ?a34 ?l34 ?c34 ?k34 ?a35 ?l35 ?c35 ?k35 ?a36 ?l36 ?c36 ?k36 ?a37 ?l37 ?c37 ?k37 ?a38 ?l38 ?c38 ?k38 ?a39 ?l39 ?c39 ?k39 ?a40 ?l40 ?c40 ?k40 ?a41 ?l41 ?c41 ?k41 ?a42 ?l42 ?c42 ?k42 ?a43 ?l43 ?c43 ?k43 ?a44 ?l44 ?c44 ?k44 ?a45 ?l45 ?c45 ?k45 ?a46 ?l46 ?c46 ?k46 ?a47 ?l47 ?c47 ?k47 ?a48 ?l48 ?c48 ?k48 ?a49 ?l49 ?c49 ?k49
    (case gN => k_is)
    (case gB => k_is)
    (case kN => k_is)
    (case xN => k_exc)
    (case bN => k_is)
    (case tN => k_is)
    (case hd => k_is)
    (case sN => first | rfl | k_is)
    (case ga => k_is)
    (case gg => k_is)
    (case gc => k_is)
    (case hn => k_is)
    (case ht => k_is)
    (case hm => k_is)
    (case hB => k_is)
    (case tB => k_is)
    (case sB => k_is)
    (case sV => k_is)
    (case z_len => k_is)
    (case z_sum => k_is)
    (case z_sorted => k_is)
    (case z_abs => k_is)
    (case z_all => k_is)
    (case z_int => k_is)
    (case z_tuple => k_is)
    (case z_list => k_is)
    (case z_bool => k_is)
    (case z_str => k_is)
    (case z_dict => k_is)
    (case z_range => k_is)
    (case z_enumerate => k_is)
    (case z_isinstance => k_is)
    (case z_ValueError => k_is)
    (case most => k_is)
    (case a7 => k_is)
    (case l7 => k_is)
    (case c7 => k_is)
    (case k7 => k_is)
    (case a8 => k_is)
    (case l8 => k_is)
    (case c8 => k_is)
    (case k8 => k_is)
    (case a9 => k_is)
    (case l9 => k_is)
    (case c9 => k_is)
    (case k9 => k_is)
    (case a10 => k_is)
    (case l10 => k_is)
    (case c10 => k_is)
    (case k10 => k_is)
    (case a11 => k_is)
    (case l11 => k_is)
    (case c11 => k_is)
    (case k11 => k_is)
    (case a13 => k_is)
    (case l13 => k_is)
    (case c13 => k_is)
    (case k13 => k_is)
    (case a14 => k_is)
    (case l14 => k_is)
    (case c14 => k_is)
    (case k14 => k_is)
    (case a16 => k_is)
    (case l16 => k_is)
    (case c16 => k_is)
    (case k16 => k_is)
    (case a18 => k_is)
    (case l18 => k_is)
    (case c18 => k_is)
    (case k18 => k_is)
    (case a19 => k_is)
    (case l19 => k_is)
    (case c19 => k_is)
    (case k19 => k_is)
    (case a20 => k_is)
    (case l20 => k_is)
    (case c20 => k_is)
    (case k20 => k_is)
    (case a21 => k_is)
    (case l21 => k_is)
    (case c21 => k_is)
    (case k21 => k_is)
    (case a22 => k_is)
    (case l22 => k_is)
    (case c22 => k_is)
    (case k22 => k_is)
    (case a23 => k_is)
    (case l23 => k_is)
    (case c23 => k_is)
    (case k23 => k_is)
    (case a24 => k_is)
    (case l24 => k_is)
    (case c24 => k_is)
    (case k24 => k_is)
    (case a25 => k_is)
    (case l25 => k_is)
    (case c25 => k_is)
    (case k25 => k_is)
    (case a27 => k_is)
    (case l27 => k_is)
    (case c27 => k_is)
    (case k27 => k_is)
    (case a28 => k_is)
    (case l28 => k_is)
    (case c28 => k_is)
    (case k28 => k_is)
    (case a29 => k_is)
    (case l29 => k_is)
    (case c29 => k_is)
    (case k29 => k_is)
    (case a30 => k_is)
    (case l30 => k_is)
    (case c30 => k_is)
    (case k30 => k_is)
    (case a31 => k_is)
    (case l31 => k_is)
    (case c31 => k_is)
    (case k31 => k_is)
    (case a32 => k_is)
    (case l32 => k_is)
    (case c32 => k_is)
    (case k32 => k_is)
    (case a33 => k_is)
    (case l33 => k_is)
    (case c33 => k_is)
    (case k33 => k_is)
    (case a34 => k_is)
    (case l34 => k_is)
    (case c34 => k_is)
    (case k34 => k_is)
    (case a35 => k_is)
    (case l35 => k_is)
    (case c35 => k_is)
    (case k35 => k_is)
    (case a36 => k_is)
    (case l36 => k_is)
    (case c36 => k_is)
    (case k36 => k_is)
    (case a37 => k_is)
    (case l37 => k_is)
    (case c37 => k_is)
    (case k37 => k_is)
    (case a38 => k_is)
    (case l38 => k_is)
    (case c38 => k_is)
    (case k38 => k_is)
    (case a39 => k_is)
    (case l39 => k_is)
    (case c39 => k_is)
    (case k39 => k_is)
    (case a40 => k_is)
    (case l40 => k_is)
    (case c40 => k_is)
    (case k40 => k_is)
    (case a41 => k_is)
    (case l41 => k_is)
    (case c41 => k_is)
    (case k41 => k_is)
    (case a42 => k_is)
    (case l42 => k_is)
    (case c42 => k_is)
    (case k42 => k_is)
    (case a43 => k_is)
    (case l43 => k_is)
    (case c43 => k_is)
    (case k43 => k_is)
    (case a44 => k_is)
    (case l44 => k_is)
    (case c44 => k_is)
    (case k44 => k_is)
    (case a45 => k_is)
    (case l45 => k_is)
    (case c45 => k_is)
    (case k45 => k_is)
    (case a46 => k_is)
    (case l46 => k_is)
    (case c46 => k_is)
    (case k46 => k_is)
    (case a47 => k_is)
    (case l47 => k_is)
    (case c47 => k_is)
    (case k47 => k_is)
    (case a48 => k_is)
    (case l48 => k_is)
    (case c48 => k_is)
    (case k48 => k_is)
    (case a49 => k_is)
    (case l49 => k_is)
    (case c49 => k_is)
    (case k49 => k_is)
