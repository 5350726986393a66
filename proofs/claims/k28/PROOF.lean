import PyProof.Rows.All
import Wide.All
import OpenK.AllK
import Wide.FinOn
import HandS.ForMost
import HandS.Flow
import HandS.TupAny
import HandS.TupMul
import HandS.Deep
import HandS.Wide
import HandS.WideBits
import HandS.Zip
import HandS.IsInst
import HandS.Replace
import PyProof.ReprRoads
import HandS.SortInts
import HandS.Exc
import HandS.ExcOwn
import HandS.ExcIs
import HandS.TryOnly
import HandS.Lambda
import HandS.WordsExc
import KE.KExcIs
import KE.KNestM
import PyProof.CodeObj
import HandS.SetFor
import HandS.Style
import PyProof.ReprLen
import KE.GoesMore
import KE.GoesEnum
import HandS.Strs
import HandS.SortKw
import KE.DataMinMax
import PyProof.Rows.SumAny
import HandS.Conv
import HandS.Dict
import HandS.DictComp
import HandS.More
import PyProof.DictUpdate
import KE.DataFind
import KE.KSlice
import PyProof.StrOps2
import HandS.ExcValue
import HandS.ExcInit
import HandS.ExcField
import PyProof.EqAt
import PyProof.NeKinds
import PyProof.Rows.StrInSeq3
import PySem.Challenge.RW_rowkinds_k28_programs_by_form
set_option Elab.async false
set_option linter.all false
set_option maxRecDepth 100000
set_option maxHeartbeats 4000000
/-! Z: a layer of plain data over the hand layer. -/
namespace Z
open PySem L2
abbrev D := PyData
/-- a list that is read: tracked, locked, or a plain one of the written part -/
def SqP (K : PySem.W.Frag) (H : Hp) (a : Addr) (xs : List V) : Prop :=
  Rd H a (.lst xs) ∨ ∃ its : List Value, K.lookup a = some { cls := .type "list", data := .seq its.toArray } ∧ xs.length ≤ sizeLine ∧ Vals xs its
theorem SqP.sql {K : PySem.W.Frag} {H : Hp} {a : Addr} {xs : List V} (h : SqP K H a xs) : SqL K H a xs := by
  rcases h with h | ⟨its, h, hz, r⟩
  · exact .inl h
  · exact .inr ⟨_, its.toArray, 0, h, rfl, rfl, rfl, by rw [List.size_toArray, ← r.length]; exact hz, by simpa using r⟩
/-- a tuple that is read: tracked, or a plain one of the written part -/
def SqTP (K : PySem.W.Frag) (H : Hp) (a : Addr) (xs : List V) : Prop :=
  H a = some (.tup xs) ∨
    ∃ (o : Obj) (its : Array Value) (n : Nat), K.lookup a = some o ∧ o.cls = .type "tuple" ∧ o.data = .seq its n ∧ its.size ≤ sizeLine ∧ Vals xs its.toList ∧ xs ≠ []
theorem SqTP.sqt {K : PySem.W.Frag} {H : Hp} {a : Addr} {xs : List V} (h : SqTP K H a xs) : SqT K H a xs := h.imp .inl fun ⟨o, its, n, h1, h2, h3, h4, h5, _⟩ => ⟨o, its, n, h1, h2, h3, h4, h5⟩
mutual
/-- the value v tells the data d, in what never changes (G) -/
inductive Rp (K : PySem.W.Frag) (G : Hp) : V → D → Prop
  | non : Rp K G .non .none
  | bl (b : Bool) : Rp K G (.bl b) (.bool b)
  | int (i : Int) : Rp K G (.int i) (.int i)
  | str (x : Str) : Rp K G (.str x) (.str x)
  | lst {a : Addr} {xs : List V} {ds : List D} : SqP K G a xs → RpAll K G xs ds → Rp K G (.ref a) (.list ds)
  | tup {a : Addr} {xs : List V} {ds : List D} : SqTP K G a xs → RpAll K G xs ds → Rp K G (.ref a) (.tuple ds)
  | emp {a : Addr} : G a = some (.dK []) → Rp K G (.ref a) (.dict [])
  /-- an exception's object; one with a dict of its own -/
  | exc {a C : Addr} {φ : Heap → Prop} : G a = some (.ext φ) → (∀ h, φ h → ∃ (ob : Obj) (fs : Array Value), h.get? a = some ob ∧ (ob.cls = .ref C ∧ ob.dict = none) ∧ ob.data = .fields fs) → Rp K G (.ref a) (.dict [(.none, .int (C : Nat))])
  | exf {a dx C : Addr} {φ : Heap → Prop} {ks : List Str} {vs : List V} {ds : List D} : G a = some (.ext φ) → (∀ h, φ h → ∃ (ob : Obj) (fs : Array Value), h.get? a = some ob ∧ (ob.cls = .ref C ∧ ob.dict = some dx) ∧ ob.data = .fields fs) →
      G dx = some (.xd (ks.zip vs)) → RpAll K G vs ds → Rp K G (.ref a) (.dict ((.none, .int (C : Nat)) :: (ks.map PyData.str).zip ds))
  /-- a def as a value -/
  | fn {a : Addr} : Rp K G (.ref a) (.dict [(.bool true, .int (a : Nat))])
inductive RpAll (K : PySem.W.Frag) (G : Hp) : List V → List D → Prop
  | nil : RpAll K G [] []
  | cons {v : V} {vs : List V} {d : D} {ds : List D} : Rp K G v d → RpAll K G vs ds → RpAll K G (v :: vs) (d :: ds)
end
theorem same_seqT {K : PySem.W.Frag} {H H' : Hp} {a : Addr} {xs : List V} (e : Same H H') (h : SqTP K H a xs) : SqT K H' a xs :=
  h.imp (fun h => .inl (e _ _ h)) fun ⟨o, its, n, h1, h2, h3, h4, h5, _⟩ => ⟨o, its, n, h1, h2, h3, h4, h5⟩
theorem same_rd {H H' : Hp} {a : Addr} {u : HO} (e : Same H H') (h : Rd H a u) : Rd H' a u := by
  rcases h with h | ⟨o, h⟩
  · exact .inl (e _ _ h)
  · exact .inr ⟨o, e _ _ h⟩
theorem same_sqp {K : PySem.W.Frag} {H H' : Hp} {a : Addr} {xs : List V} (e : Same H H') (h : SqP K H a xs) : SqP K H' a xs := by
  rcases h with h | h
  · exact .inl (same_rd e h)
  · exact .inr h
section
variable {K : PySem.W.Frag} {G G' : Hp}
theorem Rp.mono (e : Same G G') {v : V} {d : D} (h : Rp K G v d) : Rp K G' v d :=
  Rp.rec (motive_1 := fun v d _ => Rp K G' v d) (motive_2 := fun vs ds _ => RpAll K G' vs ds) .non (fun b => .bl b) (fun i => .int i) (fun x => .str x) (fun h _ a => .lst (same_sqp e h) a)
    (fun h _ a => .tup (h.imp (e _ _) id) a) (fun h => .emp (e _ _ h)) (fun h z => .exc (e _ _ h) z) (fun h z h2 _ a => .exf (e _ _ h) z (e _ _ h2) a) .fn .nil (fun _ _ r a => .cons r a) h
/-- what is all of a list, by its items -/
theorem RpAll.ind {Q : List V → List D → Prop} (n : Q [] []) (c : ∀ {v vs d ds}, Rp K G v d → RpAll K G vs ds → Q vs ds → Q (v :: vs) (d :: ds)) {vs : List V} {ds : List D} (h : RpAll K G vs ds) : Q vs ds :=
  RpAll.rec (motive_1 := fun _ _ _ => True) (motive_2 := fun vs ds _ => Q vs ds) trivial (fun _ => trivial) (fun _ => trivial) (fun _ => trivial) (fun _ _ _ => trivial) (fun _ _ _ => trivial) (fun _ => trivial) (fun _ _ => trivial)
    (fun _ _ _ _ _ => trivial) trivial n (fun r t _ q => c r t q) h
theorem RpAll.mono (e : Same G G') {vs : List V} {ds : List D} (h : RpAll K G vs ds) : RpAll K G' vs ds :=
  RpAll.ind (Q := fun vs ds => RpAll K G' vs ds) .nil (fun r _ q => .cons (Rp.mono e r) q) h
theorem RpAll.length {vs : List V} {ds : List D} (h : RpAll K G vs ds) : vs.length = ds.length :=
  RpAll.ind (Q := fun vs ds => vs.length = ds.length) rfl (fun _ _ q => congrArg Nat.succ q) h
theorem RpAll.get {vs : List V} {ds : List D} {i : Nat} {v : V} (h : RpAll K G vs ds) (e : vs[i]? = some v) : ∃ d, ds[i]? = some d ∧ Rp K G v d :=
  RpAll.ind (Q := fun vs ds => ∀ i v, vs[i]? = some v → ∃ d, ds[i]? = some d ∧ Rp K G v d) (fun _ _ e => by simp at e) (fun r _ q i v e => by
    cases i with
    | zero => cases e; exact ⟨_, rfl, r⟩
    | succ i => exact q i v e) h i v e
theorem RpAll.getD {vs : List V} {ds : List D} {i : Nat} {d : D} (h : RpAll K G vs ds) (e : ds[i]? = some d) : ∃ v, vs[i]? = some v ∧ Rp K G v d :=
  RpAll.ind (Q := fun vs ds => ∀ i d, ds[i]? = some d → ∃ v, vs[i]? = some v ∧ Rp K G v d) (fun _ _ e => by simp at e) (fun r _ q i v e => by
    cases i with
    | zero => cases e; exact ⟨_, rfl, r⟩
    | succ i => exact q i v e) h i d e
theorem RpAll.append {vs ws : List V} {ds es : List D} (h : RpAll K G vs ds) (s : RpAll K G ws es) : RpAll K G (vs ++ ws) (ds ++ es) :=
  RpAll.ind (Q := fun vs ds => RpAll K G (vs ++ ws) (ds ++ es)) s (fun r _ q => .cons r q) h
theorem RpAll.take {vs : List V} {ds : List D} (n : Nat) (h : RpAll K G vs ds) : RpAll K G (vs.take n) (ds.take n) :=
  RpAll.ind (Q := fun vs ds => ∀ n, RpAll K G (vs.take n) (ds.take n)) (fun n => by rw [List.take_nil, List.take_nil]; exact .nil) (fun r _ q n => by
    cases n with
    | zero => exact .nil
    | succ n => exact .cons r (q n)) h n
theorem RpAll.drop {vs : List V} {ds : List D} (n : Nat) (h : RpAll K G vs ds) : RpAll K G (vs.drop n) (ds.drop n) :=
  RpAll.ind (Q := fun vs ds => ∀ n, RpAll K G (vs.drop n) (ds.drop n)) (fun n => by rw [List.drop_nil, List.drop_nil]; exact .nil) (fun r t q n => by
    cases n with
    | zero => exact .cons r t
    | succ n => exact q n) h n
theorem RpAll.set {v : V} {d : D} (r : Rp K G v d) {vs : List V} {ds : List D} (i : Nat) (h : RpAll K G vs ds) : RpAll K G (vs.set i v) (ds.set i d) :=
  RpAll.ind (Q := fun vs ds => ∀ i, RpAll K G (vs.set i v) (ds.set i d)) (fun _ => .nil) (fun q t s i => by
    cases i with
    | zero => exact .cons r t
    | succ i => exact .cons q (s i)) h i
theorem RpAll.reverse {vs : List V} {ds : List D} (h : RpAll K G vs ds) : RpAll K G vs.reverse ds.reverse :=
  RpAll.ind (Q := fun vs ds => RpAll K G vs.reverse ds.reverse) .nil (fun r _ q => by
    rw [List.reverse_cons, List.reverse_cons]
    exact q.append (.cons r .nil)) h
/-- what can be laid has no dicts -/
theorem Rp.dp {v : V} {d : D} (h : Rp K G v d) : d.canLay0 = true → Dp K G v d :=
  Rp.rec (motive_1 := fun v d _ => d.canLay0 = true → Dp K G v d) (motive_2 := fun vs ds _ => PyData.canLayAll0 ds = true → DpAll K G vs ds) (fun _ => .non) (fun b _ => .bl b) (fun i _ => .int i) (fun x _ => .str x)
    (fun h _ q c => .lst h.sql (q (by rw [PyData.canLay0] at c; exact c))) (fun h _ q c => .tup h.sqt (q (by rw [PyData.canLay0] at c; exact c))) (fun _ c => by rw [PyData.canLay0] at c; cases c)
    (fun _ _ c => by rw [PyData.canLay0] at c; cases c) (fun _ _ _ _ _ c => by rw [PyData.canLay0] at c; cases c) (fun c => by rw [PyData.canLay0] at c; cases c) (fun _ => .nil)
    (fun _ _ q t c => by rw [PyData.canLayAll0, Bool.and_eq_true] at c; exact .cons (q c.1) (t c.2)) h
theorem RpAll.dp {vs : List V} {ds : List D} (h : RpAll K G vs ds) (c : PyData.canLayAll0 ds = true) : DpAll K G vs ds :=
  RpAll.ind (Q := fun vs ds => PyData.canLayAll0 ds = true → DpAll K G vs ds) (fun _ => .nil) (fun r _ q c => by rw [PyData.canLayAll0, Bool.and_eq_true] at c; exact .cons (r.dp c.1) (q c.2)) h c
end
/-! ### the store: what the defs share and change -/
structure Sto where
  T : Type
  /-- where tables of code objects may stand -/
  tb : Addr → Prop
  R : PySem.W.Frag → T → Hp → (Addr → Prop) → Hp → Prop
  st : ∀ {K t G G' F H H'}, R K t G F H → Same G G' → (∀ a, F a → H' a = H a) → R K t G' F H'
/-- from one state to a later one: what is said for ever grows, what isn't the store's stands -/
def NewT (F : Addr → Prop) (H : Hp) (a : Addr) : Prop := H a = none ∨ (∃ vs, H a = some (.tup vs)) ∧ ¬ F a
structure Step (G : Hp) (F : Addr → Prop) (H G' : Hp) (F' : Addr → Prop) (H' : Hp) : Prop where
  g : Same G G'
  h : ∀ a o, ¬ F a → H a = some o → H' a = some o
  gn : ∀ a o, G' a = some o → G a = some o ∨ NewT F H a
  fn : ∀ a, F' a → F a ∨ H a = none
  ff : ∀ a, F a → F' a
  dom : ∀ a, H a ≠ none → H' a ≠ none
structure Ok (S : Sto) (K : PySem.W.Frag) (t : S.T) (G : Hp) (F : Addr → Prop) (H : Hp) : Prop where
  same : Same G H
  gf : ∀ a, F a → G a = none
  fh : ∀ a, F a → H a ≠ none
  r : S.R K t G F H
  nt : ∀ a ps, H a = some (.tbl ps) → S.tb a
  nx : ∀ a φ, H a = some (.ext φ) → G a = some (.ext φ)
theorem Step.refl (G : Hp) (F : Addr → Prop) (H : Hp) : Step G F H G F H :=
  ⟨Same.refl G, fun _ _ _ h => h, fun _ _ h => .inl h, fun _ h => .inl h, fun _ h => h, fun _ h => h⟩
theorem Step.trans {G F H G1 F1 H1 G2 F2 H2} (a : Step G F H G1 F1 H1) (b : Step G1 F1 H1 G2 F2 H2) : Step G F H G2 F2 H2 where
  g := a.g.trans b.g
  h := fun p o nf e => by
    refine b.h p o (fun z => ?_) (a.h p o nf e)
    rcases a.fn p z with z | z
    · exact nf z
    · rw [z] at e; cases e
  gn := fun p o e => by
    rcases b.gn p o e with z | z
    · exact a.gn p o z
    · refine .inr ?_
      rcases z with z | ⟨⟨vs, z⟩, nf⟩
      · exact .inl (Classical.byContradiction fun q => a.dom p q z)
      · have nf' : ¬ F p := fun y => nf (a.ff p y)
        cases q : H p with
        | none => exact .inl q
        | some u =>
          have := a.h p u nf' q
          rw [z] at this
          cases this
          exact .inr ⟨⟨vs, q⟩, nf'⟩
  fn := fun p e => by
    rcases b.fn p e with z | z
    · exact a.fn p z
    · exact .inr (Classical.byContradiction fun q => a.dom p q z)
  ff := fun p e => b.ff p (a.ff p e)
  dom := fun p e => b.dom p (a.dom p e)
/-- a new object that will never change -/
theorem Step.new {G F H p o} (n : H p = none) (s : Same G H) (nf : ∀ a, F a → H a ≠ none) : Step G F H (upd G p o) F (upd H p o) where
  g := fun a u e => by
    have : a ≠ p := ne_of_none (s a u e) n
    rw [upd_ne this]; exact e
  h := fun a u _ e => by rw [upd_ne (ne_of_none e n)]; exact e
  gn := fun a u e => by
    by_cases q : a = p
    · subst q; exact .inr (.inl n)
    · rw [upd_ne q] at e; exact .inl e
  fn := fun a e => .inl e
  ff := fun a e => e
  dom := fun a e => by
    by_cases q : a = p
    · subst q; exact absurd n e
    · rw [upd_ne q]; exact e
/-- a new object that may change -/
theorem Step.alloc {G F H p o} (n : H p = none) : Step G F H G F (upd H p o) where
  g := Same.refl G
  h := fun a u _ e => by rw [upd_ne (ne_of_none e n)]; exact e
  gn := fun a u e => .inl e
  fn := fun a e => .inl e
  ff := fun a e => e
  dom := fun a e => by
    by_cases q : a = p
    · subst q; exact absurd n e
    · rw [upd_ne q]; exact e
section
variable {S : Sto} {K : PySem.W.Frag} {t : S.T} {G G' H H' : Hp} {F : Addr → Prop} {p : Addr} {o : HO}
theorem Ok.nt' (k : Ok S K t G F H) (n : ∀ ps, o ≠ .tbl ps) : ∀ a ps, (upd H p o) a = some (.tbl ps) → S.tb a := fun a ps e => by
  by_cases q : a = p
  · subst q; rw [upd_same] at e; exact absurd (Option.some.inj e) (n ps)
  · rw [upd_ne q] at e; exact k.nt a ps e
theorem Ok.nx' (k : Ok S K t G F H) (n : ∀ φ, o ≠ .ext φ) : ∀ a φ, (upd H p o) a = some (.ext φ) → G a = some (.ext φ) := fun a φ e => by
  by_cases q : a = p
  · subst q; rw [upd_same] at e; exact absurd (Option.some.inj e) (n φ)
  · rw [upd_ne q] at e; exact k.nx a φ e
theorem Ok.new (k : Ok S K t G F H) (n : H p = none) (nt : ∀ ps, o ≠ .tbl ps := by intro _ z; cases z) : Ok S K t (upd G p o) F (upd H p o) where
  nt := k.nt' nt
  nx := fun a φ e => by
    by_cases q : a = p
    · subst q; rw [upd_same] at e ⊢; exact e
    · rw [upd_ne q] at e ⊢; exact k.nx a φ e
  same := fun a u e => by
    by_cases q : a = p
    · subst q; rw [upd_same] at e ⊢; exact e
    · rw [upd_ne q] at e ⊢; exact k.same a u e
  gf := fun a e => by
    have : a ≠ p := fun z => by subst z; exact k.fh _ e n
    rw [upd_ne this]; exact k.gf a e
  fh := fun a e => by
    have : a ≠ p := fun z => by subst z; exact k.fh _ e n
    rw [upd_ne this]; exact k.fh a e
  r := S.st k.r (Step.new (F := F) (o := o) n k.same k.fh).g fun a e => by
    have : a ≠ p := fun z => by subst z; exact k.fh _ e n
    rw [upd_ne this]
theorem Ok.alloc (k : Ok S K t G F H) (n : H p = none) (nt : ∀ ps, o ≠ .tbl ps := by intro _ z; cases z) (nx : ∀ φ, o ≠ .ext φ := by intro _ z; cases z) : Ok S K t G F (upd H p o) where
  nt := k.nt' nt
  nx := k.nx' nx
  same := fun a u e => by rw [upd_ne (ne_of_none (k.same a u e) n)]; exact k.same a u e
  gf := k.gf
  fh := fun a e => by
    have : a ≠ p := fun z => by subst z; exact k.fh _ e n
    rw [upd_ne this]; exact k.fh a e
  r := S.st k.r (Same.refl G) fun a e => by
    have : a ≠ p := fun z => by subst z; exact k.fh _ e n
    rw [upd_ne this]
/-- an object that is neither the store's nor said for ever is changed -/
theorem Ok.mut (k : Ok S K t G F H) (n : G p = none) (nf : ¬ F p) (nt : ∀ ps, o ≠ .tbl ps := by intro _ z; cases z) (nx : ∀ φ, o ≠ .ext φ := by intro _ z; cases z) : Ok S K t G F (upd H p o) where
  nt := k.nt' nt
  nx := k.nx' nx
  same := fun a u e => by rw [upd_ne (ne_of_none e n)]; exact k.same a u e
  gf := k.gf
  fh := fun a e => by
    have : a ≠ p := fun z => by subst z; exact nf e
    rw [upd_ne this]; exact k.fh a e
  r := S.st k.r (Same.refl G) fun a e => by
    have : a ≠ p := fun z => by subst z; exact nf e
    rw [upd_ne this]
/-- an object of one's own is said for ever from now on -/
theorem Ok.frz (k : Ok S K t G F H) (e : H p = some o) (n : G p = none) (nf : ¬ F p) : Ok S K t (upd G p o) F H where
  nt := k.nt
  nx := fun a φ z => by
    by_cases q : a = p
    · subst q; rw [upd_same]; rw [e] at z; exact z
    · rw [upd_ne q]; exact k.nx a φ z
  same := fun a u z => by
    by_cases q : a = p
    · subst q; rw [upd_same] at z; cases z; exact e
    · rw [upd_ne q] at z; exact k.same a u z
  gf := fun a z => by
    have : a ≠ p := fun z' => by subst z'; exact nf z
    rw [upd_ne this]; exact k.gf a z
  fh := k.fh
  r := S.st k.r (fun a u z => by rw [upd_ne (ne_of_none z n)]; exact z) fun a _ => rfl
end
/-! ### what slots and results hold -/
inductive SV where
  /-- nothing that is known -/
  | no
  /-- data -/
  | d (x : D)
  /-- a list of one's own -/
  | ol (xs : List D)
  /-- a list of one's own, looked at -/
  | vw (xs : List D)
  /-- a value as it is -/
  | raw (v : V)
/-- a list that is read -/
def SV.lst? : SV → Option (List D)
  | .d (.list xs) => some xs
  | .ol xs => some xs
  | .vw xs => some xs
  | _ => none
/-- a list of one's own at p: neither said for ever, nor the store's -/
structure Own (K : PySem.W.Frag) (H0 G : Hp) (F : Addr → Prop) (H : Hp) (p : Addr) (xs : List D) : Prop where
  at' : ∃ vs, H p = some (.lst vs) ∧ RpAll K G vs xs
  g : G p = none
  f : ¬ F p
  new : H0 p = none
theorem Own.step {K : PySem.W.Frag} {H0 G F H G' F' H' p xs} (o : Own K H0 G F H p xs) (s : Step G F H G' F' H') : Own K H0 G' F' H' p xs := by
  obtain ⟨⟨vs, e, a⟩, g, f, n⟩ := o
  refine ⟨⟨vs, s.h p _ f e, a.mono s.g⟩, ?_, fun z => ?_, n⟩
  · cases q : G' p with
    | none => rfl
    | some u =>
      rcases s.gn p u q with z | z
      · rw [g] at z; cases z
      · rcases z with z | ⟨⟨_, z⟩, _⟩
        · rw [e] at z; cases z
        · rw [e] at z; cases z
  · rcases s.fn p z with z | z
    · exact f z
    · rw [e] at z; cases z
/-- a slot -/
def SvR (K : PySem.W.Frag) (H0 G : Hp) (F : Addr → Prop) (H : Hp) : SV → Option V → Prop
  | .no, _ => True
  | .d x, o => ∃ v, o = some v ∧ Rp K G v x
  | .ol xs, o => ∃ p, o = some (.ref p) ∧ Own K H0 G F H p xs
  | .vw _, _ => False
  | .raw v, o => o = some v
theorem SvR.step {K : PySem.W.Frag} {H0 G F H G' F' H' o} (st : Step G F H G' F' H') : ∀ {s : SV}, SvR K H0 G F H s o → SvR K H0 G' F' H' s o
  | .no, _ => trivial
  | .d _, ⟨v, e, r⟩ => ⟨v, e, r.mono st.g⟩
  | .ol _, ⟨p, e, w⟩ => ⟨p, e, w.step st⟩
  | .vw _, h => h.elim
  | .raw _, h => h
structure EnvR (K : PySem.W.Frag) (H0 G : Hp) (F : Addr → Prop) (H : Hp) (σ : L2.St) (env : List SV) : Prop where
  len : σ.length = env.length
  at' : ∀ (i : Nat) (s : SV), env[i]? = some s → SvR K H0 G F H s (σ[i]?.join)
  sep : ∀ (i j : Nat) (xs ys : List D), i ≠ j → env[i]? = some (.ol xs) → env[j]? = some (.ol ys) → σ[i]?.join ≠ σ[j]?.join
theorem EnvR.step {K : PySem.W.Frag} {H0 G F H G' F' H' σ env} (e : EnvR K H0 G F H σ env) (st : Step G F H G' F' H') : EnvR K H0 G' F' H' σ env :=
  ⟨e.len, fun i s h => (e.at' i s h).step st, e.sep⟩
/-- a result: H is the heap ahead -/
def Res (K : PySem.W.Frag) (Ha G : Hp) (F : Addr → Prop) (H : Hp) : SV → V → Prop
  | .no, _ => False
  | .d x, v => Rp K G v x
  | .ol xs, v => ∃ p, v = .ref p ∧ Own K Ha G F H p xs
  | .vw xs, v => ∃ p vs, v = .ref p ∧ H p = some (.lst vs) ∧ RpAll K G vs xs ∧ ¬ F p
  | .raw u, v => v = u
theorem Res.step {K : PySem.W.Frag} {Ha G F H G' F' H' v} (st : Step G F H G' F' H') {s : SV} (h : Res K Ha G F H s v) : Res K Ha G' F' H' s v := by
  cases s with
  | no => exact h.elim
  | raw _ => exact h
  | d x => exact Rp.mono st.g h
  | ol xs =>
    obtain ⟨p, e, w⟩ := h
    exact ⟨p, e, w.step st⟩
  | vw xs =>
    obtain ⟨p, vs, e, e2, a, nf⟩ := h
    refine ⟨p, vs, e, st.h p _ nf e2, a.mono st.g, fun z => ?_⟩
    rcases st.fn p z with z | z
    · exact nf z
    · rw [e2] at z; cases z
/-- the heap ahead may be an earlier one -/
theorem Res.back {K : PySem.W.Frag} {Ha Hb G F H v} (b : ∀ a, Ha a = none → Hb a = none) {s : SV} (h : Res K Ha G F H s v) : Res K Hb G F H s v := by
  cases s with
  | ol xs =>
    obtain ⟨p, e, w⟩ := h
    exact ⟨p, e, w.at', w.g, w.f, b p w.new⟩
  | _ => exact h
/-- what is read as a list -/
theorem Res.sql {K : PySem.W.Frag} {Ha G F H v} (sm : Same G H) {s : SV} {xs : List D} (h : Res K Ha G F H s v) (z : s.lst? = some xs) : ∃ p vs, v = .ref p ∧ SqP K H p vs ∧ RpAll K G vs xs := by
  cases s with
  | no => exact h.elim
  | raw _ => cases z
  | ol _ =>
    obtain ⟨p, e, w⟩ := h
    cases z
    obtain ⟨vs, e2, a⟩ := w.at'
    exact ⟨p, vs, e, .inl (.inl e2), a⟩
  | vw _ =>
    obtain ⟨p, vs, e, e2, a, _⟩ := h
    cases z
    exact ⟨p, vs, e, .inl (.inl e2), a⟩
  | d x =>
    have hr : Rp K G v x := h
    clear h
    cases hr with
    | lst h a => cases z; exact ⟨_, _, rfl, same_sqp sm h, a⟩
    | _ => cases z
/-! ### where a def stands -/
structure Bk where
  S : Sto
  K : PySem.W.Frag
  G : Hp
  F : Addr → Prop
  H : Hp
abbrev Bk.T (B : Bk) := B.S.T
structure StR (B : Bk) (G : Hp) (F : Addr → Prop) (σ : L2.St) (H : Hp) (env : List SV) (τ : B.T) : Prop where
  s : Step B.G B.F B.H G F H
  k : Ok B.S B.K τ G F H
  e : EnvR B.K B.H G F H σ env
theorem StR.step {B : Bk} {G F σ H env τ G' F' H' τ'} (s : StR B G F σ H env τ) (st : Step G F H G' F' H') (k : Ok B.S B.K τ' G' F' H') : StR B G' F' σ H' env τ' :=
  ⟨s.s.trans st, k, s.e.step st⟩
/-- readings by data -/
abbrev W (T : Type) := List SV → T → (SV → T → Prop) → Prop
abbrev WT (T : Type) := List SV → T → (Bool → T → Prop) → Prop
abbrev WA (T : Type) := List SV → T → (List SV → T → Prop) → Prop
structure Fin (B : Bk) (G : Hp) (F : Addr → Prop) (H : Hp) (τ' : B.T) (G' : Hp) (F' : Addr → Prop) (H' : Hp) : Prop where
  s : Step G F H G' F' H'
  k : Ok B.S B.K τ' G' F' H'
theorem Fin.trans {B : Bk} {G F H τ1 G1 F1 H1 τ2 G2 F2 H2} (a : Fin B G F H τ1 G1 F1 H1) (b : Fin B G1 F1 H1 τ2 G2 F2 H2) : Fin B G F H τ2 G2 F2 H2 := ⟨a.s.trans b.s, b.k⟩
theorem StR.fin {B : Bk} {G F σ H env τ G' F' H' τ'} (s : StR B G F σ H env τ) (f : Fin B G F H τ' G' F' H') : StR B G' F' σ H' env τ' := s.step f.s f.k
theorem StR.refl {B : Bk} {G F σ H env τ} (s : StR B G F σ H env τ) : Fin B G F H τ G F H := ⟨Step.refl _ _ _, s.k⟩
def lift (B : Bk) (t : W B.T) : TE := fun σ H Q => ∃ G F env τ Qd, StR B G F σ H env τ ∧ t env τ Qd ∧
  ∀ r τ' G' F' H' v, Fin B G F H τ' G' F' H' → Res B.K H G' F' H' r v → Qd r τ' → Q v H'
def liftT (B : Bk) (t : WT B.T) : TT := fun σ H Q => ∃ G F env τ Qd, StR B G F σ H env τ ∧ t env τ Qd ∧
  ∀ b τ' G' F' H', Fin B G F H τ' G' F' H' → Qd b τ' → Q b H'
/-- each of several results -/
inductive ResAll (K : PySem.W.Frag) (Ha G : Hp) (F : Addr → Prop) (H : Hp) : List SV → List V → Prop
  | nil : ResAll K Ha G F H [] []
  | cons {r : SV} {rs : List SV} {v : V} {vs : List V} : Res K Ha G F H r v → ResAll K Ha G F H rs vs → ResAll K Ha G F H (r :: rs) (v :: vs)
theorem ResAll.back {K : PySem.W.Frag} {Ha Hb G F H} (b : ∀ a, Ha a = none → Hb a = none) : ∀ {rs : List SV} {vs : List V}, ResAll K Ha G F H rs vs → ResAll K Hb G F H rs vs
  | _, _, .nil => .nil
  | _, _, .cons r t => .cons (r.back b) (t.back b)
theorem ResAll.length {K : PySem.W.Frag} {Ha G F H} : ∀ {rs : List SV} {vs : List V}, ResAll K Ha G F H rs vs → rs.length = vs.length
  | _, _, .nil => rfl
  | _, _, .cons _ t => congrArg Nat.succ t.length
def liftA (B : Bk) (t : WA B.T) : TA := fun σ H Q => ∃ G F env τ Qd, StR B G F σ H env τ ∧ t env τ Qd ∧
  ∀ rs τ' G' F' H' vs, Fin B G F H τ' G' F' H' → ResAll B.K H G' F' H' rs vs → Qd rs τ' → Q vs H'
/-- one elimination for all of these -/
theorem ex53 {α β γ δ ε : Sort _} {P A B : α → β → γ → δ → ε → Prop} {R : Prop} (h : ∃ a b c d e, P a b c d e ∧ A a b c d e ∧ B a b c d e)
    (k : ∀ a b c d e, P a b c d e → A a b c d e → B a b c d e → R) : R := by
  obtain ⟨a, b, c, d, e, h1, h2, h3⟩ := h
  exact k a b c d e h1 h2 h3
theorem dead {H H' : Hp} (d : ∀ a, H a ≠ none → H' a ≠ none) (a : Addr) (n : H' a = none) : H a = none :=
  Classical.byContradiction fun q => d a q n
section
variable {X : Cx} {e : Expr} {t t' : TE}
theorem pe_imp (h : PE X e t) (i : ∀ σ H Q, t' σ H Q → t σ H Q) : PE X e t' := ⟨fun pins s σ H Q I z => h.run pins s σ H Q I (i σ H Q z)⟩
theorem pt_imp {t t' : TT} (h : PT X e t) (i : ∀ σ H Q, t' σ H Q → t σ H Q) : PT X e t' := ⟨fun pins s σ H Q I z => h.run pins s σ H Q I (i σ H Q z)⟩
theorem pa_imp {es : List Expr} {t t' : TA} (h : PA X es t) (i : ∀ σ H Q, t' σ H Q → t σ H Q) : PA X es t' := ⟨fun pos pins s σ H Q I z => h.run pos pins s σ H Q I (i σ H Q z)⟩
theorem ps_imp {st : Stmt} {t t' : TS} (h : PS X st t) (i : ∀ D σ H, t' D σ H → t D σ H) : PS X st t' := ⟨fun pins s σ H D I z => h.run pins s σ H D I (i D σ H z)⟩
theorem pss_imp {st : List Stmt} {t t' : TS} (h : PSs X st t) (i : ∀ D σ H, t' D σ H → t D σ H) : PSs X st t' := ⟨fun pins s σ H D I z => h.run pins s σ H D I (i D σ H z)⟩
end
/-! ### names, constants -/
section
variable {X : Cx} {B : Bk} {e : Expr}
/-- the name in slot i -/
def kV {T : Type} (Q : SV → T → Prop) (τ : T) : Option SV → Prop
  | some (.d x) => Q (.d x) τ
  | some (.ol xs) => Q (.vw xs) τ
  | some (.raw v) => Q (.raw v) τ
  | _ => False
def dVar {T : Type} (i : Nat) : W T := fun env τ Q => kV Q τ env[i]?
theorem de_var {i : Nat} (h : PE X e (tVar i)) : PE X e (lift B (dVar i)) := by
  refine pe_imp h fun σ H Q z9 => ex53 z9 fun G F env τ Qd s t k => ?_
  have t : kV Qd τ env[i]? := t
  cases q : env[i]? with
  | none => rw [q] at t; exact False.elim t
  | some sv =>
    rw [q] at t
    have r := s.e.at' i sv q
    cases sv with
    | no => exact False.elim t
    | vw _ => exact False.elim t
    | d x =>
      obtain ⟨v, e1, r⟩ := r
      have e2 : σ[i]? = some (some v) := by
        cases z : σ[i]? with
        | none => rw [z] at e1; cases e1
        | some o => rw [z] at e1; exact congrArg some e1
      exact ⟨v, e2, k (.d x) _ _ _ _ _ s.refl r t⟩
    | ol xs =>
      obtain ⟨p, e1, w⟩ := r
      have e2 : σ[i]? = some (some (.ref p)) := by
        cases z : σ[i]? with
        | none => rw [z] at e1; cases e1
        | some o => rw [z] at e1; exact congrArg some e1
      obtain ⟨vs, h1, h2⟩ := w.at'
      exact ⟨_, e2, k (.vw xs) _ _ _ _ _ s.refl ⟨p, vs, rfl, h1, h2, w.f⟩ t⟩
    | raw v =>
      have e1 : σ[i]?.join = some v := r
      have e2 : σ[i]? = some (some v) := by
        cases z : σ[i]? with
        | none => rw [z] at e1; cases e1
        | some o => rw [z] at e1; exact congrArg some e1
      exact ⟨v, e2, k (.raw v) _ _ _ _ _ s.refl rfl t⟩
/-- what is always the same data -/
def dC {T : Type} (x : D) : W T := fun _ τ Q => Q (.d x) τ
theorem de_c {v : V} {x : D} (h : PE X e (tC v)) (r : ∀ G, Rp B.K G v x) : PE X e (lift B (dC x)) :=
  pe_imp h fun σ H Q z9 => ex53 z9 fun G F env τ Qd s t k => k (.d x) _ _ _ _ _ s.refl (r G) t
theorem de_int {i j pos} : PE X (.Constant (.int i) j pos) (lift B (dC (.int i))) := de_c pe_int fun _ => .int i
theorem de_bl {b j pos} : PE X (.Constant (.bool b) j pos) (lift B (dC (.bool b))) := de_c pe_bl fun _ => .bl b
theorem de_non {j pos} : PE X (.Constant .none j pos) (lift B (dC .none)) := de_c pe_non fun _ => .non
theorem de_str {x j pos} : PE X (.Constant (.str x) j pos) (lift B (dC (.str x))) := de_c pe_str fun _ => .str x
def dRaw {T : Type} (v : V) : W T := fun _ τ Q => Q (.raw v) τ
theorem de_raw {v : V} (h : PE X e (tC v)) : PE X e (lift B (dRaw v)) :=
  pe_imp h fun σ H Q z9 => ex53 z9 fun G F env τ Qd s t k => k (.raw v) _ _ _ _ _ s.refl rfl t
end
end Z
namespace Z
open PySem L2
/-- what follows a result -/
abbrev FinT (B : Bk) (G : Hp) (F : Addr → Prop) (H : Hp) (τ : B.T) (Qv : SV → Prop) (Q : VK) : Prop := ∀ z G' F' H' v, Fin B G F H τ G' F' H' → Res B.K H G' F' H' z v → Qv z → Q v H'
section
variable {B : Bk} {G : Hp} {F : Addr → Prop} {H : Hp} {τ : B.T} {Qv : SV → Prop} {Q : VK}
theorem Fin.rfl' (k : Ok B.S B.K τ G F H) : Fin B G F H τ G F H := ⟨Step.refl _ _ _, k⟩
theorem FinT.d {v : V} {x : D} (fin : FinT B G F H τ Qv Q) (k : Ok B.S B.K τ G F H) (r : Rp B.K G v x) (h : Qv (.d x)) : Q v H := fin (.d x) G F H v (.rfl' k) r h
/-- a new list: one's own -/
theorem new_lst {p : Addr} {vs : List V} {xs : List D} (k : Ok B.S B.K τ G F H) (n : H p = none) (a : RpAll B.K G vs xs) : Fin B G F H τ G F (upd H p (.lst vs)) ∧ Res B.K H G F (upd H p (.lst vs)) (.ol xs) (.ref p) := by
  refine ⟨⟨Step.alloc n, k.alloc n⟩, p, rfl, ⟨vs, upd_same, a⟩, ?_, fun z => k.fh p z n, n⟩
  cases q : G p with
  | none => rfl
  | some u => rw [k.same _ _ q] at n; cases n
/-- a new tuple: said for ever -/
theorem new_tup {p : Addr} {vs : List V} {xs : List D} (k : Ok B.S B.K τ G F H) (n : H p = none) (a : RpAll B.K G vs xs) :
    Fin B G F H τ (upd G p (.tup vs)) F (upd H p (.tup vs)) ∧ Res B.K H (upd G p (.tup vs)) F (upd H p (.tup vs)) (.d (.tuple xs)) (.ref p) := by
  have st := Step.new (o := .tup vs) n k.same k.fh
  exact ⟨⟨st, k.new n⟩, Rp.tup (.inl upd_same) (a.mono st.g)⟩
theorem FinT.ol {p : Addr} {vs : List V} {xs : List D} (fin : FinT B G F H τ Qv Q) (k : Ok B.S B.K τ G F H) (n : H p = none) (a : RpAll B.K G vs xs) (h : Qv (.ol xs)) : Q (.ref p) (upd H p (.lst vs)) :=
  fin _ _ _ _ _ (new_lst k n a).1 (new_lst k n a).2 h
theorem FinT.tup {p : Addr} {vs : List V} {xs : List D} (fin : FinT B G F H τ Qv Q) (k : Ok B.S B.K τ G F H) (n : H p = none) (a : RpAll B.K G vs xs) (h : Qv (.d (.tuple xs))) : Q (.ref p) (upd H p (.tup vs)) :=
  fin _ _ _ _ _ (new_tup k n a).1 (new_tup k n a).2 h
end
/-! ### operations by values -/
def OpD (B : Bk) (r : R2) (g : SV → SV → (SV → Prop) → Prop) : Prop :=
  ∀ (x y : SV) (vx vy : V) (Ha Hb G : Hp) (F : Addr → Prop) (H : Hp) (τ : B.T) (Qv : SV → Prop) (Q : VK), Ok B.S B.K τ G F H → Res B.K Ha G F H x vx → Res B.K Hb G F H y vy → g x y Qv →
    FinT B G F H τ Qv Q → r vx vy H Q
def dOp {T : Type} (g : SV → SV → (SV → Prop) → Prop) (ta tb : W T) : W T := fun env τ Q => ta env τ fun x τ1 => tb env τ1 fun y τ2 => g x y fun z => Q z τ2
theorem OpD.or {B : Bk} {r r' : R2} {g g' : SV → SV → (SV → Prop) → Prop} (a : OpD B r g) (b : OpD B r' g') : OpD B (fun x y H Q => r x y H Q ∨ r' x y H Q) (fun x y Q => g x y Q ∨ g' x y Q) :=
  fun x y vx vy Ha Hb G F H τ Qv Q k rx ry h q => h.elim (fun h => .inl (a x y vx vy Ha Hb G F H τ Qv Q k rx ry h q)) fun h => .inr (b x y vx vy Ha Hb G F H τ Qv Q k rx ry h q)
theorem OpD.imp {B : Bk} {r : R2} {g g' : SV → SV → (SV → Prop) → Prop} (a : OpD B r g) (i : ∀ x y Q, g' x y Q → g x y Q) : OpD B r g' :=
  fun x y vx vy Ha Hb G F H τ Qv Q k rx ry h q => a x y vx vy Ha Hb G F H τ Qv Q k rx ry (i _ _ _ h) q
section
variable {X : Cx} {B : Bk} {a b c : Expr} {pos : Pos} {ta tb tc : W B.T} {r r' : R2} {g g' : SV → SV → (SV → Prop) → Prop}
theorem lift_op (hd : OpD B r g) : ∀ σ H Q, lift B (dOp g ta tb) σ H Q → tOp r (lift B ta) (lift B tb) σ H Q := fun σ H Q z9 => ex53 z9 fun G F env τ Qd s t k =>
  ⟨G, F, env, τ, _, s, t, fun x τ1 G1 F1 H1 vx f1 r1 q1 => ⟨G1, F1, env, τ1, _, s.fin f1, q1, fun y τ2 G2 F2 H2 vy f2 r2 q2 =>
    hd x y vx vy _ _ G2 F2 H2 τ2 _ _ f2.k (r1.step f2.s) r2 q2 fun z G3 F3 H3 v f3 r3 q3 => k z τ2 G3 F3 H3 v (f1.trans (f2.trans f3)) (r3.back (dead (f1.trans f2).s.dom)) q3⟩⟩
theorem de_op {op : Operator} (ho : OpR X (binaryOp op) r) (hd : OpD B r g) (ha : PE X a (lift B ta)) (hb : PE X b (lift B tb)) : PE X (.BinOp a op b pos) (lift B (dOp g ta tb)) :=
  pe_imp (pe_op ho ha hb) (lift_op hd)
theorem de_cmp {op : CmpOp} (ho : OpR X (compareOp op) r) (hd : OpD B r g) (ha : PE X a (lift B ta)) (hb : PE X b (lift B tb)) (hm : behindInMarks op b = false) : PE X (.Compare a [op] [b] pos) (lift B (dOp g ta tb)) :=
  pe_imp (pe_cmpR ho ha hb hm) (lift_op hd)
/-- a truth value as a test -/
def kG {T : Type} (Q : SV → T → Prop) (τ : T) (z : SV) : Prop := Q z τ
def kTb {T : Type} (Q : Bool → T → Prop) (τ : T) : Option Bool → Prop
  | some b => Q b τ
  | none => False
def SV.bl? : SV → Option Bool
  | .d (.bool b) => some b
  | _ => none
def kT {T : Type} (Q : Bool → T → Prop) (x : SV) (τ : T) : Prop := kTb Q τ x.bl?
theorem kTb_of {T : Type} {Q : Bool → T → Prop} {τ : T} {o : Option Bool} (h : kTb Q τ o) : ∃ b, o = some b ∧ Q b τ := by
  cases o with
  | none => exact False.elim h
  | some b => exact ⟨b, rfl, h⟩
theorem kTb_bl {T : Type} {Q : Bool → T → Prop} {τ : T} {x : SV} (h : kTb Q τ x.bl?) : ∃ b, x = .d (.bool b) ∧ Q b τ := by
  unfold SV.bl? at h
  split at h
  · exact ⟨_, rfl, h⟩
  · exact False.elim h
def dT {T : Type} (t : W T) : WT T := fun env τ Q => t env τ (kT Q)
theorem rbl {K : PySem.W.Frag} {Ha G F H v k} (h : Res K Ha G F H (.d (.bool k)) v) : v = .bl k := by
  have h : Rp K G v (.bool k) := h
  cases h
  rfl
theorem rint {K : PySem.W.Frag} {Ha G F H v k} (h : Res K Ha G F H (.d (.int k)) v) : v = .int k := by
  have h : Rp K G v (.int k) := h
  cases h
  rfl
theorem rstr {K : PySem.W.Frag} {Ha G F H v k} (h : Res K Ha G F H (.d (.str k)) v) : v = .str k := by
  have h : Rp K G v (.str k) := h
  cases h
  rfl
theorem rnon {K : PySem.W.Frag} {Ha G F H v} (h : Res K Ha G F H (.d .none) v) : v = .non := by
  have h : Rp K G v .none := h
  cases h
  rfl
theorem rtup {K : PySem.W.Frag} {Ha G F H v xs} (h : Res K Ha G F H (.d (.tuple xs)) v) : ∃ p vs, v = .ref p ∧ SqTP K G p vs ∧ RpAll K G vs xs := by
  have h : Rp K G v (.tuple xs) := h
  cases h with
  | tup h1 a => exact ⟨_, _, rfl, h1, a⟩
theorem lift_tst {te : TE} (i : ∀ σ H Q, lift B ta σ H Q → te σ H Q) : ∀ σ H Q, liftT B (dT ta) σ H Q → tTest te σ H Q := fun σ H Q z9 => ex53 z9 fun G F env τ Qd s t k =>
  i _ _ _ ⟨G, F, env, τ, _, s, t, fun x τ1 G1 F1 H1 vx f1 r1 q0 => by
    obtain ⟨b, e, q⟩ := kTb_bl q0
    subst e
    exact ⟨b, rbl r1, k b τ1 G1 F1 H1 f1 q⟩⟩
theorem dt_cmp {op : CmpOp} (ho : OpR X (compareOp op) r) (hd : OpD B r g) (ha : PE X a (lift B ta)) (hb : PE X b (lift B tb)) (hm : behindInMarks op b = false) : PT X (.Compare a [op] [b] pos) (liftT B (dT (dOp g ta tb))) :=
  pt_imp (pt_cmpR ho ha hb hm) (lift_tst (lift_op hd))
/-- a < b < c -/
def kCh3 {T : Type} (Q : SV → T → Prop) (τ : T) (u : SV) : Prop := Q u τ
def kCh4 {T : Type} (g' : SV → SV → (SV → Prop) → Prop) (y : SV) (Q : SV → T → Prop) (w : SV) (τ : T) : Prop := g' y w (kG Q τ)
def kChB {T : Type} (tc : W T) (env : List SV) (g' : SV → SV → (SV → Prop) → Prop) (y : SV) (Q : SV → T → Prop) (b : Bool) (τ : T) : Prop := if b = true then tc env τ (kCh4 g' y Q) else Q (.d (.bool false)) τ
def kCh2 {T : Type} (tc : W T) (env : List SV) (g g' : SV → SV → (SV → Prop) → Prop) (Q : SV → T → Prop) (x y : SV) (τ : T) : Prop := g x y (kG (kT (kChB tc env g' y Q)) τ)
def kCh1 {T : Type} (tb tc : W T) (env : List SV) (g g' : SV → SV → (SV → Prop) → Prop) (Q : SV → T → Prop) (x : SV) (τ : T) : Prop := tb env τ (kCh2 tc env g g' Q x)
def dChain {T : Type} (g g' : SV → SV → (SV → Prop) → Prop) (ta tb tc : W T) : W T := fun env τ Q => ta env τ (kCh1 tb tc env g g' Q)
theorem lift_chain (hd : OpD B r g) (hd' : OpD B r' g') : ∀ σ H Q, lift B (dChain g g' ta tb tc) σ H Q → tChain r r' (lift B ta) (lift B tb) (lift B tc) σ H Q := fun σ H Q z9 => ex53 z9 fun G F env τ Qd s t k =>
  ⟨G, F, env, τ, _, s, t, fun x τ1 G1 F1 H1 vx f1 r1 q1 => ⟨G1, F1, env, τ1, _, s.fin f1, q1, fun y τ2 G2 F2 H2 vy f2 r2 q2 =>
    hd x y vx vy _ _ G2 F2 H2 τ2 _ _ f2.k (r1.step f2.s) r2 q2 fun z G3 F3 H3 v f3 r3 q0 => by
      obtain ⟨b, e, q3⟩ := kTb_bl q0
      subst e
      refine ⟨b, rbl r3, ?_⟩
      cases b with
      | false => exact k (.d (.bool false)) τ2 G3 F3 H3 _ (f1.trans (f2.trans f3)) (Rp.bl false) q3
      | true => exact ⟨G3, F3, env, τ2, _, s.fin (f1.trans (f2.trans f3)), q3, fun w τ4 G4 F4 H4 vw f4 r4 q4 =>
          hd' y w vy vw _ _ G4 F4 H4 τ4 _ _ f4.k (r2.step (f3.s.trans f4.s)) r4 q4 fun u G5 F5 H5 v5 f5 r5 q5 =>
            k u τ4 G5 F5 H5 v5 (f1.trans (f2.trans (f3.trans (f4.trans f5)))) (r5.back (dead (f1.trans (f2.trans (f3.trans f4))).s.dom)) q5⟩⟩⟩
theorem de_chain {op op' : CmpOp} (ho : OpR X (compareOp op) r) (hd : OpD B r g) (ho' : OpR X (compareOp op') r') (hd' : OpD B r' g') (ha : PE X a (lift B ta)) (hb : PE X b (lift B tb)) (hc : PE X c (lift B tc))
    (hm : lastMarks [op, op'] [b, c] = false := by with_unfolding_all rfl) : PE X (.Compare a [op, op'] [b, c] pos) (lift B (dChain g g' ta tb tc)) := pe_imp (pe_chain ho ho' ha hb hc hm) (lift_chain hd hd')
theorem dt_chain {op op' : CmpOp} (ho : OpR X (compareOp op) r) (hd : OpD B r g) (ho' : OpR X (compareOp op') r') (hd' : OpD B r' g') (ha : PE X a (lift B ta)) (hb : PE X b (lift B tb)) (hc : PE X c (lift B tc))
    (hm : lastMarks [op, op'] [b, c] = false := by with_unfolding_all rfl) : PT X (.Compare a [op, op'] [b, c] pos) (liftT B (dT (dChain g g' ta tb tc))) := pt_imp (pt_chain ho ho' ha hb hc hm) (lift_tst (lift_chain hd hd'))
end
/-! ### truth, and, or, not, if -/
def SV.truth : SV → Option Bool
  | .d .none => some false
  | .d (.bool b) => some b
  | .d (.int i) => some (i != 0)
  | .d (.str y) => if y.length ≤ sizeLine then some ((y.length : Int) != 0) else none
  | .d (.tuple xs) => some (!xs.isEmpty)
  | .d (.list xs) => some (!xs.isEmpty)
  | .d (.dict _) => none
  | .ol xs => some (!xs.isEmpty)
  | .vw xs => some (!xs.isEmpty)
  | _ => none
theorem isE {K : PySem.W.Frag} {G : Hp} {vs : List V} {xs : List D} (a : RpAll K G vs xs) : (!xs.isEmpty) = !vs.isEmpty := by
  cases a <;> rfl
theorem Res.truth {K : PySem.W.Frag} {Ha G F H v k} (sm : Same G H) {x : SV} (h : Res K Ha G F H x v) (e : x.truth = some k) : TruV K v H k := by
  cases x with
  | no => exact h.elim
  | raw _ => cases e
  | ol xs =>
    obtain ⟨p, e1, w⟩ := h
    cases e
    subst e1
    obtain ⟨vs, e2, a⟩ := w.at'
    exact .inl ⟨_, .of e2, isE a⟩
  | vw xs =>
    obtain ⟨p, vs, e1, e2, a, _⟩ := h
    cases e
    subst e1
    exact .inl ⟨_, .of e2, isE a⟩
  | d x =>
    have hr : Rp K G v x := h
    clear h
    cases hr with
    | non => cases e; rfl
    | bl b => cases e; rfl
    | int i => cases e; rfl
    | str y =>
      have e' : (if y.length ≤ sizeLine then some ((y.length : Int) != 0) else none) = some k := e
      split at e'
      · rename_i h
        cases e'
        exact ⟨h, rfl⟩
      · cases e'
    | tup h a => cases e; exact .inr (.inl ⟨_, same_seqT sm h, isE a⟩)
    | lst h a => cases e; exact .inl ⟨_, (same_sqp sm h).sql, isE a⟩
    | _ => cases e
section
variable {X : Cx} {B : Bk} {a b c : Expr} {pos : Pos} {ta tb tc : W B.T} {rest : List Expr} {tA tB' : WT B.T}
def kTru {T : Type} (Q : Bool → T → Prop) (x : SV) (τ : T) : Prop := kTb Q τ x.truth
def dTru {T : Type} (t : W T) : WT T := fun env τ Q => t env τ (kTru Q)
theorem dt_tru (hK : X.K = B.K) (ha : PE X a (lift B ta)) (he : ∀ whole, isTrue a X.env whole = (do let v ← whole; standAt a.pos; holding [v] (truthy v)) := by intro _; rfl) : PT X a (liftT B (dTru ta)) :=
  pt_imp (pt_truth ha he) fun σ H Q z9 => ex53 z9 fun G F env τ Qd s t k => ⟨G, F, env, τ, _, s, t, fun x τ1 G1 F1 H1 vx f1 r1 q0 => by
    obtain ⟨b, e, q⟩ := kTb_of q0
    exact ⟨b, by rw [hK]; exact r1.truth f1.k.same e, k b τ1 G1 F1 H1 f1 q⟩⟩
def dAndT {T : Type} (t u : WT T) : WT T := fun env τ Q => t env τ fun c τ1 => if c = true then u env τ1 Q else Q false τ1
def dOrT {T : Type} (t u : WT T) : WT T := fun env τ Q => t env τ fun c τ1 => if c = true then Q true τ1 else u env τ1 Q
def dNotT {T : Type} (t : WT T) : WT T := fun env τ Q => t env τ fun c τ1 => Q (!c) τ1
theorem dw_and1 (ha : PT X a (liftT B tA)) : PW X (.BoolOp .And [a] pos) (liftT B tA) := pw_and1 ha
theorem dw_or1 (ha : PT X a (liftT B tA)) : PW X (.BoolOp .Or [a] pos) (liftT B tA) := pw_or1 ha
theorem pw_imp {e : Expr} {t t' : TT} (h : PW X e t) (i : ∀ σ H Q, t' σ H Q → t σ H Q) : PW X e t' := ⟨fun wh pins s σ H Q I z => h.run wh pins s σ H Q I (i σ H Q z)⟩
theorem dw_and (ha : PT X a (liftT B tA)) (hb : PW X (.BoolOp .And (b :: rest) pos) (liftT B tB')) : PW X (.BoolOp .And (a :: b :: rest) pos) (liftT B (dAndT tA tB')) :=
  pw_imp (pw_and ha hb) fun σ H Q z9 => ex53 z9 fun G F env τ Qd s t k => ⟨G, F, env, τ, _, s, t, fun c τ1 G1 F1 H1 f1 q => by
    cases c with
    | true =>
      refine iteT ⟨G1, F1, env, τ1, _, s.fin f1, q, fun d τ2 G2 F2 H2 f2 q2 => k d τ2 G2 F2 H2 (f1.trans f2) q2⟩
    | false => exact iteF (k false τ1 G1 F1 H1 f1 q)⟩
theorem dw_or (ha : PT X a (liftT B tA)) (hb : PW X (.BoolOp .Or (b :: rest) pos) (liftT B tB')) : PW X (.BoolOp .Or (a :: b :: rest) pos) (liftT B (dOrT tA tB')) :=
  pw_imp (pw_or ha hb) fun σ H Q z9 => ex53 z9 fun G F env τ Qd s t k => ⟨G, F, env, τ, _, s, t, fun c τ1 G1 F1 H1 f1 q => by
    cases c with
    | false =>
      refine iteF ⟨G1, F1, env, τ1, _, s.fin f1, q, fun d τ2 G2 F2 H2 f2 q2 => k d τ2 G2 F2 H2 (f1.trans f2) q2⟩
    | true => exact iteT (k true τ1 G1 F1 H1 f1 q)⟩
theorem dt_w (h : PW X a (liftT B tA)) : PT X a (liftT B tA) := h.pt
theorem dt_not (ha : PT X a (liftT B tA)) : PT X (.UnaryOp .Not a pos) (liftT B (dNotT tA)) :=
  pt_imp (pt_not ha) fun σ H Q z9 => ex53 z9 fun G F env τ Qd s t k => ⟨G, F, env, τ, _, s, t, fun c τ1 G1 F1 H1 f1 q => k (!c) τ1 G1 F1 H1 f1 q⟩
/-- as values -/
def kAndB {T : Type} (tb : W T) (env : List SV) (Q : SV → T → Prop) (x : SV) (τ : T) : Option Bool → Prop
  | some true => tb env τ Q
  | some false => Q x τ
  | none => False
def kOrB {T : Type} (tb : W T) (env : List SV) (Q : SV → T → Prop) (x : SV) (τ : T) : Option Bool → Prop
  | some true => Q x τ
  | some false => tb env τ Q
  | none => False
def kAnd {T : Type} (tb : W T) (env : List SV) (Q : SV → T → Prop) (x : SV) (τ : T) : Prop := kAndB tb env Q x τ x.truth
def kOr {T : Type} (tb : W T) (env : List SV) (Q : SV → T → Prop) (x : SV) (τ : T) : Prop := kOrB tb env Q x τ x.truth
def kNotB {T : Type} (Q : SV → T → Prop) (τ : T) : Option Bool → Prop
  | some b => Q (.d (.bool (!b))) τ
  | none => False
def kNot {T : Type} (Q : SV → T → Prop) (x : SV) (τ : T) : Prop := kNotB Q τ x.truth
theorem kAnd_of {T : Type} {tb : W T} {env : List SV} {Q : SV → T → Prop} {x : SV} {τ : T} (h : kAnd tb env Q x τ) : ∃ k, x.truth = some k ∧ if k = true then tb env τ Q else Q x τ := by
  unfold kAnd at h
  cases e : x.truth with
  | none => rw [e] at h; exact False.elim h
  | some k =>
    rw [e] at h
    cases k with
    | true => exact ⟨true, rfl, h⟩
    | false => exact ⟨false, rfl, h⟩
theorem kOr_of {T : Type} {tb : W T} {env : List SV} {Q : SV → T → Prop} {x : SV} {τ : T} (h : kOr tb env Q x τ) : ∃ k, x.truth = some k ∧ if k = true then Q x τ else tb env τ Q := by
  unfold kOr at h
  cases e : x.truth with
  | none => rw [e] at h; exact False.elim h
  | some k =>
    rw [e] at h
    cases k with
    | true => exact ⟨true, rfl, h⟩
    | false => exact ⟨false, rfl, h⟩
theorem kNot_of {T : Type} {Q : SV → T → Prop} {x : SV} {τ : T} (h : kNot Q x τ) : ∃ k, x.truth = some k ∧ Q (.d (.bool (!k))) τ := by
  unfold kNot at h
  cases e : x.truth with
  | none => rw [e] at h; exact False.elim h
  | some k => rw [e] at h; exact ⟨k, rfl, h⟩
def dAnd {T : Type} (ta tb : W T) : W T := fun env τ Q => ta env τ (kAnd tb env Q)
def dOr {T : Type} (ta tb : W T) : W T := fun env τ Q => ta env τ (kOr tb env Q)
def dNot {T : Type} (ta : W T) : W T := fun env τ Q => ta env τ (kNot Q)
def dIf {T : Type} (t : WT T) (ta tb : W T) : W T := fun env τ Q => t env τ fun c τ1 => if c = true then ta env τ1 Q else tb env τ1 Q
theorem de_one {op} (h : PE X a (lift B ta)) : PE X (.BoolOp op [a] pos) (lift B ta) := pe_one h
theorem de_and (hK : X.K = B.K) (ha : PE X a (lift B ta)) (hb : PE X (.BoolOp .And (b :: rest) pos) (lift B tb)) : PE X (.BoolOp .And (a :: b :: rest) pos) (lift B (dAnd ta tb)) :=
  pe_imp (pe_andT ha hb) fun σ H Q z9 => ex53 z9 fun G F env τ Qd s t k => ⟨G, F, env, τ, _, s, t, fun x τ1 G1 F1 H1 vx f1 r1 q0 => let ⟨c, e, q⟩ := kAnd_of q0; ⟨c, by rw [hK]; exact r1.truth f1.k.same e, by
    cases c with
    | true => exact iteT ⟨G1, F1, env, τ1, _, s.fin f1, q, fun y τ2 G2 F2 H2 v f2 r2 q2 => k y τ2 G2 F2 H2 v (f1.trans f2) (r2.back (dead f1.s.dom)) q2⟩
    | false => exact iteF (k x τ1 G1 F1 H1 vx f1 r1 q)⟩⟩
theorem de_or (hK : X.K = B.K) (ha : PE X a (lift B ta)) (hb : PE X (.BoolOp .Or (b :: rest) pos) (lift B tb)) : PE X (.BoolOp .Or (a :: b :: rest) pos) (lift B (dOr ta tb)) :=
  pe_imp (pe_orT ha hb) fun σ H Q z9 => ex53 z9 fun G F env τ Qd s t k => ⟨G, F, env, τ, _, s, t, fun x τ1 G1 F1 H1 vx f1 r1 q0 => let ⟨c, e, q⟩ := kOr_of q0; ⟨c, by rw [hK]; exact r1.truth f1.k.same e, by
    cases c with
    | false => exact iteF ⟨G1, F1, env, τ1, _, s.fin f1, q, fun y τ2 G2 F2 H2 v f2 r2 q2 => k y τ2 G2 F2 H2 v (f1.trans f2) (r2.back (dead f1.s.dom)) q2⟩
    | true => exact iteT (k x τ1 G1 F1 H1 vx f1 r1 q)⟩⟩
theorem de_not (hK : X.K = B.K) (ha : PE X a (lift B ta)) : PE X (.UnaryOp .Not a pos) (lift B (dNot ta)) :=
  pe_imp (pe_notT ha) fun σ H Q z9 => ex53 z9 fun G F env τ Qd s t k => ⟨G, F, env, τ, _, s, t, fun x τ1 G1 F1 H1 vx f1 r1 q0 => let ⟨c, e, q⟩ := kNot_of q0; ⟨c, by rw [hK]; exact r1.truth f1.k.same e, k (.d (.bool (!c))) τ1 G1 F1 H1 _ f1 (Rp.bl (!c)) q⟩⟩
theorem de_if (hc : PT X c (liftT B tA)) (ha : PE X a (lift B ta)) (hb : PE X b (lift B tb)) : PE X (.IfExp c a b pos) (lift B (dIf tA ta tb)) :=
  pe_imp (pe_ifExp hc ha hb) fun σ H Q z9 => ex53 z9 fun G F env τ Qd s t k => ⟨G, F, env, τ, _, s, t, fun c τ1 G1 F1 H1 f1 q => by
    cases c with
    | true => exact iteT ⟨G1, F1, env, τ1, _, s.fin f1, q, fun y τ2 G2 F2 H2 v f2 r2 q2 => k y τ2 G2 F2 H2 v (f1.trans f2) (r2.back (dead f1.s.dom)) q2⟩
    | false => exact iteF ⟨G1, F1, env, τ1, _, s.fin f1, q, fun y τ2 G2 F2 H2 v f2 r2 q2 => k y τ2 G2 F2 H2 v (f1.trans f2) (r2.back (dead f1.s.dom)) q2⟩⟩
end
/-! ### ints -/
def gI (C : Int → Int → Prop) (f : Int → Int → D) (x y : SV) (Q : SV → Prop) : Prop := match x, y with
  | .d (.int i), .d (.int j) => C i j ∧ Q (.d (f i j))
  | _, _ => False
theorem gI_of {C : Int → Int → Prop} {f : Int → Int → D} {x y : SV} {Q : SV → Prop} (h : gI C f x y Q) : ∃ i j, x = .d (.int i) ∧ y = .d (.int j) ∧ C i j ∧ Q (.d (f i j)) := by
  unfold gI at h
  split at h
  · exact ⟨_, _, rfl, rfl, h⟩
  · exact False.elim h
def noC (_ _ : Int) : Prop := True
section
variable {X : Cx} {B : Bk}
theorem od_I {C : Int → Int → Prop} {f : Int → Int → Int} : OpD B (rI C fun i j => .int (f i j)) (gI C fun i j => .int (f i j)) := fun x y vx vy Ha Hb G F H τ Qv Q k rx ry q0 fin => by
  obtain ⟨i, j, e1, e2, hc, q⟩ := gI_of q0
  subst e1 e2
  exact ⟨i, j, rint rx, rint ry, hc, fin.d k (Rp.int _) q⟩
theorem od_I0 {f : Int → Int → Int} : OpD B (rI0 fun i j => .int (f i j)) (gI noC fun i j => .int (f i j)) := fun x y vx vy Ha Hb G F H τ Qv Q k rx ry q0 fin => by
  obtain ⟨i, j, e1, e2, hc, q⟩ := gI_of q0
  subst e1 e2
  exact ⟨i, j, rint rx, rint ry, fin.d k (Rp.int _) q⟩
end
/-! ### + -/
section
variable {X : Cx} {B : Bk}
/-- list + list, of any lists that are read -/
def rCatL (K : PySem.W.Frag) : R2 := fun x y H Q => ∃ l b xs zs, x = .ref l ∧ y = .ref b ∧ SqP K H l xs ∧ SqP K H b zs ∧ xs.length + zs.length ≤ sizeLine ∧ ∀ p, H p = none → Q (.ref p) (upd H p (.lst (xs ++ zs)))
theorem SqP.isL {pins : List (Addr × Obj)} {σ : L2.St} {H : Hp} {s : Shared} {a : Addr} {xs : List V} (I : Inv X pins σ H s) (h : SqP X.K H a xs) :
    ∃ (its : List Value) (n : Nat), Vals xs its ∧ s.heap.get? a = some { cls := .type "list", data := .seq its.toArray n } ∧ xs.length ≤ sizeLine := by
  rcases h with h | ⟨its, h, hz, r⟩
  · obtain ⟨z, its, n, r, e⟩ := h.ok I.hok
    exact ⟨its, n, r, e, z⟩
  · exact ⟨its, 0, r, I.kIn a _ h, hz⟩
theorem op_catL : OpR X (binaryOp .Add) (rCatL X.K) := by
  intro pins s σ H x y v u Q I rx ry h
  obtain ⟨l, b, xs, zs, rfl, rfl, hH, hB, hz, q⟩ := h
  cases rx
  cases ry
  obtain ⟨its, n, r, e, _⟩ := hH.isL I
  obtain ⟨its2, n2, r2, e2, _⟩ := hB.isL I
  have hl := r.length
  have hl2 := r2.length
  refine PySem.P.add_list e e2 ?_ (by rw [List.size_toArray, List.size_toArray]; omega)
  have ea : its.toArray ++ its2.toArray = (its ++ its2).toArray := by simp
  rw [ea]
  exact ⟨.ref _, _, I.lnew (t' := s.toks) (r.append r2) (by rw [List.length_append]; omega), rfl, q _ I.fresh⟩
/-- + of ints, texts, tuples, lists -/
def rAddA (K : PySem.W.Frag) : R2 := fun x y H Q => (rI0 fun i j => .int (i + j)) x y H Q ∨ (∃ i j, x = .str i ∧ y = .str j ∧ i.length + j.length ≤ sizeLine ∧ Q (.str (i ++ j)) H) ∨ rCatA K x y H Q ∨ rCatL K x y H Q
theorem op_addA : OpR X (binaryOp .Add) (rAddA X.K) := op_add.or (op_add_str.or (op_catA.or op_catL))
def gAdd (x y : SV) (Q : SV → Prop) : Prop := match x, y with
  | .d (.int i), .d (.int j) => Q (.d (.int (i + j)))
  | .d (.str a), .d (.str b) => a.length + b.length ≤ sizeLine ∧ Q (.d (.str (a ++ b)))
  | .d (.tuple a), .d (.tuple b) => a.length + b.length ≤ sizeLine ∧ Q (.d (.tuple (a ++ b)))
  | x, y => ∃ xs ys, x.lst? = some xs ∧ y.lst? = some ys ∧ xs.length + ys.length ≤ sizeLine ∧ Q (.ol (xs ++ ys))
theorem od_add (hK : X.K = B.K) : OpD B (rAddA X.K) gAdd := fun x y vx vy Ha Hb G F H τ Qv Q k rx ry h fin => by
  rw [hK]
  unfold gAdd at h
  split at h
  · exact .inl ⟨_, _, rint rx, rint ry, fin.d k (Rp.int _) h⟩
  · exact .inr (.inl ⟨_, _, rstr rx, rstr ry, h.1, fin.d k (Rp.str _) h.2⟩)
  · obtain ⟨hz, h⟩ := h
    obtain ⟨p, vs, e1, s1, a1⟩ := rtup rx
    obtain ⟨q, ws, e2, s2, a2⟩ := rtup ry
    refine .inr (.inr (.inl ⟨p, q, vs, ws, e1, e2, same_seqT k.same s1, same_seqT k.same s2, by rw [a1.length, a2.length]; exact hz, fun z => ?_, fun z z2 => ?_, fun z z2 p' hp => ?_⟩))
    · subst z
      cases a1
      exact fin.d k (Rp.tup s2 a2) h
    · subst z2
      cases a2
      exact fin.d k (Rp.tup s1 (by rw [List.append_nil]; exact a1)) h
    · exact fin.tup k hp (a1.append a2) h
  · obtain ⟨xs, ys, e1, e2, hz, h⟩ := h
    obtain ⟨p, vs, e3, s1, a1⟩ := rx.sql k.same e1
    obtain ⟨q, ws, e4, s2, a2⟩ := ry.sql k.same e2
    refine .inr (.inr (.inr ⟨p, q, vs, ws, e3, e4, s1, s2, by rw [a1.length, a2.length]; exact hz, fun p' hp => ?_⟩))
    exact fin.ol k hp (a1.append a2) h
end
end Z
namespace Z
open PySem L2
/-! ### an own new list is said for ever -/
section
variable {B : Bk} {G G1 H H1 : Hp} {F F1 : Addr → Prop} {τ : B.T}
theorem Fin.frz {p : Addr} {xs : List D} (f : Fin B G F H τ G1 F1 H1) (o : Own B.K H G1 F1 H1 p xs) : ∃ G2, Fin B G F H τ G2 F1 H1 ∧ Same G1 G2 ∧ Rp B.K G2 (.ref p) (.list xs) := by
  obtain ⟨⟨vs, e, a⟩, g, nf, n⟩ := o
  have sm : Same G1 (upd G1 p (.lst vs)) := fun b u z => by rw [upd_ne (ne_of_none z g)]; exact z
  refine ⟨upd G1 p (.lst vs), ⟨⟨f.s.g.trans sm, f.s.h, fun b u z => ?_, f.s.fn, f.s.ff, f.s.dom⟩, f.k.frz e g nf⟩, sm, Rp.lst (.inl (.inl upd_same)) (a.mono sm)⟩
  by_cases q : b = p
  · subst q; exact .inr (.inl n)
  · rw [upd_ne q] at z; exact f.s.gn b u z
end
/-! ### arguments -/
def SV.arg : SV → Option SV
  | .ol xs => some (.d (.list xs))
  | .no => none
  | .d x => some (.d x)
  | .vw xs => some (.vw xs)
  | .raw v => some (.raw v)
def SV.dat? : SV → Option D
  | .d x => some x
  | .ol xs => some (.list xs)
  | _ => none
theorem Res.arg {B : Bk} {G H G1 H1 : Hp} {F F1 : Addr → Prop} {τ : B.T} {v : V} (f : Fin B G F H τ G1 F1 H1) : ∀ {r a : SV}, Res B.K H G1 F1 H1 r v → r.arg = some a →
    ∃ G2, Fin B G F H τ G2 F1 H1 ∧ Same G1 G2 ∧ Res B.K H G2 F1 H1 a v
  | .d x, _, r, e => by cases e; exact ⟨_, f, Same.refl _, r⟩
  | .vw x, _, r, e => by cases e; exact ⟨_, f, Same.refl _, r⟩
  | .raw x, _, r, e => by cases e; exact ⟨_, f, Same.refl _, r⟩
  | .no, _, r, _ => r.elim
  | .ol xs, _, ⟨p, e1, o⟩, e => by
    cases e
    subst e1
    obtain ⟨G2, f2, sm, r⟩ := f.frz o
    exact ⟨G2, f2, sm, r⟩
theorem Res.dat {B : Bk} {G H G1 H1 : Hp} {F F1 : Addr → Prop} {τ : B.T} {v : V} (f : Fin B G F H τ G1 F1 H1) : ∀ {r : SV} {x : D}, Res B.K H G1 F1 H1 r v → r.dat? = some x →
    ∃ G2, Fin B G F H τ G2 F1 H1 ∧ Same G1 G2 ∧ Rp B.K G2 v x
  | .d x, _, r, e => by cases e; exact ⟨_, f, Same.refl _, r⟩
  | .vw x, _, r, e => by cases e
  | .raw x, _, r, e => by cases e
  | .no, _, r, _ => r.elim
  | .ol xs, _, ⟨p, e1, o⟩, e => by
    cases e
    subst e1
    exact f.frz o
theorem Res.same {K : PySem.W.Frag} {Ha G G' F H v} (sm : Same G G') (nf : ∀ p, ¬ F p → G p = none → H p ≠ none → Ha p = none → G' p = none) : ∀ {s : SV}, Res K Ha G F H s v → (∀ xs, s ≠ .ol xs) → Res K Ha G' F H s v
  | .no, h, _ => h.elim
  | .d _, r, _ => r.mono sm
  | .ol _, _, n => absurd rfl (n _)
  | .vw _, ⟨p, vs, e, e2, a, nf⟩, _ => ⟨p, vs, e, e2, a.mono sm, nf⟩
  | .raw _, h, _ => h
section
variable {X : Cx} {B : Bk} {e : Expr} {es : List Expr} {pos : Pos} {t : W B.T} {ta : WA B.T}
def dNil {T : Type} : WA T := fun _ τ Q => Q [] τ
def kCo2 {T : Type} (Q : List SV → T → Prop) (a : SV) (rs : List SV) (τ : T) : Prop := Q (a :: rs) τ
def kCoB {T : Type} (ta : WA T) (env : List SV) (Q : List SV → T → Prop) (τ : T) : Option SV → Prop
  | some a => ta env τ (kCo2 Q a)
  | none => False
def kCo {T : Type} (ta : WA T) (env : List SV) (Q : List SV → T → Prop) (r : SV) (τ : T) : Prop := kCoB ta env Q τ r.arg
def dCons {T : Type} (t : W T) (ta : WA T) : WA T := fun env τ Q => t env τ (kCo ta env Q)
theorem kCo_of {T : Type} {ta : WA T} {env : List SV} {Q : List SV → T → Prop} {r : SV} {τ : T} (h : kCo ta env Q r τ) : ∃ a, r.arg = some a ∧ ta env τ (kCo2 Q a) := by
  unfold kCo at h
  cases e : r.arg with
  | none => rw [e] at h; exact False.elim h
  | some a => rw [e] at h; exact ⟨a, rfl, h⟩
theorem da_nil : PA X [] (liftA B dNil) := pa_imp pa_nil fun σ H Q z9 => ex53 z9 fun G F env τ Qd s t k => k [] τ G F H [] s.refl .nil t
theorem da_cons (he : PE X e (lift B t)) (hr : PA X es (liftA B ta)) (hs : starEach (e :: es) X.env = (false, eval e X.env) :: starEach es X.env := by rfl) : PA X (e :: es) (liftA B (dCons t ta)) :=
  pa_imp (pa_cons he hr hs) fun σ H Q z9 => ex53 z9 fun G F env τ Qd s t k => ⟨G, F, env, τ, _, s, t, fun r τ1 G1 F1 H1 v f1 r1 q0 => by
    obtain ⟨a, e, q⟩ := kCo_of q0
    obtain ⟨G2, f2, sm, r2⟩ := r1.arg f1 e
    exact ⟨G2, F1, env, τ1, _, s.fin f2, q, fun rs τ2 G3 F3 H3 vs f3 r3 q3 => k (a :: rs) τ2 G3 F3 H3 (v :: vs) (f2.trans f3) (.cons (r2.step f3.s) (r3.back (dead f2.s.dom))) q3⟩⟩
def allD : List SV → Option (List D)
  | [] => some []
  | .d x :: r => (allD r).map (x :: ·)
  | _ :: _ => none
theorem ResAll.allD {K : PySem.W.Frag} {Ha G F H} : ∀ {rs : List SV} {vs : List V} {xs : List D}, ResAll K Ha G F H rs vs → Z.allD rs = some xs → RpAll K G vs xs
  | _, _, _, .nil, e => by cases e; exact .nil
  | .d x :: r, _, _, .cons h t, e => by
    cases q : Z.allD r with
    | none => rw [Z.allD, q] at e; cases e
    | some ys => rw [Z.allD, q] at e; cases e; exact .cons h (t.allD q)
  | .no :: r, _, _, .cons h t, e => by cases e
  | .ol _ :: r, _, _, .cons h t, e => by cases e
  | .vw _ :: r, _, _, .cons h t, e => by cases e
  | .raw _ :: r, _, _, .cons h t, e => by cases e
def kTupB {T : Type} (Q : SV → T → Prop) (τ : T) : Option (List D) → Prop
  | some xs => xs.length ≤ sizeLine ∧ Q (.d (.tuple xs)) τ
  | none => False
def kTup {T : Type} (Q : SV → T → Prop) (rs : List SV) (τ : T) : Prop := kTupB Q τ (allD rs)
def dTup {T : Type} (ta : WA T) : W T := fun env τ Q => ta env τ (kTup Q)
def kLstB {T : Type} (Q : SV → T → Prop) (τ : T) : Option (List D) → Prop
  | some xs => xs.length ≤ sizeLine ∧ Q (.ol xs) τ
  | none => False
def kLst {T : Type} (Q : SV → T → Prop) (rs : List SV) (τ : T) : Prop := kLstB Q τ (allD rs)
def dLst {T : Type} (ta : WA T) : W T := fun env τ Q => ta env τ (kLst Q)
theorem kTup_of {T : Type} {Q : SV → T → Prop} {rs : List SV} {τ : T} (h : kTup Q rs τ) : ∃ xs, allD rs = some xs ∧ xs.length ≤ sizeLine ∧ Q (.d (.tuple xs)) τ := by
  unfold kTup at h
  cases e : allD rs with
  | none => rw [e] at h; exact False.elim h
  | some xs => rw [e] at h; exact ⟨xs, rfl, h⟩
theorem kLst_of {T : Type} {Q : SV → T → Prop} {rs : List SV} {τ : T} (h : kLst Q rs τ) : ∃ xs, allD rs = some xs ∧ xs.length ≤ sizeLine ∧ Q (.ol xs) τ := by
  unfold kLst at h
  cases e : allD rs with
  | none => rw [e] at h; exact False.elim h
  | some xs => rw [e] at h; exact ⟨xs, rfl, h⟩
theorem FinT.trans {G G1 H H1 : Hp} {F F1 : Addr → Prop} {τ1 : B.T} {Qv : SV → B.T → Prop} {Q : VK} (k : ∀ r τ' G' F' H' v, Fin B G F H τ' G' F' H' → Res B.K H G' F' H' r v → Qv r τ' → Q v H') (f : Fin B G F H τ1 G1 F1 H1) :
    FinT B G1 F1 H1 τ1 (fun r => Qv r τ1) Q := fun z G' F' H' v f' r q => k z τ1 G' F' H' v (f.trans f') (r.back (dead f.s.dom)) q
theorem de_tup {x1} (h : PA X es (liftA B ta)) : PE X (.Tuple es x1 pos) (lift B (dTup ta)) :=
  pe_imp (pe_tup h) fun σ H Q z9 => ex53 z9 fun G F env τ Qd s t k => ⟨G, F, env, τ, _, s, t, fun rs τ1 G1 F1 H1 vs f1 r1 q0 => by
    obtain ⟨xs, e, z, q⟩ := kTup_of q0
    have a := r1.allD e
    exact ⟨by rw [a.length]; exact z, fun p hp => (FinT.trans k f1).tup f1.k hp a q⟩⟩
theorem de_lst (h : PA X es (liftA B ta)) : PE X (.List es pos) (lift B (dLst ta)) :=
  pe_imp (pe_lst h) fun σ H Q z9 => ex53 z9 fun G F env τ Qd s t k => ⟨G, F, env, τ, _, s, t, fun rs τ1 G1 F1 H1 vs f1 r1 q0 => by
    obtain ⟨xs, e, z, q⟩ := kLst_of q0
    have a := r1.allD e
    exact ⟨by rw [a.length]; exact z, fun p hp => (FinT.trans k f1).ol f1.k hp a q⟩⟩
end
/-! ### calls of built-ins, by values -/
def CallD (B : Bk) (r : List V → Hp → VK → Prop) (g : List SV → (SV → Prop) → Prop) : Prop :=
  ∀ (rs : List SV) (vs : List V) (Ha G : Hp) (F : Addr → Prop) (H : Hp) (τ : B.T) (Qv : SV → Prop) (Q : VK), Ok B.S B.K τ G F H → ResAll B.K Ha G F H rs vs → g rs Qv → FinT B G F H τ Qv Q → r vs H Q
def dCB {T : Type} (g : List SV → (SV → Prop) → Prop) (ta : WA T) : W T := fun env τ Q => ta env τ fun rs τ1 => g rs fun z => Q z τ1
section
variable {X : Cx} {B : Bk} {e : Expr} {es : List Expr} {pos p : Pos} {t : W B.T} {ta : WA B.T} {r : List V → Hp → VK → Prop} {g : List SV → (SV → Prop) → Prop} {x : Str} {id T : String}
theorem lift_cb (hd : CallD B r g) : ∀ σ H Q, lift B (dCB g ta) σ H Q → tCB r (liftA B ta) σ H Q := fun σ H Q z9 => ex53 z9 fun G F env τ Qd s t k =>
  ⟨G, F, env, τ, _, s, t, fun rs τ1 G1 F1 H1 vs f1 r1 q1 => hd rs vs _ G1 F1 H1 τ1 _ _ f1.k r1 q1 (FinT.trans k f1)⟩
theorem de_callB (hc : CallR X (.builtin id) r) (hd : CallD B r g) (hg : Gl X x) (hm : X.mg x = none) (hv : bootBuiltins x = some (.builtin id)) (ha : PA X (e :: es) (liftA B ta)) (hn : x ≠ "__name__" := by decide) (hdb : (x == ("__debug__" : Str)) = false := by decide)
    (he : starEach (e :: es) X.env = (false, eval e X.env) :: starEach es X.env := by rfl) (hpl : (backTo pos (starEach es X.env)).any (·.1) = false := by rfl) : PE X (.Call (.Name x p) (e :: es) [] pos) (lift B (dCB g ta)) :=
  pe_imp (pe_callB hc hg hm hv ha hn hdb he hpl) (lift_cb hd)
theorem de_callTy (hc : CallR X (.type T) r) (hd : CallD B r g) (hg : Gl X x) (hm : X.mg x = none) (hv : bootBuiltins x = some (.type T)) (ha : PA X (e :: es) (liftA B ta)) (hn : x ≠ "__name__" := by decide) (hdb : (x == ("__debug__" : Str)) = false := by decide)
    (he : starEach (e :: es) X.env = (false, eval e X.env) :: starEach es X.env := by rfl) (hpl : (backTo pos (starEach es X.env)).any (·.1) = false := by rfl) : PE X (.Call (.Name x p) (e :: es) [] pos) (lift B (dCB g ta)) :=
  pe_imp (pe_callTy hc hg hm hv ha hn hdb he hpl) (lift_cb hd)
end
/-! ### statements -/
structure DEnds (T : Type) where
  nx : List SV → T → Prop
  rt : SV → T → Prop
  bk : List SV → T → Prop := fun _ _ => False
  ct : List SV → T → Prop := fun _ _ => False
abbrev WS (T : Type) := DEnds T → List SV → T → Prop
structure EndR (B : Bk) (G : Hp) (Dd : DEnds B.T) (D : Ends) : Prop where
  nx : ∀ G' F' σ' H' env' τ', Same G G' → StR B G' F' σ' H' env' τ' → Dd.nx env' τ' → D.nx σ' H'
  rt : ∀ r τ' G' F' H' v, Fin B B.G B.F B.H τ' G' F' H' → Res B.K B.H G' F' H' r v → Dd.rt r τ' → D.rt v H'
  bk : ∀ G' F' σ' H' env' τ', Same G G' → StR B G' F' σ' H' env' τ' → Dd.bk env' τ' → D.bk σ' H'
  ct : ∀ G' F' σ' H' env' τ', Same G G' → StR B G' F' σ' H' env' τ' → Dd.ct env' τ' → D.ct σ' H'
theorem EndR.mono {B : Bk} {G G1 : Hp} {Dd : DEnds B.T} {D : Ends} (E : EndR B G Dd D) (sm : Same G G1) : EndR B G1 Dd D :=
  ⟨fun G' F' σ' H' env' τ' s => E.nx G' F' σ' H' env' τ' (sm.trans s), E.rt, fun G' F' σ' H' env' τ' s => E.bk G' F' σ' H' env' τ' (sm.trans s), fun G' F' σ' H' env' τ' s => E.ct G' F' σ' H' env' τ' (sm.trans s)⟩
def liftS (B : Bk) (t : WS B.T) : TS := fun D σ H => ∃ G F env τ Dd, StR B G F σ H env τ ∧ t Dd env τ ∧ EndR B G Dd D
section
variable {X : Cx} {B : Bk} {st : Stmt} {rest : List Stmt} {e : Expr} {pos : Pos} {t u : WS B.T} {te : W B.T} {tc : WT B.T}
def dNext {T : Type} : WS T := fun D env τ => D.nx env τ
def dSeq {T : Type} (t u : WS T) : WS T := fun D env τ => t { D with nx := u D } env τ
theorem dss_nil : PSs X [] (liftS B dNext) := pss_imp pss_nil fun D σ H z9 => ex53 z9 fun G F env τ Dd s h E => E.nx G F σ H env τ (Same.refl G) s h
theorem dss_cons (h1 : PS X st (liftS B t)) (h2 : PSs X rest (liftS B u)) : PSs X (st :: rest) (liftS B (dSeq t u)) :=
  pss_imp (pss_cons h1 h2) fun D σ H z9 => ex53 z9 fun G F env τ Dd s h E => ⟨G, F, env, τ, { Dd with nx := u Dd }, s, h, ⟨fun G' F' σ' H' env' τ' sm s' h' => ⟨G', F', env', τ', Dd, s', h', E.mono sm⟩, E.rt, E.bk, E.ct⟩⟩
theorem dss_one (h1 : PS X st (liftS B t)) : PSs X [st] (liftS B t) := pss_one h1
def dBreak {T : Type} : WS T := fun D env τ => D.bk env τ
def dCont {T : Type} : WS T := fun D env τ => D.ct env τ
def dNever {T : Type} : WS T := fun _ _ _ => False
def dDrop {T : Type} (te : W T) : WS T := fun D env τ => te env τ fun _ τ1 => D.nx env τ1
def SV.out : SV → Bool
  | .vw _ => false
  | .no => false
  | _ => true
def dRet {T : Type} (te : W T) : WS T := fun D env τ => te env τ fun r τ1 => r.out = true ∧ D.rt r τ1
theorem StR.out {B : Bk} {G F σ H env τ} (s : StR B G F σ H env τ) : Fin B B.G B.F B.H τ G F H := ⟨s.s, s.k⟩
theorem ds_ret (he : PE X e (lift B te)) : PS X (.Return (some e) pos) (liftS B (dRet te)) :=
  ps_imp (ps_ret he) fun D σ H z9 => ex53 z9 fun G F env τ Dd s h E => ⟨G, F, env, τ, _, s, h, fun r τ1 G1 F1 H1 v f1 r1 ⟨_, q⟩ => E.rt r τ1 G1 F1 H1 v (s.out.trans f1) (r1.back (dead s.s.dom)) q⟩
def dRetN {T : Type} : WS T := fun D _ τ => D.rt (.d .none) τ
def dIfS {T : Type} (c : WT T) (t u : WS T) : WS T := fun D env τ => c env τ fun b τ1 => if b = true then t D env τ1 else u D env τ1
theorem ds_if {c : Expr} {a b : List Stmt} (hc : PT X c (liftT B tc)) (ha : PSs X a (liftS B t)) (hb : PSs X b (liftS B u)) : PS X (.If c a b pos) (liftS B (dIfS tc t u)) :=
  ps_imp (ps_if hc ha hb) fun D σ H z9 => ex53 z9 fun G F env τ Dd s h E => ⟨G, F, env, τ, _, s, h, fun b τ1 G1 F1 H1 f1 q => by
    cases b with
    | true => exact iteT ⟨G1, F1, env, τ1, Dd, s.fin f1, q, E.mono f1.s.g⟩
    | false => exact iteF ⟨G1, F1, env, τ1, Dd, s.fin f1, q, E.mono f1.s.g⟩⟩
end
end Z
namespace Z
open PySem L2
/-! ### a slot gets a value -/
section
variable {K : PySem.W.Frag} {H0 G H : Hp} {F : Addr → Prop} {σ : L2.St} {env : List SV}
theorem EnvR.set {i : Nat} {s : SV} {v : V} (E : EnvR K H0 G F H σ env) (hs : SvR K H0 G F H s (some v)) (hne : ∀ xs, s = .ol xs → ∀ (j : Nat) ys, env[j]? = some (.ol ys) → σ[j]?.join ≠ some v) :
    EnvR K H0 G F H (σ.set i (some v)) (env.set i s) := by
  refine ⟨by rw [List.length_set, List.length_set]; exact E.len, fun j s' e => ?_, fun j k xs ys hjk ej ek => ?_⟩
  · by_cases q : i = j
    · subst q
      by_cases hl : i < env.length
      · rw [List.getElem?_set_self hl] at e
        cases e
        rw [List.getElem?_set_self (by rw [E.len]; exact hl)]
        exact hs
      · rw [List.getElem?_eq_none (by rw [List.length_set]; omega)] at e
        cases e
    · rw [List.getElem?_set_ne q] at e ⊢
      exact E.at' j s' e
  · have get : ∀ (m : Nat) zs, (env.set i s)[m]? = some (.ol zs) → (m = i ∧ s = .ol zs ∧ (σ.set i (some v))[m]? = some (some v)) ∨ (m ≠ i ∧ env[m]? = some (.ol zs) ∧ (σ.set i (some v))[m]? = σ[m]?) := fun m zs em => by
      by_cases q : m = i
      · subst q
        by_cases hl : m < env.length
        · rw [List.getElem?_set_self hl] at em
          exact .inl ⟨rfl, Option.some.inj em, List.getElem?_set_self (by rw [E.len]; exact hl)⟩
        · rw [List.getElem?_eq_none (by rw [List.length_set]; omega)] at em
          cases em
      · rw [List.getElem?_set_ne (Ne.symm q)] at em ⊢
        exact .inr ⟨q, em, rfl⟩
    rcases get j xs ej with ⟨hj, hs1, hv1⟩ | ⟨hj, he1, hv1⟩
    · rcases get k ys ek with ⟨hk, _, _⟩ | ⟨hk, he2, hv2⟩
      · exact absurd (hj.trans hk.symm) hjk
      · rw [hv1, hv2]
        exact fun z => hne xs hs1 k ys he2 z.symm
    · rcases get k ys ek with ⟨hk, hs2, hv2⟩ | ⟨hk, he2, hv2⟩
      · rw [hv1, hv2]
        exact hne ys hs2 j xs he1
      · rw [hv1, hv2]
        exact E.sep j k xs ys hjk he1 he2
theorem EnvR.setD {i : Nat} {x : D} {v : V} (E : EnvR K H0 G F H σ env) (hs : Rp K G v x) : EnvR K H0 G F H (σ.set i (some v)) (env.set i (.d x)) := E.set ⟨v, rfl, hs⟩ fun _ z => by cases z
/-- what is known of a slot is forgotten -/
theorem EnvR.drop {i : Nat} (E : EnvR K H0 G F H σ env) : EnvR K H0 G F H σ (env.set i .no) := by
  have get : ∀ (m : Nat) s, (env.set i .no)[m]? = some s → s = .no ∨ env[m]? = some s := fun m s em => by
    by_cases q : m = i
    · subst q
      by_cases hl : m < env.length
      · rw [List.getElem?_set_self hl] at em
        exact .inl (Option.some.inj em).symm
      · rw [List.getElem?_eq_none (by rw [List.length_set]; omega)] at em
        cases em
    · rw [List.getElem?_set_ne (Ne.symm q)] at em
      exact .inr em
  refine ⟨by rw [List.length_set]; exact E.len, fun j s e => ?_, fun j k xs ys hjk ej ek => ?_⟩
  · rcases get j s e with z | z
    · subst z; trivial
    · exact E.at' j s z
  · rcases get j _ ej with z | z
    · cases z
    · rcases get k _ ek with z2 | z2
      · cases z2
      · exact E.sep j k xs ys hjk z z2
end
def SV.sto : SV → Option SV
  | .d x => some (.d x)
  | .ol xs => some (.ol xs)
  | .raw v => some (.raw v)
  | _ => none
section
variable {B : Bk} {G G1 H H1 : Hp} {F F1 : Addr → Prop} {σ : L2.St} {env : List SV} {τ τ1 : B.T}
theorem StR.sto {i : Nat} {v : V} (s : StR B G F σ H env τ) (f : Fin B G F H τ1 G1 F1 H1) : ∀ {r a : SV}, Res B.K H G1 F1 H1 r v → r.sto = some a → StR B G1 F1 (σ.set i (some v)) H1 (env.set i a) τ1
  | .d x, _, r, e => by
    cases e
    have s1 := s.fin f
    exact ⟨s1.s, s1.k, s1.e.setD r⟩
  | .raw x, _, r, e => by
    cases e
    have s1 := s.fin f
    have r : v = x := r
    subst r
    exact ⟨s1.s, s1.k, s1.e.set (s := .raw v) rfl fun _ z => by cases z⟩
  | .no, _, r, _ => r.elim
  | .vw _, _, _, e => by cases e
  | .ol xs, _, ⟨p, e1, o⟩, e => by
    cases e
    subst e1
    have s1 := s.fin f
    refine ⟨s1.s, s1.k, s1.e.set (s := .ol xs) ⟨p, rfl, ⟨o.at', o.g, o.f, dead s.s.dom p o.new⟩⟩ fun _ _ j ys ej z => ?_⟩
    obtain ⟨q, e2, w⟩ := s.e.at' j _ ej
    rw [e2] at z
    cases z
    obtain ⟨vs, e3, _⟩ := w.at'
    rw [o.new] at e3
    cases e3
end
/-! ### targets -/
inductive Tg where
  | nm (i : Nat)
  | tp (ts : List Tg)
mutual
def tgH (K : PySem.W.Frag) : Tg → TG
  | .nm i => gName i
  | .tp ts => gTup K ts.length (tgHs K ts)
def tgHs (K : PySem.W.Frag) : List Tg → TGs
  | [] => gNil
  | t :: ts => gCons (tgH K t) (tgHs K ts)
end
mutual
def tgE : Tg → D → List SV → Option (List SV)
  | .nm i, x, env => some (env.set i (.d x))
  | .tp ts, .tuple xs, env => tgEs ts xs env
  | .tp _, _, _ => none
def tgEs : List Tg → List D → List SV → Option (List SV)
  | [], [], env => some env
  | t :: ts, y :: ys, env => (tgE t y env).bind (tgEs ts ys)
  | _, _, _ => none
end
/-- what follows a target's store -/
def opt {α : Type} (o : Option α) (Q : α → Prop) : Prop := match o with
  | some a => Q a
  | none => False
theorem opt_some {α : Type} {a : α} {Q : α → Prop} : opt (some a) Q = Q a := rfl
theorem opt_of {α : Type} {o : Option α} {Q : α → Prop} (h : opt o Q) : ∃ a, o = some a ∧ Q a := by
  cases o with
  | none => exact h.elim
  | some a => exact ⟨a, rfl, h⟩
mutual
def Tg.all (p : Nat → Bool) : Tg → Bool
  | .nm i => p i
  | .tp ts => Tg.alls p ts
def Tg.alls (p : Nat → Bool) : List Tg → Bool
  | [] => true
  | t :: ts => t.all p && Tg.alls p ts
end
theorem tgEs_len : ∀ (ts : List Tg) (xs : List D) (env env' : List SV), tgEs ts xs env = some env' → xs.length = ts.length
  | [], [], _, _, _ => rfl
  | [], _ :: _, _, _, h => by simp [tgEs] at h
  | _ :: _, [], _, _, h => by simp [tgEs] at h
  | t :: ts, y :: ys, env, env', h => by
    rw [tgEs] at h
    cases e : tgE t y env with
    | none => rw [e] at h; cases h
    | some e1 =>
      rw [e] at h
      exact congrArg Nat.succ (tgEs_len ts ys e1 env' h)
theorem wipe_get (σ : L2.St) (k : Nat) : ∀ vs : List Nat, (wipe σ vs)[k]? = if k ∈ vs then (if k < σ.length then some none else none) else σ[k]?
  | [] => by simp [wipe]
  | v :: vs => by
    have ih := wipe_get σ k vs
    rw [wipe]
    by_cases q : v = k
    · subst q
      rw [if_pos (by simp)]
      by_cases hl : v < σ.length
      · rw [List.getElem?_set_self (by rw [wipe_length]; exact hl), if_pos hl]
      · rw [List.getElem?_eq_none (by rw [List.length_set, wipe_length]; omega), if_neg hl]
    · rw [List.getElem?_set_ne q, ih]
      have : (k ∈ v :: vs) ↔ k ∈ vs := by
        rw [List.mem_cons]
        exact ⟨fun h => h.resolve_left fun z => q z.symm, .inr⟩
      by_cases h : k ∈ vs
      · rw [if_pos h, if_pos (this.mpr h)]
      · rw [if_neg h, if_neg fun z => h (this.mp z)]
theorem wipe_set_in {v : V} {vs : List Nat} {σ : L2.St} {i : Nat} (h : i ∈ vs) : wipe (σ.set i (some v)) vs = wipe σ vs := by
  apply List.ext_getElem?
  intro k
  rw [wipe_get, wipe_get, List.length_set]
  by_cases q : k ∈ vs
  · rw [if_pos q, if_pos q]
  · rw [if_neg q, if_neg q, List.getElem?_set_ne]
    intro z
    subst z
    exact q h
section
variable {B : Bk} {G H : Hp} {F : Addr → Prop} {τ : B.T}
mutual
theorem tg_ok (vs : List Nat) : ∀ (t : Tg) {x : D} {v : V} {σ : L2.St} {env env' : List SV} {Q : L2.St → Hp → Prop}, StR B G F σ H env τ → Rp B.K G v x → tgE t x env = some env' →
    (∀ σ', StR B G F σ' H env' τ → (t.all (· ∈ vs) = true → wipe σ' vs = wipe σ vs) → Q σ' H) → tgH B.K t v σ H Q
  | .nm i, x, v, σ, env, env', Q, s, r, e, k => by
    rw [tgE] at e
    cases e
    rw [tgH]
    exact k _ ⟨s.s, s.k, s.e.setD r⟩ fun h => wipe_set_in (by simpa [Tg.all] using h)
  | .tp ts, .tuple xs, v, σ, env, env', Q, s, r, e, k => by
    rw [tgE] at e
    have hl := tgEs_len ts xs env env' e
    rw [tgH]
    cases r with
    | tup h a => exact ⟨_, _, rfl, same_seqT s.k.same h, by rw [a.length]; exact hl, tgs_ok vs ts s a e fun σ' s' w => k σ' s' fun h => w (by simpa [Tg.all] using h)⟩
  | .tp _, .none, _, _, _, _, _, _, _, e, _ => by rw [tgE] at e; cases e; all_goals (intro _ z; cases z)
  | .tp _, .bool _, _, _, _, _, _, _, _, e, _ => by rw [tgE] at e; cases e; all_goals (intro _ z; cases z)
  | .tp _, .int _, _, _, _, _, _, _, _, e, _ => by rw [tgE] at e; cases e; all_goals (intro _ z; cases z)
  | .tp _, .str _, _, _, _, _, _, _, _, e, _ => by rw [tgE] at e; cases e; all_goals (intro _ z; cases z)
  | .tp _, .list _, _, _, _, _, _, _, _, e, _ => by rw [tgE] at e; cases e; all_goals (intro _ z; cases z)
  | .tp _, .dict _, _, _, _, _, _, _, _, e, _ => by rw [tgE] at e; cases e; all_goals (intro _ z; cases z)
theorem tgs_ok (vs : List Nat) : ∀ (ts : List Tg) {xs : List D} {ws : List V} {σ : L2.St} {env env' : List SV} {Q : L2.St → Hp → Prop}, StR B G F σ H env τ → RpAll B.K G ws xs → tgEs ts xs env = some env' →
    (∀ σ', StR B G F σ' H env' τ → (Tg.alls (· ∈ vs) ts = true → wipe σ' vs = wipe σ vs) → Q σ' H) → tgHs B.K ts ws σ H Q
  | [], [], _, σ, env, env', Q, s, .nil, e, k => by
    rw [tgEs] at e
    cases e
    rw [tgHs]
    exact ⟨rfl, k σ s fun _ => rfl⟩
  | t :: ts, y :: ys, _, σ, env, env', Q, s, .cons r a, e, k => by
    rw [tgEs] at e
    cases e1 : tgE t y env with
    | none => rw [e1] at e; cases e
    | some env1 =>
      rw [e1] at e
      rw [tgHs]
      refine ⟨_, _, rfl, tg_ok vs t s r e1 fun σ1 s1 w1 => tgs_ok vs ts s1 a e fun σ2 s2 w2 => k σ2 s2 fun h => ?_⟩
      rw [Tg.alls, Bool.and_eq_true] at h
      exact (w2 h.2).trans (w1 h.1)
  | [], _ :: _, _, _, _, _, _, _, _, e, _ => by simp [tgEs] at e
  | _ :: _, [], _, _, _, _, _, _, _, e, _ => by simp [tgEs] at e
end
end
end Z
namespace Z
open PySem L2
section
variable {X : Cx} {B : Bk} {e tg : Expr} {pos : Pos} {te : W B.T} {t : Tg} {i : Nat} {x : Str}
/-! ### assignments -/
def kStB {T : Type} (i : Nat) (D : DEnds T) (env : List SV) (τ : T) : Option SV → Prop
  | some a => D.nx (env.set i a) τ
  | none => False
def kSet {T : Type} (i : Nat) (D : DEnds T) (env : List SV) (r : SV) (τ : T) : Prop := kStB i D env τ r.sto
theorem kSet_of {T : Type} {i : Nat} {D : DEnds T} {env : List SV} {r : SV} {τ : T} (h : kSet i D env r τ) : ∃ a, r.sto = some a ∧ D.nx (env.set i a) τ := by
  unfold kSet at h
  cases e : r.sto with
  | none => rw [e] at h; exact False.elim h
  | some a => rw [e] at h; exact ⟨a, rfl, h⟩
def dSet {T : Type} (i : Nat) (te : W T) : WS T := fun D env τ => te env τ (kSet i D env)
theorem lift_set {te' : TE} (h : ∀ σ H Q, lift B te σ H Q → te' σ H Q) : ∀ D σ H, liftS B (dSet i te) D σ H → tAsg te' (gName i) D σ H := fun D σ H z9 => ex53 z9 fun G F env τ Dd s z E =>
  h _ _ _ ⟨G, F, env, τ, _, s, z, fun r τ1 G1 F1 H1 v f1 r1 q => by
    obtain ⟨a, e, q⟩ := kSet_of q
    exact E.nx G1 F1 _ H1 _ τ1 f1.s.g (s.sto f1 r1 e) q⟩
theorem ds_set {pos' : Pos} (hN : X.N.Nodup) (hi : X.N[i]? = some x) (hx : Loc X.env.scope x) (he : PE X e (lift B te)) (hs : swapsWith e (some (.Name x pos')) pos.line X.env = pure false := by rfl)
    (hf : X.fn x = true ∨ X.env.scope.names.lookup x = some .local := by first | exact .inl rfl | exact .inr rfl | assumption) : PS X (.Assign [.Name x pos'] e pos) (liftS B (dSet i te)) :=
  ps_imp (ps_set hN hi hx he hs hf) (lift_set fun _ _ _ h => h)
/-- target = e -/
def kEnv {T : Type} (D : DEnds T) (τ : T) : Option (List SV) → Prop
  | some env => D.nx env τ
  | none => False
def kAsB {T : Type} (t : Tg) (D : DEnds T) (env : List SV) (τ : T) : Option Z.D → Prop
  | some x => kEnv D τ (tgE t x env)
  | none => False
def kAsg {T : Type} (t : Tg) (D : DEnds T) (env : List SV) (r : SV) (τ : T) : Prop := kAsB t D env τ r.dat?
theorem kAsg_of {T : Type} {t : Tg} {D : DEnds T} {env : List SV} {r : SV} {τ : T} (h : kAsg t D env r τ) : ∃ y, r.dat? = some y ∧ ∃ env', tgE t y env = some env' ∧ D.nx env' τ := by
  unfold kAsg at h
  cases e : r.dat? with
  | none => rw [e] at h; exact False.elim h
  | some y =>
    rw [e] at h
    have h : kEnv D τ (tgE t y env) := h
    cases e2 : tgE t y env with
    | none => rw [e2] at h; exact False.elim h
    | some env' => rw [e2] at h; exact ⟨y, rfl, env', e2, h⟩
def dAsg {T : Type} (t : Tg) (te : W T) : WS T := fun D env τ => te env τ (kAsg t D env)
theorem dg_nm {pos' : Pos} (hN : X.N.Nodup) (hi : X.N[i]? = some x) (hx : Loc X.env.scope x) (hf : X.fn x = true ∨ X.env.scope.names.lookup x = some .local := by first | exact .inl rfl | exact .inr rfl | assumption) : PG X (.Name x pos') (tgH B.K (.nm i)) := by
  rw [tgH]
  exact pg_name hN hi hx hf
theorem dg_nil : PGs X [] (tgHs B.K []) := by
  rw [tgHs]
  exact pgs_nil
theorem dg_cons {es : List Expr} {t : Tg} {ts : List Tg} (h1 : PG X e (tgH B.K t)) (h2 : PGs X es (tgHs B.K ts)) (hs : (assignEach (e :: es) X.env).map (·.2) = assign e X.env :: (assignEach es X.env).map (·.2) := by rfl) : PGs X (e :: es) (tgHs B.K (t :: ts)) := by
  rw [tgHs]
  exact pgs_cons h1 h2 hs
theorem dg_tp (hK : X.K = B.K) {es : List Expr} {k : Nat} {ts : List Tg} (hc : X.calm = true) (h : PGs X es (tgHs B.K ts)) (hn : (assignEach es X.env).length = ts.length := by rfl) (hst : (assignEach es X.env).findIdx? (·.1) = none := by rfl) :
    PG X (.Tuple es k pos) (tgH B.K (.tp ts)) := by
  rw [tgH, ← hK]
  rw [← hK] at h
  exact pg_tup hc h hn hst
theorem ds_asg (he : PE X e (lift B te)) (hg : PG X tg (tgH B.K t)) (hs : swapsWithSole [tg] e pos.line X.env = pure false := by rfl) (hw : swappedStores [tg] e X.env = pure none := by rfl)
    (h1 : (assignEach [tg] X.env).map (·.2) = [assign tg X.env] := by rfl) : PS X (.Assign [tg] e pos) (liftS B (dAsg t te)) :=
  ps_imp (ps_asg he hg hs hw h1) fun D σ H z9 => ex53 z9 fun G F env τ Dd s z E => ⟨G, F, env, τ, _, s, z, fun r τ1 G1 F1 H1 v f1 r1 q => by
    obtain ⟨y, e, env', e2, q⟩ := kAsg_of q
    obtain ⟨G2, f2, sm, r2⟩ := r1.dat f1 e
    exact tg_ok [] t (s.fin f2) r2 e2 fun σ' s' _ => E.nx G2 F1 σ' H1 env' τ1 f2.s.g s' q⟩
/-- a, b = x, y -/
def dPar {T : Type} (i j : Nat) (ta : WA T) : WS T := fun D env τ => ta env τ fun rs τ1 => match rs with
  | [.d x, .d y] => D.nx ((env.set i (.d x)).set j (.d y)) τ1
  | _ => False
theorem kPr2 {Q : D → D → Prop} {rs : List SV} (h : match rs with
  | [.d x, .d y] => Q x y
  | _ => False) : ∃ x y, rs = [.d x, .d y] ∧ Q x y := by
  cases rs with
  | nil => exact h.elim
  | cons a r =>
    cases r with
    | nil => cases a <;> exact h.elim
    | cons b r =>
      cases r with
      | nil => cases a with
        | d x => cases b with
          | d y => exact ⟨x, y, rfl, h⟩
          | _ => exact h.elim
        | _ => exact h.elim
      | cons _ _ => cases a with
        | d x => cases b <;> exact h.elim
        | _ => exact h.elim
theorem ds_par {j : Nat} {y : Str} {a b : Expr} {ta : WA B.T} {px py pt : Pos} {kt k2 pt2} (hc : X.calm = true) (hN : X.N.Nodup) (hi : X.N[i]? = some x) (hj : X.N[j]? = some y) (hij : i ≠ j)
    (hx : X.env.scope.names.lookup x = some .local) (hy : X.env.scope.names.lookup y = some .local) (ha : PA X [a, b] (liftA B ta))
    (hw : swappedStores [.Tuple [.Name x px, .Name y py] kt pt] (.Tuple [a, b] k2 pt2) X.env = pure (some [x, y]))
    (hs : swapsWithSole [.Tuple [.Name x px, .Name y py] kt pt] (.Tuple [a, b] k2 pt2) pos.line X.env = pure false := by rfl) :
    PS X (.Assign [.Tuple [.Name x px, .Name y py] kt pt] (.Tuple [a, b] k2 pt2) pos) (liftS B (dPar i j ta)) :=
  ps_imp (ps_par hc hN hi hj hij hx hy ha hw hs) fun D σ H z9 => ex53 z9 fun G F env τ Dd s z E => ⟨G, F, env, τ, _, s, z, fun rs τ1 G1 F1 H1 vs f1 r1 q => by
    obtain ⟨x, y, rfl, q⟩ := kPr2 q
    have s1 := s.fin f1
    cases r1 with
    | cons r2 r1 =>
      cases r1 with
      | cons r3 r1 =>
        cases r1
        exact ⟨_, _, rfl, E.nx G1 F1 _ H1 _ τ1 f1.s.g ⟨s1.s, s1.k, (s1.e.setD r2).setD r3⟩ q⟩⟩
/-! ### what is walked -/
/-- J walks xs from a state whose lasting part holds G on -/
structure ItR (B : Bk) (J : It) (G : Hp) (xs : List D) : Prop where
  go : ∀ (G1 H1 : Hp) (F1 : Addr → Prop) (τ1 : B.T), Same G G1 → Ok B.S B.K τ1 G1 F1 H1 → ∀ (i : Nat) (x : D), xs[i]? = some x → J.go i H1 ∧ ∀ v H2, J.yld i H1 v H2 → ∃ G2, Fin B G1 F1 H1 τ1 G2 F1 H2 ∧ Rp B.K G2 v x
  stop : ∀ (G1 H1 : Hp) (F1 : Addr → Prop) (τ1 : B.T), Same G G1 → Ok B.S B.K τ1 G1 F1 H1 → ∀ (i : Nat), xs.length ≤ i → J.stop i H1
abbrev WI (T : Type) := List SV → T → (List D → T → Prop) → Prop
def liftI (B : Bk) (ti : WI B.T) : TI := fun σ H R => ∃ G F env τ Qd, StR B G F σ H env τ ∧ ti env τ Qd ∧
  ∀ xs τ' G' F' H' J, Fin B G F H τ' G' F' H' → ItR B J G' xs → Qd xs τ' → R J H'
theorem pi_imp {iter : Expr} {w w' : TI} (h : PI X tg iter w) (i : ∀ σ H R, w' σ H R → w σ H R) : PI X tg iter w' := ⟨fun pins s σ H R I z => h.run pins s σ H R I (i σ H R z)⟩
/-- a list, a tuple or a text -/
def iSeq (K : PySem.W.Frag) (tl : TE) : TI := fun σ H R => tl σ H fun x H1 => (∃ a, x = .ref a ∧ (∃ xs, SqL K H1 a xs) ∧ R (Itl K a) H1) ∨ (∃ a, x = .ref a ∧ (∃ xs, SqT K H1 a xs) ∧ R (Itt K a) H1) ∨ ∃ z, x = .str z ∧ R (Its z) H1
theorem pi_seq {l : Expr} {tl : TE} (hl : PE X l tl) : PI X tg l (iSeq X.K tl) := by
  refine ⟨fun pins s σ H R I h => thn (hl.run pins s σ H _ I h) fun v s1 z => ?_⟩
  obtain ⟨x, H1, I1, r1, q1⟩ := z
  rcases q1 with ⟨a, ea, ⟨xs, hq⟩, q⟩ | ⟨a, ea, ⟨xs, hq⟩, q⟩ | ⟨w, ew, q⟩
  · subst ea; cases r1
    obtain ⟨its, rv, p, hz⟩ := I1.list hq
    exact wpAny_pyIter_list p.isList (pi_one (tk := s1.toks) I1 _ (turn_list a _) ⟨_, Heap.get?_push_size _ rfl, rfl, rfl⟩ q)
  · subst ea; cases r1
    obtain ⟨its, rv, p, hz⟩ := I1.tuple hq
    exact wpAny_pyIter_tuple (show s1.heap.IsTuple a its.toArray from p) (pi_one (tk := s1.toks) I1 _ (turn_tuple a _) ⟨_, Heap.get?_push_size _ rfl, rfl, rfl⟩ q)
  · subst ew
    obtain ⟨t, rfl⟩ := r1
    cases ha : w.cps.all (· < 128)
    · exact wpAny_pyIter_wide ha (pi_one (tk := s1.toks) I1 _ (turn_str _ w t "str_iterator" (.inr rfl)) ⟨_, Heap.get?_push_size _ rfl, rfl, rfl⟩ q)
    · exact wpAny_pyIter_ascii ha (pi_one (tk := s1.toks) I1 _ (turn_str _ w t "str_ascii_iterator" (.inl rfl)) ⟨_, Heap.get?_push_size _ rfl, rfl, rfl⟩ q)
/-- one sign as a text -/
def sg (c : Nat) : D := .str ⟨#[c]⟩
def SV.seq? : SV → Option (List D)
  | .d (.list xs) => some xs
  | .d (.tuple xs) => some xs
  | .d (.str z) => some (z.cps.toList.map sg)
  | .ol xs => some xs
  | _ => none
def kSqB {T : Type} (Q : List D → T → Prop) (τ : T) : Option (List D) → Prop
  | some xs => Q xs τ
  | none => False
def kSq {T : Type} (Q : List D → T → Prop) (r : SV) (τ : T) : Prop := kSqB Q τ r.seq?
theorem kSq_of {T : Type} {Q : List D → T → Prop} {r : SV} {τ : T} (h : kSq Q r τ) : ∃ xs, r.seq? = some xs ∧ Q xs τ := by
  unfold kSq at h
  cases e : r.seq? with
  | none => rw [e] at h; exact False.elim h
  | some xs => rw [e] at h; exact ⟨xs, rfl, h⟩
def dSeqI {T : Type} (te : W T) : WI T := fun env τ Q => te env τ (kSq Q)
theorem itr_l {G : Hp} {a : Addr} {vs : List V} {xs : List D} (h : SqP B.K G a vs) (r : RpAll B.K G vs xs) : ItR B (Itl B.K a) G xs where
  go := fun G1 H1 F1 τ1 sm k i x e => by
    obtain ⟨v, ev, rv⟩ := r.getD e
    refine ⟨⟨vs, v, (same_sqp (sm.trans k.same) h).sql, ev⟩, fun w H2 ⟨e2, y⟩ => ?_⟩
    subst e2
    have := y vs ((same_sqp (sm.trans k.same) h).sql)
    rw [ev] at this
    cases this
    exact ⟨G1, .rfl' k, rv.mono sm⟩
  stop := fun G1 H1 F1 τ1 sm k i hi => ⟨vs, (same_sqp (sm.trans k.same) h).sql, by rw [r.length]; exact hi⟩
theorem itr_t {G : Hp} {a : Addr} {vs : List V} {xs : List D} (h : SqTP B.K G a vs) (r : RpAll B.K G vs xs) : ItR B (Itt B.K a) G xs where
  go := fun G1 H1 F1 τ1 sm k i x e => by
    obtain ⟨v, ev, rv⟩ := r.getD e
    refine ⟨⟨vs, v, same_seqT (sm.trans k.same) h, ev⟩, fun w H2 ⟨e2, y⟩ => ?_⟩
    subst e2
    have := y vs (same_seqT (sm.trans k.same) h)
    rw [ev] at this
    cases this
    exact ⟨G1, .rfl' k, rv.mono sm⟩
  stop := fun G1 H1 F1 τ1 sm k i hi => ⟨vs, same_seqT (sm.trans k.same) h, by rw [r.length]; exact hi⟩
theorem itr_s {G : Hp} {z : Str} : ItR B (Its z) G (z.cps.toList.map sg) where
  go := fun G1 H1 F1 τ1 sm k i x e => by
    rw [List.getElem?_map] at e
    cases q : z.cps.toList[i]? with
    | none => rw [q] at e; cases e
    | some c =>
      rw [q] at e
      cases e
      have q' : z.cps[i]? = some c := by simpa using q
      refine ⟨(Array.getElem?_eq_some_iff.mp q').1, fun w H2 ⟨e2, c', e3, e4⟩ => ?_⟩
      subst e2 e4
      rw [q'] at e3
      cases e3
      exact ⟨G1, .rfl' k, .str _⟩
  stop := fun G1 H1 F1 τ1 sm k i hi => by
    rw [List.length_map, Array.length_toList] at hi
    exact hi
theorem di_seq (hK : X.K = B.K) {l : Expr} (hl : PE X l (lift B te)) : PI X tg l (liftI B (dSeqI te)) :=
  pi_imp (pi_seq hl) fun σ H R z9 => ex53 z9 fun G F env τ Qd s t k => ⟨G, F, env, τ, _, s, t, fun r τ1 G1 F1 H1 v f1 r1 q => by
    obtain ⟨xs, e, q⟩ := kSq_of q
    rw [hK]
    cases r with
    | d x =>
      have hr : Rp B.K G1 v x := r1
      clear r1
      cases hr with
      | lst h a => cases e; exact .inl ⟨_, rfl, ⟨_, (same_sqp f1.k.same h).sql⟩, k _ _ _ _ _ _ f1 (itr_l h a) q⟩
      | tup h a => cases e; exact .inr (.inl ⟨_, rfl, ⟨_, same_seqT f1.k.same h⟩, k _ _ _ _ _ _ f1 (itr_t h a) q⟩)
      | str z => cases e; exact .inr (.inr ⟨z, rfl, k _ _ _ _ _ _ f1 itr_s q⟩)
      | _ => cases e
    | ol ys =>
      obtain ⟨p, e1, o⟩ := r1
      cases e
      subst e1
      obtain ⟨G2, f2, sm, r2⟩ := f1.frz o
      cases r2 with
      | lst h a => exact .inl ⟨_, rfl, ⟨_, (same_sqp f2.k.same h).sql⟩, k _ _ _ _ _ _ f2 (itr_l h a) q⟩
    | _ => cases e⟩
/-- lo, lo + 1, .. -/
def rgI (lo : Int) (n : Nat) : List D := (List.range n).map fun i => .int (lo + (i : Nat))
theorem itr_r {G : Hp} {lo : Int} {n : Nat} : ItR B (Itr lo n) G (rgI lo n) where
  go := fun G1 H1 F1 τ1 sm k i x e => by
    unfold rgI at e
    rw [List.getElem?_map] at e
    by_cases hi : i < n
    · rw [List.getElem?_range hi] at e
      cases e
      refine ⟨hi, fun w H2 ⟨e2, e3⟩ => ?_⟩
      subst e2 e3
      exact ⟨G1, .rfl' k, .int _⟩
    · rw [List.getElem?_eq_none (by rw [List.length_range]; omega)] at e
      cases e
  stop := fun G1 H1 F1 τ1 sm k i hi => by
    unfold rgI at hi
    rw [List.length_map, List.length_range] at hi
    exact hi
def kR1 {T : Type} (Q : List D → T → Prop) (rs : List SV) (τ : T) : Prop := match rs with
  | [.d (.int j)] => (-(2 ^ 62) ≤ j ∧ j < 2 ^ 62) ∧ Q (rgI 0 j.toNat) τ
  | _ => False
def kR2 {T : Type} (Q : List D → T → Prop) (rs : List SV) (τ : T) : Prop := match rs with
  | [.d (.int i), .d (.int j)] => (-(2 ^ 62) ≤ i ∧ i < 2 ^ 62 ∧ -(2 ^ 62) ≤ j ∧ j < 2 ^ 62) ∧ Q (rgI i (j - i).toNat) τ
  | _ => False
theorem kR1_of {T : Type} {Q : List D → T → Prop} {rs : List SV} {τ : T} (h : kR1 Q rs τ) : ∃ j : Int, rs = [.d (.int j)] ∧ (-(2 ^ 62) ≤ j ∧ j < 2 ^ 62) ∧ Q (rgI 0 j.toNat) τ := by
  unfold kR1 at h
  split at h
  · exact ⟨_, rfl, h⟩
  · exact False.elim h
def dRng1 {T : Type} (ta : WA T) : WI T := fun env τ Q => ta env τ (kR1 Q)
def dRng2 {T : Type} (ta : WA T) : WI T := fun env τ Q => ta env τ (kR2 Q)
theorem di_range1 {a : Expr} {ta : WA B.T} {p : Pos} (hg : Gl X "range") (hm : X.mg "range" = none) (ha : PA X [a] (liftA B ta)) (hs : starEach [a] X.env = [(false, eval a X.env)] := by rfl) : PI X tg (.Call (.Name "range" p) [a] [] pos) (liftI B (dRng1 ta)) :=
  pi_imp (pi_range1 hg hm ha hs) fun σ H R z9 => ex53 z9 fun G F env τ Qd s t k => ⟨G, F, env, τ, _, s, t, fun rs τ1 G1 F1 H1 vs f1 r1 q0 => by
    obtain ⟨j, e, h, q⟩ := kR1_of q0
    subst e
    cases r1 with
    | cons r r' =>
      cases r'
      exact ⟨j, by rw [rint r], h.1, h.2, k _ _ _ _ _ _ f1 itr_r q⟩⟩
end
end Z
namespace Z
open PySem L2
section
variable {X : Cx} {B : Bk} {e tg iter : Expr} {pos : Pos} {te : W B.T} {t : Tg} {i : Nat} {x : Str} {body : List Stmt} {tb : WS B.T} {ti : WI B.T} {tc : WT B.T}
/-! ### for -/
def forW {T : Type} (t : Tg) (tb : WS T) (D : DEnds T) : List Z.D → List SV → T → Prop
  | [], env, τ => D.nx env τ
  | x :: xs, env, τ => opt (tgE t x env) fun env' => tb { D with nx := forW t tb D xs, ct := forW t tb D xs, bk := D.nx } env' τ
def dFor {T : Type} (ti : WI T) (t : Tg) (tb : WS T) : WS T := fun D env τ => ti env τ fun xs τ1 => forW t tb D xs env τ1
theorem ds_for (hp : PassesOwn (model X.prog X.w) X.A X.env X.xe) (hc : X.calm = true) (hi : PI X tg iter (liftI B ti)) (hg : PG X tg (tgH B.K t)) (hb : PSs X body (liftS B tb))
    (hs : ∀ x, foldedSetIterable iter X.env x = pure x := by intro _; rfl) : PS X (.For tg iter body [] pos) (liftS B (dFor ti t tb)) :=
  ps_imp (ps_for hp hc hi hg hb hs) fun D σ H z9 => ex53 z9 fun G F env τ Dd s h E => ⟨G, F, env, τ, _, s, h, fun xs τ1 G1 F1 H1 J f1 it q => by
    refine ⟨fun i m σ H => m = xs.length - i ∧ i ≤ xs.length ∧ ∃ G2 F2 env2 τ2, StR B G2 F2 σ H env2 τ2 ∧ Same G1 G2 ∧ forW t tb Dd (xs.drop i) env2 τ2, ⟨_, rfl, Nat.zero_le _, G1, F1, env, τ1, s.fin f1, Same.refl _, q⟩, ?_⟩
    rintro i m σ2 H2 ⟨rfl, hi, G2, F2, env2, τ2, s2, sm, q2⟩
    by_cases hl : i < xs.length
    · have hx : xs[i]? = some xs[i] := List.getElem?_eq_getElem hl
      obtain ⟨g, y⟩ := it.go G2 H2 F2 τ2 sm s2.k i _ hx
      rw [List.drop_eq_getElem_cons hl, forW] at q2
      obtain ⟨env3, e3, q3⟩ := opt_of q2
      refine .inr ⟨g, fun σ' H' => ∃ G4 F4 env4 τ4, StR B G4 F4 σ' H' env4 τ4 ∧ Same G1 G4 ∧ forW t tb Dd (xs.drop (i + 1)) env4 τ4, fun σ' H' n => ⟨_, by omega, rfl, by omega, n⟩, fun v H3 yl => ?_⟩
      obtain ⟨G3, f3, r3⟩ := y v H3 yl
      refine tg_ok [] t (s2.fin f3) r3 e3 fun σ' s' _ => ⟨G3, F2, env3, τ2, _, s', q3, ⟨?_, E.rt, ?_, ?_⟩⟩
      · exact fun G' F' σ' H' env' τ' smx sx qx => ⟨G', F', env', τ', sx, sm.trans (f3.s.g.trans smx), qx⟩
      · exact fun G' F' σ' H' env' τ' smx sx qx => E.nx G' F' σ' H' env' τ' (f1.s.g.trans (sm.trans (f3.s.g.trans smx))) sx qx
      · exact fun G' F' σ' H' env' τ' smx sx qx => ⟨G', F', env', τ', sx, sm.trans (f3.s.g.trans smx), qx⟩
    · rw [List.drop_eq_nil_of_le (by omega), forW] at q2
      exact .inl ⟨it.stop G2 H2 F2 τ2 sm s2.k i (by omega), E.nx G2 F2 σ2 H2 env2 τ2 (f1.s.g.trans sm) s2 q2⟩⟩
/-! ### while -/
def whileW {T : Type} (c : WT T) (tb : WS T) (D : DEnds T) : Nat → List SV → T → Prop
  | 0, _, _ => False
  | n + 1, env, τ => c env τ fun k τ1 => if k = true then tb { D with nx := whileW c tb D n, ct := whileW c tb D n, bk := D.nx } env τ1 else D.nx env τ1
def dWhile {T : Type} (c : WT T) (tb : WS T) : WS T := fun D env τ => ∃ n, whileW c tb D n env τ
theorem ds_while {c : Expr} (hp : PassesOwn (model X.prog X.w) X.A X.env X.xe) (hc : PT X c (liftT B tc)) (hb : PSs X body (liftS B tb)) : PS X (.While c body [] pos) (liftS B (dWhile tc tb)) :=
  ps_imp (ps_while hp hc hb) fun D σ H ⟨G, F, env, τ, Dd, s, ⟨n, h⟩, E⟩ => by
    refine ⟨fun m σ H => ∃ G2 F2 env2 τ2, StR B G2 F2 σ H env2 τ2 ∧ Same G G2 ∧ whileW tc tb Dd m env2 τ2, ⟨n, G, F, env, τ, s, Same.refl _, h⟩, ?_⟩
    rintro m σ2 H2 ⟨G2, F2, env2, τ2, s2, sm, q2⟩
    cases m with
    | zero => exact q2.elim
    | succ m =>
      refine ⟨G2, F2, env2, τ2, _, s2, q2, fun b τ3 G3 F3 H3 f3 q3 => ?_⟩
      cases b with
      | false => exact iteF (E.nx G3 F3 σ2 H3 env2 τ3 (sm.trans f3.s.g) (s2.fin f3) q3)
      | true =>
        refine iteT ⟨fun σ' H' => ∃ G4 F4 env4 τ4, StR B G4 F4 σ' H' env4 τ4 ∧ Same G G4 ∧ whileW tc tb Dd m env4 τ4, fun σ' H' z => ⟨m, Nat.lt_succ_self m, z⟩, G3, F3, env2, τ3, _, s2.fin f3, q3, ⟨?_, E.rt, ?_, ?_⟩⟩
        · exact fun G' F' σ' H' env' τ' smx sx qx => ⟨G', F', env', τ', sx, sm.trans (f3.s.g.trans smx), qx⟩
        · exact fun G' F' σ' H' env' τ' smx sx qx => E.nx G' F' σ' H' env' τ' (sm.trans (f3.s.g.trans smx)) sx qx
        · exact fun G' F' σ' H' env' τ' smx sx qx => ⟨G', F', env', τ', sx, sm.trans (f3.s.g.trans smx), qx⟩
/-! ### comprehensions -/
def wipeE (env : List SV) : List Nat → List SV
  | [] => env
  | v :: vs => (wipeE env vs).set v .no
theorem EnvR.wipe {K : PySem.W.Frag} {H0 G H : Hp} {F : Addr → Prop} {σ : L2.St} {env : List SV} (E : EnvR K H0 G F H σ env) : ∀ vs : List Nat, EnvR K H0 G F H (L2.wipe σ vs) (wipeE env vs)
  | [] => E
  | v :: vs => by
    have ih := (E.wipe vs).drop (i := v)
    rw [L2.wipe, wipeE]
    refine ⟨by rw [List.length_set]; exact ih.len, fun j s e => ?_, fun j k xs ys hjk ej ek => ?_⟩
    · have a := ih.at' j s e
      by_cases q : v = j
      · subst q
        by_cases hl : v < (wipeE env vs).length
        · rw [List.getElem?_set_self hl] at e
          cases e
          trivial
        · rw [List.getElem?_eq_none (by rw [List.length_set]; omega)] at e
          cases e
      · rw [List.getElem?_set_ne q]
        exact a
    · have no : ∀ (m : Nat) zs, ((wipeE env vs).set v .no)[m]? = some (.ol zs) → v ≠ m := fun m zs em q => by
        subst q
        by_cases hl : v < (wipeE env vs).length
        · rw [List.getElem?_set_self hl] at em
          cases em
        · rw [List.getElem?_eq_none (by rw [List.length_set]; omega)] at em
          cases em
      rw [List.getElem?_set_ne (no j xs ej), List.getElem?_set_ne (no k ys ek)]
      exact ih.sep j k xs ys hjk ej ek
def lcW {T : Type} (t : Tg) (tt : WT T) (te : W T) (Q : List D → T → Prop) : List D → List D → List SV → T → Prop
  | [], acc, _, τ => Q acc τ
  | x :: xs, acc, env, τ => opt (tgE t x env) fun env' => tt env' τ fun b τ1 => if b = true then te env' τ1 fun r τ2 => opt r.dat? fun y => acc.length < sizeLine ∧ lcW t tt te Q xs (acc ++ [y]) env τ2 else lcW t tt te Q xs acc env τ1
def dLc {T : Type} (ti : WI T) (t : Tg) (tt : WT T) (te : W T) (vs : List Nat) : W T := fun env τ Q => ti env τ fun xs τ1 => lcW t tt te (fun acc τ2 => Q (.ol acc) τ2) xs [] (wipeE env vs) τ1
theorem wipe_idem (σ : L2.St) (vs : List Nat) : wipe (wipe σ vs) vs = wipe σ vs := by
  apply List.ext_getElem?
  intro k
  rw [wipe_get, wipe_get, wipe_length]
  by_cases q : k ∈ vs
  · rw [if_pos q, if_pos q]
  · rw [if_neg q, if_neg q]
/-- an own list, newer than H, is changed -/
theorem Fin.mut {G G2 H H' : Hp} {F F2 : Addr → Prop} {τ : B.T} {p : Addr} {acc acc' : List D} {ws : List V} (f : Fin B G F H τ G2 F2 H') (o : Own B.K H G2 F2 H' p acc) (a : RpAll B.K G2 ws acc') :
    Fin B G F H τ G2 F2 (upd H' p (.lst ws)) ∧ Own B.K H G2 F2 (upd H' p (.lst ws)) p acc' := by
  refine ⟨⟨⟨f.s.g, fun b u nf e => ?_, f.s.gn, f.s.fn, f.s.ff, fun b e => ?_⟩, f.k.mut o.g o.f⟩, ⟨⟨ws, upd_same, a⟩, o.g, o.f, o.new⟩⟩
  · rw [upd_ne (ne_of_none e o.new)]
    exact f.s.h b u nf e
  · by_cases q : b = p
    · subst q
      exact absurd o.new e
    · rw [upd_ne q]
      exact f.s.dom b e
theorem lift_lc {tt : WT B.T} {vs : List Nat} (ht : t.all (· ∈ vs) = true) : ∀ σ H Q, lift B (dLc ti t tt te vs) σ H Q → tLc (liftI B ti) (tgH B.K t) (liftT B tt) (lift B te) vs σ H Q := fun σ H Q z9 => ex53 z9 fun G F env τ Qd s h k => by
  refine ⟨G, F, env, τ, _, s, h, fun xs τ1 G1 F1 H1 J f1 it q D hD => ?_⟩
  let P : Nat → Hp → Prop := fun i H' => ∃ G2 F2 τ2 acc, Fin B G1 F1 H1 τ2 G2 F2 H' ∧ Own B.K H1 G2 F2 H' D acc ∧ lcW t tt te (fun acc τ2 => Qd (.ol acc) τ2) (xs.drop i) acc (wipeE env vs) τ2
  refine ⟨fun i m H' => m = xs.length - i ∧ i ≤ xs.length ∧ P i H', ⟨_, rfl, Nat.zero_le _, ?_⟩, ?_⟩
  · obtain ⟨f2, p, e, o⟩ := new_lst (p := D) f1.k hD (.nil : RpAll B.K G1 [] [])
    cases e
    exact ⟨G1, F1, τ1, [], f2, o, q⟩
  rintro i m H2 ⟨rfl, hi, G2, F2, τ2, acc, f2, o2, q2⟩
  by_cases hl : i < xs.length
  · have hx : xs[i]? = some xs[i] := List.getElem?_eq_getElem hl
    obtain ⟨g, y⟩ := it.go G2 H2 F2 τ2 f2.s.g f2.k i _ hx
    rw [List.drop_eq_getElem_cons hl, lcW] at q2
    obtain ⟨env3, e3, q3⟩ := opt_of q2
    refine .inr ⟨g, P (i + 1), fun H' n => ⟨_, by omega, rfl, by omega, n⟩, fun v H3 yl => ?_⟩
    obtain ⟨G3, f3, r3⟩ := y v H3 yl
    have f23 := f2.trans f3
    have s3 := (s.fin f1).fin f23
    have o3 := o2.step f3.s
    refine tg_ok vs t ⟨s3.s, s3.k, s3.e.wipe vs⟩ r3 e3 fun σ' s' w => ⟨(w ht).trans (wipe_idem σ vs), G3, F2, env3, τ2, _, s', q3, fun b τ4 G4 F4 H4 f4 q4 => ?_⟩
    have f24 := f23.trans f4
    have o4 := o3.step f4.s
    cases b with
    | false => exact iteF ⟨G4, F4, τ4, acc, f24, o4, q4⟩
    | true =>
      refine iteT ⟨G4, F4, env3, τ4, _, s'.fin f4, q4, fun r τ5 G5 F5 H5 v5 f5 r5 q5 => ?_⟩
      obtain ⟨z, e5, hz, q5⟩ := opt_of q5
      obtain ⟨G6, f6, sm, r6⟩ := r5.dat f5 e5
      have f26 := f24.trans f6
      have o6 := o4.step f6.s
      obtain ⟨ws, ew, aw⟩ := o6.at'
      obtain ⟨f7, o7⟩ := f26.mut o6 (aw.append (.cons r6 .nil))
      exact ⟨ws, ew, by rw [aw.length]; exact hz, G6, F5, τ5, acc ++ [z], f7, o7, q5⟩
  · rw [List.drop_eq_nil_of_le (by omega), lcW] at q2
    exact .inl ⟨it.stop G2 H2 F2 τ2 f2.s.g f2.k i (by omega), k (.ol acc) τ2 G2 F2 H2 (.ref D) (f1.trans f2) ⟨D, rfl, o2.at', o2.g, o2.f, dead f1.s.dom D o2.new⟩ q2⟩
/-- no test -/
def dYes {T : Type} : WT T := fun _ τ Q => Q true τ
theorem dts_nil : PTs X [] (liftT B dYes) := ⟨fun pins s σ H Q I z9 => ex53 z9 fun G F env τ Qd st h k => pts_nil.run pins s σ H Q I (k true τ G F H st.refl h)⟩
theorem dts_one {c : Expr} (h : PT X c (liftT B tc)) : PTs X [c] (liftT B tc) := pts_one h
theorem de_lc {elt : Expr} {ifs : List Expr} {scope : Scope} {own : List (Str × Nat)} {tt : WT B.T} (hc : X.calm = true) (hN : X.N.Nodup) (hi : PI X tg iter (liftI B ti)) (ok : BlkOk X.N X.env.scope scope own) (hv : t.all (· ∈ own.map (·.2)) = true)
    (hg : ∀ (s : Shared) (H : Hp) (C : Addr) (cl : List (Str × Addr)) (fp : List Addr), PG (X.blk s H scope (compEnvC scope cl C X.env) fp) tg (tgH B.K t)) (ht : ∀ (s : Shared) (H : Hp) (C : Addr) (cl : List (Str × Addr)) (fp : List Addr), PTs (X.blk s H scope (compEnvC scope cl C X.env) fp) ifs (liftT B tt))
    (he : ∀ (s : Shared) (H : Hp) (C : Addr) (cl : List (Str × Addr)) (fp : List Addr), PE (X.blk s H scope (compEnvC scope cl C X.env) fp) elt (lift B te)) (hs : ∀ x, foldedSetIterable iter X.env x = pure x := by intro _; rfl) :
    PE X (.ListComp elt [⟨tg, iter, ifs, 0⟩] scope pos) (lift B (dLc ti t tt te (own.map (·.2)))) := pe_imp (pe_lc hc hN hi ok hg ht he hs) (lift_lc hv)
theorem ds_setLc {y : Str} {py spos : Pos} {elt : Expr} {ifs : List Expr} {scope : Scope} {own : List (Str × Nat)} {tt : WT B.T} (hc : X.calm = true) (hN : X.N.Nodup) (hy : X.N[i]? = some y) (hyl : X.env.scope.names.lookup y = some .local)
    (hsw : swapsWith (.ListComp elt [⟨tg, iter, ifs, 0⟩] scope pos) (some (.Name y py)) spos.line X.env = pure true) (hi : PI X tg iter (liftI B ti)) (ok : BlkOk X.N X.env.scope scope own) (hv : t.all (· ∈ own.map (·.2)) = true)
    (hg : ∀ (s : Shared) (H : Hp) (C : Addr) (cl : List (Str × Addr)) (fp : List Addr), PG (X.blk s H scope (compEnvC scope cl C X.env) fp) tg (tgH B.K t)) (ht : ∀ (s : Shared) (H : Hp) (C : Addr) (cl : List (Str × Addr)) (fp : List Addr), PTs (X.blk s H scope (compEnvC scope cl C X.env) fp) ifs (liftT B tt))
    (he : ∀ (s : Shared) (H : Hp) (C : Addr) (cl : List (Str × Addr)) (fp : List Addr), PE (X.blk s H scope (compEnvC scope cl C X.env) fp) elt (lift B te)) (hs : ∀ x, foldedSetIterable iter X.env x = pure x := by intro _; rfl) :
    PS X (.Assign [.Name y py] (.ListComp elt [⟨tg, iter, ifs, 0⟩] scope pos) spos) (liftS B (dSet i (dLc ti t tt te (own.map (·.2))))) :=
  ps_imp (ps_setLc hc hN hy hyl hsw hi ok hg ht he hs) (lift_set (lift_lc hv))
/-! ### own lists -/
/-- from here on the list in slot i never changes -/
def kFrz {T : Type} (i : Nat) (t : WS T) (D : DEnds T) (env : List SV) (τ : T) : Option SV → Prop
  | some (.ol xs) => t D (env.set i (.d (.list xs))) τ
  | some (.d (.list xs)) => t D env τ
  | _ => False
def dFrz {T : Type} (i : Nat) (t : WS T) : WS T := fun D env τ => kFrz i t D env τ env[i]?
theorem StR.frz {G H : Hp} {F : Addr → Prop} {σ : L2.St} {env : List SV} {τ : B.T} {xs : List D} (s : StR B G F σ H env τ) (e : env[i]? = some (.ol xs)) : ∃ G2, Same G G2 ∧ StR B G2 F σ H (env.set i (.d (.list xs))) τ := by
  obtain ⟨p, e1, o⟩ := s.e.at' i _ e
  obtain ⟨⟨ws, ew, aw⟩, og, onf, onew⟩ := id o
  have hl : i < env.length := (List.getElem?_eq_some_iff.mp e).1
  have hs : σ[i]? = some (some (.ref p)) := by
    cases z : σ[i]? with
    | none => rw [z] at e1; cases e1
    | some u => rw [z] at e1; exact congrArg some e1
  have sm : Same G (upd G p (.lst ws)) := fun b u z => by rw [upd_ne (ne_of_none z og)]; exact z
  have st : Step B.G B.F B.H (upd G p (.lst ws)) F H := ⟨s.s.g.trans sm, s.s.h, fun b u z => by
    by_cases q : b = p
    · subst q; exact .inr (.inl onew)
    · rw [upd_ne q] at z; exact s.s.gn b u z, s.s.fn, s.s.ff, s.s.dom⟩
  have stay : ∀ (j : Nat) sv, i ≠ j → env[j]? = some sv → SvR B.K B.H (upd G p (.lst ws)) F H sv (σ[j]?.join) := fun j sv hj ej => by
    have h := s.e.at' j sv ej
    cases sv with
    | no => trivial
    | vw _ => exact h
    | raw v => exact h
    | d y =>
      obtain ⟨v, e2, r2⟩ := h
      exact ⟨v, e2, r2.mono sm⟩
    | ol ys =>
      obtain ⟨q, e2, w⟩ := h
      obtain ⟨vs, e3, a⟩ := w.at'
      refine ⟨q, e2, ⟨vs, e3, a.mono sm⟩, ?_, w.f, w.new⟩
      have : q ≠ p := fun z => by
        subst z
        exact s.e.sep i j xs ys hj e ej (e1.trans e2.symm)
      rw [upd_ne this]
      exact w.g
  have get : ∀ (m : Nat) sv, (env.set i (.d (.list xs)))[m]? = some sv → (m = i ∧ sv = .d (.list xs)) ∨ (i ≠ m ∧ env[m]? = some sv) := fun m sv em => by
    by_cases q : i = m
    · subst q
      rw [List.getElem?_set_self hl] at em
      exact .inl ⟨rfl, (Option.some.inj em).symm⟩
    · rw [List.getElem?_set_ne q] at em
      exact .inr ⟨q, em⟩
  refine ⟨upd G p (.lst ws), sm, st, s.k.frz ew og onf, by rw [List.length_set]; exact s.e.len, fun j sv ej => ?_, fun j k ys zs hjk ej ek => ?_⟩
  · rcases get j sv ej with ⟨rfl, rfl⟩ | ⟨q, ej⟩
    · rw [hs]
      exact ⟨.ref p, rfl, Rp.lst (.inl (.inl upd_same)) (aw.mono sm)⟩
    · exact stay j sv q ej
  · rcases get j _ ej with ⟨_, z⟩ | ⟨_, ej⟩
    · cases z
    · rcases get k _ ek with ⟨_, z⟩ | ⟨_, ek⟩
      · cases z
      · exact s.e.sep j k ys zs hjk ej ek
theorem ds_frz {st : Stmt} {tS : WS B.T} (h : PS X st (liftS B tS)) : PS X st (liftS B (dFrz i tS)) :=
  ps_imp h fun D σ H z9 => ex53 z9 fun G F env τ Dd s z E => by
    unfold dFrz kFrz at z
    split at z
    · rename_i xs e
      obtain ⟨G2, sm, s2⟩ := s.frz e
      exact ⟨G2, F, _, τ, Dd, s2, z, E.mono sm⟩
    · exact ⟨G, F, env, τ, Dd, s, z, E⟩
    · exact z.elim
/-- the own list in slot i is changed -/
theorem StR.mut {G H : Hp} {F : Addr → Prop} {σ : L2.St} {env : List SV} {τ : B.T} {xs xs' : List D} {p : Addr} {ws : List V} (s : StR B G F σ H env τ) (e : env[i]? = some (.ol xs)) (e1 : σ[i]?.join = some (.ref p)) (a : RpAll B.K G ws xs') :
    StR B G F σ (upd H p (.lst ws)) (env.set i (.ol xs')) τ := by
  obtain ⟨p', e2, o⟩ := s.e.at' i _ e
  have : p' = p := by
    rw [e1] at e2
    cases e2
    rfl
  subst this
  have hl : i < env.length := (List.getElem?_eq_some_iff.mp e).1
  obtain ⟨f, o'⟩ := s.out.mut o a
  have get : ∀ (m : Nat) sv, (env.set i (.ol xs'))[m]? = some sv → (m = i ∧ sv = .ol xs') ∨ (i ≠ m ∧ env[m]? = some sv) := fun m sv em => by
    by_cases q : i = m
    · subst q
      rw [List.getElem?_set_self hl] at em
      exact .inl ⟨rfl, (Option.some.inj em).symm⟩
    · rw [List.getElem?_set_ne q] at em
      exact .inr ⟨q, em⟩
  have was : ∀ (m : Nat) zs, (env.set i (.ol xs'))[m]? = some (.ol zs) → ∃ zs', env[m]? = some (.ol zs') := fun m zs em => by
    rcases get m _ em with ⟨rfl, _⟩ | ⟨_, h⟩
    · exact ⟨xs, e⟩
    · exact ⟨zs, h⟩
  refine ⟨f.s, f.k, by rw [List.length_set]; exact s.e.len, fun j sv ej => ?_, fun j k ys zs hjk ej ek => ?_⟩
  · rcases get j sv ej with ⟨rfl, rfl⟩ | ⟨q, ej⟩
    · exact ⟨p', e1, o'⟩
    · have h := s.e.at' j sv ej
      cases sv with
      | no => trivial
      | vw _ => exact h
      | raw v => exact h
      | d y => exact h
      | ol ys =>
        obtain ⟨q', e3, w⟩ := h
        obtain ⟨vs, e4, a4⟩ := w.at'
        have : q' ≠ p' := fun z => by
          subst z
          exact s.e.sep i j xs ys q e ej (e1.trans e3.symm)
        exact ⟨q', e3, ⟨vs, by rw [upd_ne this]; exact e4, a4⟩, w.g, w.f, w.new⟩
  · obtain ⟨ys', ej'⟩ := was j ys ej
    obtain ⟨zs', ek'⟩ := was k zs ek
    exact s.e.sep j k ys' zs' hjk ej' ek'
end
end Z
namespace Z
open PySem L2
/-! ### defs -/
abbrev FW (T : Type) := List SV → T → (SV → T → Prop) → Prop
def SV.dr : SV → Bool
  | .d _ => true
  | .raw _ => true
  | _ => false
/-- a def's promise, by data -/
def spD (S : Sto) (K : PySem.W.Frag) (FF : FW S.T) : Sp := fun vs H Q _ => ∃ G F τ rs Qd Ha, Ok S K τ G F H ∧ ResAll K Ha G F H rs vs ∧ rs.all SV.dr = true ∧ FF rs τ Qd ∧
  ∀ r τ' G' F' H' v, Step G F H G' F' H' → Ok S K τ' G' F' H' → Res K H G' F' H' r v → Qd r τ' → Q v H'
def dCall {T : Type} (FF : FW T) (ta : WA T) : W T := fun env τ Q => ta env τ fun rs τ1 => rs.all SV.dr = true ∧ FF rs τ1 Q
section
variable {X : Cx} {B : Bk} {e : Expr} {es : List Expr} {pos p : Pos} {ta : WA B.T} {FF : FW B.S.T} {f : Addr} {fd : FuncData} {ps : List Str} {k : Nat} {x : Str}
theorem lift_call {E : XK} (hK : X.K = B.K) : ∀ σ H Q, lift B (dCall FF ta) σ H Q → tCall (spD B.S B.K FF) [] E (liftA B ta) σ H Q := fun σ H Q z9 => ex53 z9 fun G F env τ Qd s t k =>
  ⟨G, F, env, τ, _, s, t, fun rs τ1 G1 F1 H1 vs f1 r1 ⟨dr, q⟩ => by
    show spD B.S B.K FF (vs ++ []) H1 Q E
    rw [List.append_nil]
    exact ⟨G1, F1, τ1, rs, Qd, H, f1.k, r1, dr, q, fun r τ' G' F' H' v st ok res qd => k r τ' G' F' H' v (f1.trans ⟨st, ok⟩) (res.back (dead f1.s.dom)) qd⟩⟩
theorem de_call (hK : X.K = B.K) (F : FnOk X.prog X.w X.K X.mg X.base CX0 k f fd ps (spD B.S B.K FF)) (hr : Room k X.A) (hg : Gl X x) (hm : X.mg x = some (.ref f)) (hk : PySem.W.keepIn X.K (.ref f) = true) (hb : Binds X.K fd ps [])
    (ha : PA X (e :: es) (liftA B ta)) (hdb : (x == ("__debug__" : Str)) = false := by decide) (he : starEach (e :: es) X.env = (false, eval e X.env) :: starEach es X.env := by rfl) (hpl : (backTo pos (starEach es X.env)).any (·.1) = false := by rfl) :
    PE X (.Call (.Name x p) (e :: es) [] pos) (lift B (dCall FF ta)) := pe_imp (pe_call F hr hg hm hk hb .nil (pass0 (X := X)) ha hdb he hpl) (lift_call hK)
end
section
variable {P : Program} {w : World} {S : Sto} {K : PySem.W.Frag} {mg : Str → Option Value} {base : Heap}
theorem ResAll.slot {K : PySem.W.Frag} {Ha H0 G F H} : ∀ {rs : List SV} {vs : List V} (i : Nat) (s : SV), ResAll K Ha G F H rs vs → rs.all SV.dr = true → rs[i]? = some s → SvR K H0 G F H s ((vs.map some)[i]?.join)
  | _, _, _, _, .nil, _, e => by simp at e
  | .d x :: r, v :: vs, 0, s, .cons h t, _, e => by cases e; exact ⟨v, rfl, h⟩
  | .raw x :: r, v :: vs, 0, s, .cons h t, _, e => by
    cases e
    have h : v = x := h
    subst h
    rfl
  | .no :: r, _, 0, _, .cons h _, _, _ => h.elim
  | .ol _ :: r, _, 0, _, .cons h _, d, _ => by cases d
  | .vw _ :: r, _, 0, _, .cons h _, d, _ => by cases d
  | a :: r, v :: vs, i + 1, s, .cons h t, d, e => by
    have d' : (a.dr && r.all SV.dr) = true := d
    rw [Bool.and_eq_true] at d'
    exact ResAll.slot i s t d'.2 e
theorem env_start {B : Bk} {Ha G H : Hp} {F : Addr → Prop} {N : List Str} {rs : List SV} {vs : List V} (r : ResAll B.K Ha G F H rs vs) (dr : rs.all SV.dr = true) (hl : rs.length ≤ N.length) :
    EnvR B.K B.H G F H (L2.start N vs) (rs ++ List.replicate (N.length - rs.length) .no) := by
  have el := r.length
  have noOl : ∀ (m : Nat) zs, (rs ++ List.replicate (N.length - rs.length) SV.no)[m]? = some (.ol zs) → False := fun m zs em => by
    by_cases q : m < rs.length
    · rw [List.getElem?_append_left q] at em
      have := List.all_eq_true.mp dr _ (List.mem_of_getElem? em)
      cases this
    · rw [List.getElem?_append_right (by omega), List.getElem?_replicate] at em
      split at em <;> cases em
  refine ⟨?_, fun i s e => ?_, fun i j xs ys _ ei _ => (noOl i xs ei).elim⟩
  · unfold L2.start
    rw [List.length_append, List.length_append, List.length_map, List.length_replicate, List.length_replicate, el]
  · by_cases q : i < rs.length
    · rw [List.getElem?_append_left q] at e
      have z : (L2.start N vs)[i]? = (vs.map some)[i]? := by
        unfold L2.start
        rw [List.getElem?_append_left (by rw [List.length_map, ← el]; exact q)]
      rw [z]
      exact ResAll.slot i s r dr e
    · rw [List.getElem?_append_right (by omega), List.getElem?_replicate] at e
      split at e
      · cases e
        trivial
      · cases e
/-- THE RULE for a def, by data -/
theorem okD {x qual : Str} {st : Stmt} {f : Addr} {fd : FuncData} {N ps : List Str} {k : Nat} {FF : FW S.T} (F : Fun K x qual st f fd) (Sc : FnScope N ps (defScope st)) (len : ∀ rs τ Q, FF rs τ Q → rs.length = ps.length) (hl : ps.length ≤ N.length)
    (hbody : ∀ (cdv : Value) (A : Around) (outer : List Env) (s : Shared) (H : Hp) (E : XK) (G : Hp) (Fp : Addr → Prop), Room k (A.deeper (PyProof.Rows.envOfC qual (defScope st) s.heap.objs.size f cdv)) →
      ∃ t : WS S.T, PSs (cxOf CX0 P w K mg base N qual (defScope st) f cdv A outer s H E).nox (defBody st) (liftS ⟨S, K, G, Fp, H⟩ t) ∧ ∀ rs τ Qd, FF rs τ Qd → t { nx := fun _ τ' => Qd (.d .none) τ', rt := Qd } (rs ++ List.replicate (N.length - rs.length) .no) τ) :
    FnOk P w K mg base CX0 (k + 1) f fd ps (spD S K FF) := by
  refine F.ok Sc (fun vs H Q E z9 => by obtain ⟨G, F, τ, rs, Qd, Ha, ok, r, dr, h, fin⟩ := z9; rw [← r.length]; exact len _ _ _ h) fun cdv A outer s H vs Q E hr z9 => ?_
  obtain ⟨G, Fp, τ, rs, Qd, Ha, ok, r, dr, h, fin⟩ := z9
  obtain ⟨t, d, sem⟩ := hbody cdv A outer s H E G Fp hr
  have hle : rs.length ≤ N.length := by rw [len _ _ _ h]; exact hl
  exact ⟨_, d, G, Fp, _, τ, _, ⟨Step.refl _ _ _, ok, env_start (B := ⟨S, K, G, Fp, H⟩) r dr hle⟩, sem rs τ Qd h,
    ⟨fun G' F' σ' H' env' τ' _ st q => fin (.d .none) τ' G' F' H' .non st.s st.k Rp.non q, fun r τ' G' F' H' v f res q => fin r τ' G' F' H' v f.s f.k res q, fun _ _ _ _ _ _ _ _ q => q.elim, fun _ _ _ _ _ _ _ _ q => q.elim⟩⟩
end
/-! ### methods of own lists -/
section
variable {X : Cx} {B : Bk} {e o : Expr} {pos : Pos} {te : W B.T} {i : Nat}
theorem at_slot {G H : Hp} {F : Addr → Prop} {σ : L2.St} {env : List SV} {τ : B.T} {xs : List D} (s : StR B G F σ H env τ) (e : env[i]? = some (.ol xs)) : ∃ p, σ[i]? = some (some (.ref p)) ∧ Own B.K B.H G F H p xs := by
  obtain ⟨p, e1, w⟩ := s.e.at' i _ e
  refine ⟨p, ?_, w⟩
  cases z : σ[i]? with
  | none => rw [z] at e1; cases e1
  | some u => rw [z] at e1; exact congrArg some e1
/-- x.append(e) -/
def dApp {T : Type} (i : Nat) (te : W T) : WS T := fun D env τ => match env[i]? with
  | some (.ol xs) => te env τ fun r τ1 => opt r.dat? fun y => xs.length < sizeLine ∧ D.nx (env.set i (.ol (xs ++ [y]))) τ1
  | _ => False
theorem ds_app {st : Stmt} (h : PS X st (tDrop (tBM X.K "list" rAppend (tVar i) (tCons (lift B te) tNil)))) : PS X st (liftS B (dApp i te)) :=
  ps_imp h fun D σ H z9 => ex53 z9 fun G F env τ Dd s z E => by
    unfold dApp at z
    split at z
    · rename_i xs ee
      obtain ⟨p, e1, w⟩ := at_slot s ee
      obtain ⟨vs, e2, a2⟩ := w.at'
      refine ⟨_, e1, .inl ⟨rfl, _, .of e2⟩, G, F, env, τ, _, s, z, fun r τ1 G1 F1 H1 v f1 r1 q => ?_⟩
      obtain ⟨y, ey, hz, q⟩ := opt_of q
      obtain ⟨G2, f2, sm, r2⟩ := r1.dat f1 ey
      have s2 := s.fin f2
      obtain ⟨vs2, e3, a3⟩ := (w.step f2.s).at'
      have s3 := s2.mut ee (by rw [e1]; rfl) (a3.append (.cons r2 .nil))
      exact ⟨p, vs2, v, rfl, rfl, e3, by rw [a3.length]; exact hz, E.nx G2 F1 σ _ _ τ1 f2.s.g s3 q⟩
    · exact z.elim
end
end Z
namespace Z
open PySem L2
/-! ### more readings of data -/
def SV.seqd? : SV → Option (List D)
  | .d (.list xs) => some xs
  | .d (.tuple xs) => some xs
  | .ol xs => some xs
  | .vw xs => some xs
  | _ => none
/-- as data, a list of one's own as it is now -/
def SV.now? : SV → Option D
  | .d x => some x
  | .ol xs => some (.list xs)
  | .vw xs => some (.list xs)
  | _ => none
theorem Res.seqd {K : PySem.W.Frag} {Ha G F H v} (sm : Same G H) {s : SV} {xs : List D} (r : Res K Ha G F H s v) (e : s.seqd? = some xs) : ∃ p vs, v = .ref p ∧ (SqL K H p vs ∨ SqT K H p vs) ∧ RpAll K G vs xs := by
  have viaL : s.lst? = some xs → ∃ p vs, v = .ref p ∧ (SqL K H p vs ∨ SqT K H p vs) ∧ RpAll K G vs xs := fun e => by
    obtain ⟨p, vs, e1, h, a⟩ := r.sql sm e
    exact ⟨p, vs, e1, .inl h.sql, a⟩
  cases s with
  | no => exact r.elim
  | raw v => cases e
  | ol ys => exact viaL e
  | vw ys => exact viaL e
  | d x =>
    cases x with
    | list ys => exact viaL e
    | tuple ys =>
      cases e
      obtain ⟨p, vs, e1, h, a⟩ := rtup r
      exact ⟨p, vs, e1, .inr (same_seqT sm h), a⟩
    | _ => cases e
theorem Res.now {K : PySem.W.Frag} {Ha G F H v} (sm : Same G H) {s : SV} {x : D} (r : Res K Ha G F H s v) (e : s.now? = some x) : x.canLay0 = true → Dp K H v x := fun c => by
  have viaL : ∀ xs, x = .list xs → s.lst? = some xs → Dp K H v x := fun xs ex el => by
    obtain ⟨p, vs, e1, h, a⟩ := r.sql sm el
    subst ex
    subst e1
    rw [PyData.canLay0] at c
    exact .lst h.sql ((a.mono sm).dp c)
  cases s with
  | no => exact r.elim
  | raw v => cases e
  | ol ys => cases e; exact viaL _ rfl rfl
  | vw ys => cases e; exact viaL _ rfl rfl
  | d y => cases e; exact (Rp.mono sm r).dp c
/-! ### == and != -/
def scalD : D → D → Bool
  | .none, .none => true | .none, .int _ => true | .int _, .none => true | .none, .bool _ => true | .bool _, .none => true | .none, .str _ => true | .str _, .none => true
  | .int _, .int _ => true | .bool _, .bool _ => true | .str _, .str _ => true | .int _, .str _ => true | .str _, .int _ => true | .bool _, .str _ => true | .str _, .bool _ => true
  | _, _ => false
def eqOk (a b : D) : Bool := scalD a b || (SeqAt.shaped a && SeqAt.shaped b)
def kEq2 (neg : Bool) (a : D) (Q : SV → Prop) : Option D → Prop
  | some b => eqOk a b = true ∧ Q (.d (.bool (neg ^^ PyData.eqv a b)))
  | none => False
def kEq1 (neg : Bool) (y : SV) (Q : SV → Prop) : Option D → Prop
  | some a => kEq2 neg a Q y.now?
  | none => False
def gEq (x y : SV) (Q : SV → Prop) : Prop := kEq1 false y Q x.now?
def gNe (x y : SV) (Q : SV → Prop) : Prop := kEq1 true y Q x.now?
theorem kEq_of {neg : Bool} {x y : SV} {Q : SV → Prop} (h : kEq1 neg y Q x.now?) : ∃ a, x.now? = some a ∧ ∃ b, y.now? = some b ∧ eqOk a b = true ∧ Q (.d (.bool (neg ^^ PyData.eqv a b))) := by
  cases e : x.now? with
  | none => rw [e] at h; exact False.elim h
  | some a =>
    rw [e] at h
    have h : kEq2 neg a Q y.now? := h
    cases e2 : y.now? with
    | none => rw [e2] at h; exact False.elim h
    | some b => rw [e2] at h; exact ⟨a, rfl, b, rfl, h⟩
theorem gEq_of {x y : SV} {Q : SV → Prop} (h : gEq x y Q) : ∃ a, x.now? = some a ∧ ∃ b, y.now? = some b ∧ eqOk a b = true ∧ Q (.d (.bool (PyData.eqv a b))) := by
  obtain ⟨a, ea, b, eb, hk, q⟩ := kEq_of h
  rw [Bool.false_xor] at q
  exact ⟨a, ea, b, eb, hk, q⟩
theorem gNe_of {x y : SV} {Q : SV → Prop} (h : gNe x y Q) : ∃ a, x.now? = some a ∧ ∃ b, y.now? = some b ∧ eqOk a b = true ∧ Q (.d (.bool (!PyData.eqv a b))) := by
  obtain ⟨a, ea, b, eb, hk, q⟩ := kEq_of h
  rw [Bool.true_xor] at q
  exact ⟨a, ea, b, eb, hk, q⟩
def flV : D → V
  | .bool b => .bl b
  | .int i => .int i
  | .str s => .str s
  | _ => .non
theorem scal_v {K : PySem.W.Frag} {G : Hp} {a b : D} {v w : V} (h : scalD a b = true) (ra : Rp K G v a) (rb : Rp K G w b) : v = flV a ∧ w = flV b := by
  constructor
  · cases ra <;> first | rfl | (cases b <;> cases h)
  · cases rb <;> first | rfl | (cases a <;> cases h)
theorem scal_f : ∀ a b : D, scalD a b = true → scal (flV a) (flV b) = true ∧ decide (flV a = flV b) = PyData.eqv a b := by
  intro a b h
  cases a <;> cases b <;> first
    | (cases h; done)
    | exact ⟨rfl, dec_int _ _ ▸ by rw [PyData.eqv]⟩
    | exact ⟨rfl, by rw [show ∀ x y, decide (flV (.int x) = flV (.int y)) = decide (V.int x = V.int y) from fun _ _ => rfl, dec_int, PyData.eqv]⟩
    | exact ⟨rfl, by rw [show ∀ x y, decide (flV (.bool x) = flV (.bool y)) = decide (V.bl x = V.bl y) from fun _ _ => rfl, dec_bl, PyData.eqv]⟩
    | exact ⟨rfl, by rw [show ∀ x y, decide (flV (.str x) = flV (.str y)) = decide (V.str x = V.str y) from fun _ _ => rfl, dec_str, PyData.eqv]⟩
    | exact ⟨rfl, by simp [PyData.eqv, flV]⟩
theorem scal_eqv {K : PySem.W.Frag} {G : Hp} {a b : D} {v w : V} (h : scalD a b = true) (ra : Rp K G v a) (rb : Rp K G w b) : scal v w = true ∧ decide (v = w) = PyData.eqv a b := by
  obtain ⟨rfl, rfl⟩ := scal_v h ra rb
  exact scal_f a b h
theorem scal_d : ∀ {a b : D} {x : SV}, scalD a b = true → x.now? = some a → x = .d a := fun {a b x} h e => by
  cases x with
  | d y => cases e; rfl
  | ol ys => cases e; cases b <;> cases h
  | vw ys => cases e; cases b <;> cases h
  | no => cases e
  | raw _ => cases e
theorem scal_d2 : ∀ {a b : D} {x : SV}, scalD a b = true → x.now? = some b → x = .d b := fun {a b x} h e => by
  cases x with
  | d y => cases e; rfl
  | ol ys => cases e; cases a <;> cases h
  | vw ys => cases e; cases a <;> cases h
  | no => cases e
  | raw _ => cases e
section
variable {X : Cx} {B : Bk}
def rEqA (K : PySem.W.Frag) : R2 := fun x y H Q => rEq x y H Q ∨ rEqD K x y H Q
def rNeA (K : PySem.W.Frag) : R2 := fun x y H Q => rNe x y H Q ∨ rNeD K x y H Q
theorem op_eqA (hu : X.A.units + 64 < cLine) : OpR X (compareOp .Eq) (rEqA X.K) := op_eq.or (op_eqD hu)
theorem op_neA (hu : X.A.units + 64 < cLine) : OpR X (compareOp .NotEq) (rNeA X.K) := op_ne.or (op_neD hu)
theorem od_eq (hK : X.K = B.K) : OpD B (rEqA X.K) gEq := fun x y vx vy Ha Hb G F H τ Qv Q k rx ry h fin => by
  rw [hK]
  obtain ⟨a, ea, b, eb, hk, hq⟩ := gEq_of h
  unfold eqOk at hk
  rw [Bool.or_eq_true] at hk
  rcases hk with hk | hk
  · have e1 := scal_d hk ea
    have e2 := scal_d2 hk eb
    subst e1 e2
    obtain ⟨h1, h2⟩ := scal_eqv hk rx ry
    exact .inl ⟨h1, by rw [h2]; exact fin.d k (.bl _) hq⟩
  · rw [Bool.and_eq_true] at hk
    exact .inr ⟨a, b, rx.now k.same ea (SeqAt.canLay_of_shaped hk.1), ry.now k.same eb (SeqAt.canLay_of_shaped hk.2), hk.1, hk.2, fin.d k (.bl _) hq⟩
theorem od_ne (hK : X.K = B.K) : OpD B (rNeA X.K) gNe := fun x y vx vy Ha Hb G F H τ Qv Q k rx ry h fin => by
  rw [hK]
  obtain ⟨a, ea, b, eb, hk, hq⟩ := gNe_of h
  unfold eqOk at hk
  rw [Bool.or_eq_true] at hk
  rcases hk with hk | hk
  · have e1 := scal_d hk ea
    have e2 := scal_d2 hk eb
    subst e1 e2
    obtain ⟨h1, h2⟩ := scal_eqv hk rx ry
    exact .inl ⟨h1, by rw [h2]; exact fin.d k (.bl _) hq⟩
  · rw [Bool.and_eq_true] at hk
    exact .inr ⟨a, b, rx.now k.same ea (SeqAt.canLay_of_shaped hk.1), ry.now k.same eb (SeqAt.canLay_of_shaped hk.2), hk.1, hk.2, fin.d k (.bl _) hq⟩
/-! ### <, <= of ints and texts -/
def strLt (a b : Str) : Bool := decide (a.cps.toList < b.cps.toList)
def gCmp (f : Int → Int → Bool) (g : Str → Str → Bool) (x y : SV) (Q : SV → Prop) : Prop := match x, y with
  | .d (.int i), .d (.int j) => Q (.d (.bool (f i j)))
  | .d (.str a), .d (.str b) => Q (.d (.bool (g a b)))
  | _, _ => False
def rCmpA (f : Int → Int → Bool) (g : Str → Str → Bool) : R2 := fun x y H Q => (rI0 fun i j => .bl (f i j)) x y H Q ∨ ∃ i j, x = .str i ∧ y = .str j ∧ Q (.bl (g i j)) H
theorem od_cmp {f : Int → Int → Bool} {g : Str → Str → Bool} : OpD B (rCmpA f g) (gCmp f g) := fun x y vx vy Ha Hb G F H τ Qv Q k rx ry h fin => by
  unfold gCmp at h
  split at h
  · exact .inl ⟨_, _, rint rx, rint ry, fin.d k (.bl _) h⟩
  · exact .inr ⟨_, _, rstr rx, rstr ry, fin.d k (.bl _) h⟩
  · exact h.elim
theorem op_ltA : OpR X (compareOp .Lt) (rCmpA (fun i j => decide (i < j)) strLt) := op_lt.or op_lt_str
theorem op_leA : OpR X (compareOp .LtE) (rCmpA (fun i j => decide (i ≤ j)) fun a b => !strLt b a) := op_le.or op_le_str
theorem op_gtA : OpR X (compareOp .Gt) (rCmpA (fun i j => decide (j < i)) fun a b => strLt b a) := op_gt.or op_gt_str
/-! ### is None -/
def SV.isN : SV → Option Bool
  | .d .none => some true
  | .no => none
  | _ => some false
theorem isN_ok {K : PySem.W.Frag} {Ha G F H v b} {x : SV} (h : Res K Ha G F H x v) (n : ∀ u, x = .raw u → u ≠ .non) (e : x.isN = some b) : decide (v = .non) = b := by
  cases x with
  | no => exact h.elim
  | raw u =>
    cases e
    have h : v = u := h
    subst h
    exact decide_eq_false (n _ rfl)
  | ol _ =>
    obtain ⟨p, e1, _⟩ := h
    cases e
    subst e1
    rfl
  | vw _ =>
    obtain ⟨p, _, e1, _⟩ := h
    cases e
    subst e1
    rfl
  | d x =>
    have hr : Rp K G v x := h
    clear h
    cases hr <;> (cases e; rfl)
def gIsN (x y : SV) (Q : SV → Prop) : Prop := (∀ u, x = .raw u → u ≠ .non) ∧ y = .d .none ∧ opt x.isN fun b => Q (.d (.bool b))
def gNotN (x y : SV) (Q : SV → Prop) : Prop := (∀ u, x = .raw u → u ≠ .non) ∧ y = .d .none ∧ opt x.isN fun b => Q (.d (.bool (!b)))
theorem od_isN : OpD B (fun x y H Q => y = .non ∧ Q (.bl (decide (x = .non))) H) gIsN := fun x y vx vy Ha Hb G F H τ Qv Q k rx ry h fin => by
  obtain ⟨hn, ey, h⟩ := h
  obtain ⟨b, eb, h⟩ := opt_of h
  subst ey
  exact ⟨rnon ry, by rw [isN_ok rx hn eb]; exact fin.d k (.bl _) h⟩
/-! ### in, not in -/
def flatD : D → Bool
  | .none => true
  | .bool _ => true
  | .int _ => true
  | .str _ => true
  | _ => false
theorem flat_ok {K : PySem.W.Frag} {G : Hp} {a : D} {v : V} (h : flatD a = true) (r : Rp K G v a) : flatV v = true := by
  cases r <;> first | rfl | cases h
theorem flat_v {K : PySem.W.Frag} {G : Hp} {a : D} {v : V} (h : flatD a = true) (r : Rp K G v a) : v = flV a := by
  cases r <;> first | rfl | (cases h)
theorem flat_f : ∀ a b : D, flatD a = true → flatD b = true → eqV (flV a) (flV b) = PyData.eqv a b := by
  intro a b h h2
  cases a <;> first | (cases h; done) | (cases b <;> first | (cases h2; done) | simp [PyData.eqv, eqV, flV])
theorem flat_eqV {K : PySem.W.Frag} {G : Hp} {a b : D} {v w : V} (h : flatD a = true) (h2 : flatD b = true) (ra : Rp K G v a) (rb : Rp K G w b) : eqV v w = PyData.eqv a b := by
  rw [flat_v h ra, flat_v h2 rb]
  exact flat_f a b h h2
theorem flat_all {K : PySem.W.Frag} {G : Hp} : ∀ {xs : List D} {vs : List V}, xs.all flatD = true → RpAll K G vs xs → vs.all flatV = true
  | [], _, _, .nil => rfl
  | x :: xs, _, h, .cons r a => by
    rw [List.all_cons, Bool.and_eq_true] at h ⊢
    exact ⟨flat_ok h.1 r, flat_all h.2 a⟩
theorem flat_any {K : PySem.W.Frag} {G : Hp} {b : D} {w : V} (hb : flatD b = true) (rb : Rp K G w b) : ∀ {xs : List D} {vs : List V}, xs.all flatD = true → RpAll K G vs xs → inV w vs = xs.any fun y => PyData.eqv y b
  | [], _, _, .nil => rfl
  | x :: xs, _, h, .cons r a => by
    rw [List.all_cons, Bool.and_eq_true] at h
    unfold inV
    rw [List.any_cons, List.any_cons, flat_eqV h.1 hb r rb]
    exact congrArg _ (flat_any hb rb h.2 a)
def gIn (neg : Bool) (x y : SV) (Q : SV → Prop) : Prop := (∃ c z, x = .d (.str ⟨#[c]⟩) ∧ y = .d (.str z) ∧ Q (.d (.bool (if neg then !decide (c ∈ z.cps.toList) else decide (c ∈ z.cps.toList))))) ∨
  ∃ a xs, x = .d a ∧ y.seqd? = some xs ∧ flatD a = true ∧ xs.all flatD = true ∧ Q (.d (.bool (if neg then !(xs.any fun y => PyData.eqv y a) else xs.any fun y => PyData.eqv y a)))
def rInA (K : PySem.W.Frag) (neg : Bool) : R2 := fun x y H Q => (∃ (c : Nat) (z : Str), x = .str ⟨#[c]⟩ ∧ y = .str z ∧ Q (.bl (if neg then !decide (c ∈ z.cps.toList) else decide (c ∈ z.cps.toList))) H) ∨ rIn K neg x y H Q
theorem op_inA : OpR X (compareOp .In) (rInA X.K false) := op_in_sign.or op_in_seq
theorem op_notInA : OpR X (compareOp .NotIn) (rInA X.K true) := op_notIn_sign.or op_notIn_seq
theorem od_in (hK : X.K = B.K) {neg : Bool} : OpD B (rInA X.K neg) (gIn neg) := fun x y vx vy Ha Hb G F H τ Qv Q k rx ry h fin => by
  rw [hK]
  rcases h with ⟨c, z, ex, ey, h⟩ | ⟨a, xs, ex, ey, fa, fs, h⟩
  · subst ex ey
    exact .inl ⟨c, z, rstr rx, rstr ry, fin.d k (.bl _) h⟩
  · subst ex
    obtain ⟨p, vs, e1, hs, r⟩ := ry.seqd k.same ey
    refine .inr ⟨p, vs, e1, hs, flat_ok fa rx, flat_all fs r, ?_⟩
    rw [flat_any fa rx fs r]
    exact fin.d k (.bl _) h
end
end Z
namespace Z
open PySem L2
/-! ### items and slices -/
def SV.int? : SV → Option Int
  | .d (.int i) => some i
  | _ => none
def kAtS (Q : SV → Prop) : Option Nat → Prop
  | some c => Q (.d (sg c))
  | none => False
def kAt (Q : SV → Prop) : Option D → Prop
  | some c => Q (.d c)
  | none => False
def kIx3 (i : Int) (Q : SV → Prop) : Option (List D) → Prop
  | some xs => kAt Q (atI xs i)
  | none => False
def kIx2 (x : SV) (i : Int) (Q : SV → Prop) : Prop := match x with
  | .d (.str z) => z.length ≤ sizeLine ∧ kAtS Q (atI z.cps.toList i)
  | x => kIx3 i Q x.seqd?
def gIx (x y : SV) (Q : SV → Prop) : Prop := match y with
  | .d (.int i) => kIx2 x i Q
  | _ => False
theorem gIx_of {x y : SV} {Q : SV → Prop} (h : gIx x y Q) : ∃ i, y = .d (.int i) ∧ kIx2 x i Q := by
  unfold gIx at h
  split at h
  · exact ⟨_, rfl, h⟩
  · exact False.elim h
theorem kIx3_of {i : Int} {Q : SV → Prop} {o : Option (List D)} (h : kIx3 i Q o) : ∃ xs, o = some xs ∧ ∃ d, atI xs i = some d ∧ Q (.d d) := by
  cases o with
  | none => exact False.elim h
  | some xs =>
    have h : kAt Q (atI xs i) := h
    cases e : atI xs i with
    | none => rw [e] at h; exact False.elim h
    | some d => rw [e] at h; exact ⟨xs, rfl, d, e, h⟩
theorem atI_rp {K : PySem.W.Frag} {G : Hp} {vs : List V} {xs : List D} {i : Int} {d : D} (a : RpAll K G vs xs) (e : atI xs i = some d) : ∃ v, atI vs i = some v ∧ Rp K G v d := by
  unfold atI at e ⊢
  rw [a.length]
  cases q : ixN xs.length i with
  | none => rw [q] at e; cases e
  | some j =>
    rw [q] at e
    exact a.getD e
section
variable {X : Cx} {B : Bk} {a b e : Expr} {pos : Pos} {ta tb te : W B.T} {r : R2} {g : SV → SV → (SV → Prop) → Prop}
theorem IxR.or {r r' : R2} (h : IxR X r) (h' : IxR X r') : IxR X (fun x y H Q => r x y H Q ∨ r' x y H Q) := fun value slice pins s σ H x y v u Q I rx ry q hs =>
  q.elim (fun q => h value slice pins s σ H x y v u Q I rx ry q hs) fun q => h' value slice pins s σ H x y v u Q I rx ry q hs
def rIxA (K : PySem.W.Frag) : R2 := fun x y H Q => rIxL K x y H Q ∨ rIxT K x y H Q ∨ rIxS x y H Q
theorem ix_A : IxR X (rIxA X.K) := IxR.or ix_list (IxR.or ix_tup ix_str)
theorem od_ix (hK : X.K = B.K) : OpD B (rIxA X.K) gIx := fun x y vx vy Ha Hb G F H τ Qv Q k rx ry h0 fin => by
  rw [hK]
  obtain ⟨i, ey, h⟩ := gIx_of h0
  clear h0
  subst ey
  have go : kIx3 i Qv x.seqd? → rIxA B.K vx vy H Q := fun h => by
    obtain ⟨xs, ex, d, ed, h⟩ := kIx3_of h
    obtain ⟨p, vs, e1, hs, ra⟩ := rx.seqd k.same ex
    obtain ⟨w, ew, rw'⟩ := atI_rp ra ed
    rcases hs with hs | hs
    · exact .inl ⟨p, vs, i, w, e1, rint ry, hs, ew, fin.d k rw' h⟩
    · exact .inr (.inl ⟨p, vs, i, w, e1, rint ry, hs, ew, fin.d k rw' h⟩)
  unfold kIx2 at h
  split at h
  · obtain ⟨hz, h⟩ := h
    rename_i z
    have h : kAtS Qv (atI z.cps.toList i) := h
    cases ec : atI z.cps.toList i with
    | none => rw [ec] at h; exact False.elim h
    | some c =>
    rw [ec] at h
    exact .inr (.inr ⟨_, i, c, rstr rx, rint ry, hz, ec, fin.d k (.str _) h⟩)
  · exact go h
theorem de_ix (hr : IxR X r) (hd : OpD B r g) (ha : PE X a (lift B ta)) (hb : PE X b (lift B tb)) (hs : PlainIx b) : PE X (.Subscript a b pos) (lift B (dOp g ta tb)) := pe_imp (pe_ix hr ha hb hs) (lift_op hd)
abbrev WO (T : Type) := List SV → T → (Option Int → T → Prop) → Prop
def liftO (B : Bk) (t : WO B.T) : TO := fun σ H Q => ∃ G F env τ Qd, StR B G F σ H env τ ∧ t env τ Qd ∧ ∀ o τ' G' F' H', Fin B G F H τ' G' F' H' → Qd o τ' → Q o H'
def dNoPart {T : Type} : WO T := fun _ τ Q => Q none τ
def kPtB {T : Type} (Q : Option Int → T → Prop) (τ : T) : Option Int → Prop
  | some i => Q (some i) τ
  | none => False
def kPt {T : Type} (Q : Option Int → T → Prop) (x : SV) (τ : T) : Prop := kPtB Q τ x.int?
theorem kPt_of {T : Type} {Q : Option Int → T → Prop} {x : SV} {τ : T} (h : kPt Q x τ) : ∃ i, x = .d (.int i) ∧ Q (some i) τ := by
  unfold kPt SV.int? at h
  split at h
  · exact ⟨_, rfl, h⟩
  · exact False.elim h
def dPart {T : Type} (te : W T) : WO T := fun env τ Q => te env τ (kPt Q)
theorem po_imp {e : Option Expr} {t t' : TO} (h : PO X e t) (i : ∀ σ H Q, t' σ H Q → t σ H Q) : PO X e t' := ⟨fun pins s σ H Q I z => h.run pins s σ H Q I (i σ H Q z)⟩
theorem do_none : PO X none (liftO B dNoPart) := po_imp po_none fun σ H Q z9 => ex53 z9 fun G F env τ Qd s t k => k none τ G F H s.refl t
theorem do_some (h : PE X e (lift B te)) : PO X (some e) (liftO B (dPart te)) := po_imp (po_some h) fun σ H Q z9 => ex53 z9 fun G F env τ Qd s t k => ⟨G, F, env, τ, _, s, t, fun r τ1 G1 F1 H1 v f1 r1 q0 => by
  obtain ⟨i, e, q⟩ := kPt_of q0
  subst e
  exact ⟨i, rint r1, k _ τ1 G1 F1 H1 f1 q⟩⟩
def cutL {α : Type} (xs : List α) (lo hi : Option Int) : List α := (xs.drop (HT.sIx xs.length 0 lo)).take (HT.sIx xs.length xs.length hi - HT.sIx xs.length 0 lo)
theorem RpAll.cut {K : PySem.W.Frag} {G : Hp} {vs : List V} {xs : List D} (a : RpAll K G vs xs) (lo hi : Option Int) : RpAll K G (cutV vs lo hi) (cutL xs lo hi) := by
  unfold cutV cutL
  rw [a.length]
  exact (a.drop _).take _
def gSl (x : SV) (lo hi : Option Int) (Q : SV → Prop) : Prop := match x with
  | .d (.str z) => z.length ≤ sizeLine ∧ Q (.d (.str (cutS z lo hi)))
  | .d (.tuple xs) => Q (.d (.tuple (cutL xs lo hi)))
  | x => opt x.lst? fun xs => Q (.ol (cutL xs lo hi))
def dSl {T : Type} (te : W T) (tl th : WO T) : W T := fun env τ Q => te env τ fun x τ1 => tl env τ1 fun lo τ2 => th env τ2 fun hi τ3 => gSl x lo hi fun z => Q z τ3
def rSlAll (K : PySem.W.Frag) : V → Option Int → Option Int → Hp → VK → Prop := fun x lo hi H Q => rSlS x lo hi H Q ∨ rSlA K x lo hi H Q ∨ rSlL K x lo hi H Q
theorem sl_A : SlR X (rSlAll X.K) := SlR.or sl_str (SlR.or sl_tupA sl_list)
theorem cut_whole {α : Type} {xs : List α} {lo hi : Option Int} (h : HT.sIx xs.length 0 lo = 0 ∧ HT.sIx xs.length xs.length hi = xs.length) : cutL xs lo hi = xs := by
  unfold cutL
  rw [h.1, h.2, List.drop_zero, Nat.sub_zero, List.take_length]
theorem de_slice {lo hi : Option Expr} {tl th : WO B.T} {p2 : Pos} (hK : X.K = B.K) (he : PE X e (lift B te)) (hl : PO X lo (liftO B tl)) (hu : PO X hi (liftO B th)) : PE X (.Subscript e (.Slice lo hi none p2) pos) (lift B (dSl te tl th)) :=
  pe_imp (pe_slice sl_A he hl hu) fun σ H Q z9 => ex53 z9 fun G F env τ Qd s t k => ⟨G, F, env, τ, _, s, t, fun x τ1 G1 F1 H1 v f1 r1 q1 => ⟨G1, F1, env, τ1, _, s.fin f1, q1, fun l τ2 G2 F2 H2 f2 q2 =>
    ⟨G2, F2, env, τ2, _, s.fin (f1.trans f2), q2, fun u τ3 G3 F3 H3 f3 q3 => by
      have f13 := f1.trans (f2.trans f3)
      have r3 := r1.step (f2.trans f3).s
      have fin := FinT.trans k f13
      show rSlAll X.K v l u H3 Q
      rw [hK]
      unfold gSl at q3
      split at q3
      · exact .inl ⟨_, rstr r3, q3.1, fin.d f13.k (.str _) q3.2⟩
      · obtain ⟨p, vs, e1, h, a⟩ := rtup r3
        refine .inr (.inl ⟨p, vs, e1, same_seqT f13.k.same h, fun w => ?_, fun w p' hp => ?_⟩)
        · rw [a.length] at w
          rw [cut_whole w] at q3
          exact fin.d f13.k (.tup h a) q3
        · exact fin.tup f13.k hp (a.cut l u) q3
      · obtain ⟨xs, ex, q3⟩ := opt_of q3
        obtain ⟨p, vs, e1, h, a⟩ := r3.sql f13.k.same ex
        exact .inr (.inr ⟨p, vs, e1, h.sql, fun p' hp => fin.ol f13.k hp (a.cut l u) q3⟩)⟩⟩⟩
end
/-! ### built-ins -/
section
variable {X : Cx} {B : Bk}
theorem ResAll.one {K : PySem.W.Frag} {Ha G F H} {x : SV} {vs : List V} (r : ResAll K Ha G F H [x] vs) : ∃ v, vs = [v] ∧ Res K Ha G F H x v := by
  cases r with
  | cons r t =>
    cases t
    exact ⟨_, rfl, r⟩
theorem ResAll.two {K : PySem.W.Frag} {Ha G F H} {x y : SV} {vs : List V} (r : ResAll K Ha G F H [x, y] vs) : ∃ v w, vs = [v, w] ∧ Res K Ha G F H x v ∧ Res K Ha G F H y w := by
  cases r with
  | cons r t =>
    cases t with
    | cons r2 t =>
      cases t
      exact ⟨_, _, rfl, r, r2⟩
def SV.size? : SV → Option Nat
  | .d (.str z) => if z.length ≤ sizeLine then some z.length else none
  | x => x.seqd?.map List.length
def gLen (rs : List SV) (Q : SV → Prop) : Prop := match rs with
  | [x] => opt x.size? fun n => Q (.d (.int n))
  | _ => False
theorem cd_len (hK : X.K = B.K) : CallD B (fun xs H Q => ∃ x n, xs = [x] ∧ LenV X.K x H n ∧ Q (.int n) H) gLen := fun rs vs Ha G F H τ Qv Q k r h fin => by
  unfold gLen at h
  split at h
  · rename_i x
    obtain ⟨n, en, h⟩ := opt_of h
    obtain ⟨v, rfl, rx⟩ := r.one
    refine ⟨v, n, rfl, ?_, fin.d k (.int _) h⟩
    rw [hK]
    have viaS : x.seqd?.map List.length = some n → LenV B.K v H n := fun e => by
      cases q : x.seqd? with
      | none => rw [q] at e; cases e
      | some xs =>
        rw [q] at e
        cases e
        obtain ⟨p, ws, e1, hs, a⟩ := rx.seqd k.same q
        subst e1
        rcases hs with hs | hs
        · exact .inl ⟨ws, hs, a.length.symm⟩
        · exact .inr ⟨ws, hs, a.length.symm⟩
    unfold SV.size? at en
    split at en
    · rename_i z
      rw [rstr rx]
      split at en
      · rename_i hz
        cases en
        exact ⟨hz, rfl⟩
      · cases en
    · exact viaS en
  · exact h.elim
/-- the type of data -/
def tyN : D → String
  | .none => "NoneType"
  | .bool _ => "bool"
  | .int _ => "int"
  | .str _ => "str"
  | .list _ => "list"
  | .tuple _ => "tuple"
  | .dict _ => "dict"
def isT (a c : String) : Bool := a == c || (a == "bool" && c == "int")
def SV.tyN : SV → Option String
  | .d .none => some "NoneType"
  | .d (.bool _) => some "bool"
  | .d (.int _) => some "int"
  | .d (.str _) => some "str"
  | .d (.list _) => some "list"
  | .d (.tuple _) => some "tuple"
  | .d (.dict []) => some "dict"
  | .ol _ => some "list"
  | .vw _ => some "list"
  | _ => none
def tyNames : List String := ["NoneType", "bool", "int", "str", "list", "tuple", "dict"]
theorem tyX_ok {K : PySem.W.Frag} {Ha G F H v n} (sm : Same G H) {x : SV} (h : Res K Ha G F H x v) (e : x.tyN = some n) : n ∈ tyNames ∧ TyX K H v (.type n) := by
  cases x with
  | no => exact h.elim
  | raw _ => cases e
  | ol _ =>
    obtain ⟨p, e1, w⟩ := h
    cases e
    subst e1
    obtain ⟨vs, e2, _⟩ := w.at'
    exact ⟨by decide, .base (.lst e2)⟩
  | vw _ =>
    obtain ⟨p, vs, e1, e2, _⟩ := h
    cases e
    subst e1
    exact ⟨by decide, .base (.lst e2)⟩
  | d x =>
    have hr : Rp K G v x := h
    clear h
    cases hr with
    | non => cases e; exact ⟨by decide, .base .non⟩
    | bl _ => cases e; exact ⟨by decide, .base (.bl _)⟩
    | int _ => cases e; exact ⟨by decide, .base (.int _)⟩
    | str _ => cases e; exact ⟨by decide, .base (.str _)⟩
    | emp h => cases e; exact ⟨by decide, .base (.dK (sm _ _ h))⟩
    | lst h _ =>
      cases e
      refine ⟨by decide, ?_⟩
      rcases same_sqp sm h with (h | ⟨o, h⟩) | ⟨its, h, _⟩
      · exact .base (.lst h)
      · exact .base (.frz h)
      · exact .kList h rfl
    | tup h _ =>
      cases e
      refine ⟨by decide, ?_⟩
      rcases same_seqT sm h with (h | ⟨o, h⟩) | ⟨o, its, n, h, hc, _⟩
      · exact .base (.tup h)
      · exact .fTuple h
      · exact .kTuple h hc
    | _ => cases e
theorem kit_all : (tyNames.all fun a => tyNames.all fun c => decide (kitB a c = some (isT a c))) = true := by decide +kernel
def gIsi (rs : List SV) (Q : SV → Prop) : Prop := match rs with
  | [x, .raw (.ty c)] => tyNames.contains c = true ∧ opt x.tyN fun n => Q (.d (.bool (isT n c)))
  | _ => False
theorem cd_isi (hK : X.K = B.K) : CallD B (rIsi X.K) gIsi := fun rs vs Ha G F H τ Qv Q k r h fin => by
  unfold gIsi at h
  split at h
  · obtain ⟨hc, h⟩ := h
    obtain ⟨n, en, h⟩ := opt_of h
    obtain ⟨v, w, rfl, rx, ry⟩ := r.two
    have ry : w = .ty _ := ry
    subst ry
    obtain ⟨hn, ty⟩ := tyX_ok k.same rx en
    have z := List.all_eq_true.mp (List.all_eq_true.mp kit_all n hn) _ (List.contains_iff_mem.mp hc)
    rw [hK]
    exact ⟨v, _, _, _, _, rfl, .ty _, ty, kit_ty (of_decide_eq_true z), fin.d k (.bl _) h⟩
  · exact h.elim
/-- data that are truths -/
def bools? : List D → Option (List Bool)
  | [] => some []
  | .bool b :: r => (bools? r).map (b :: ·)
  | _ :: _ => none
theorem bools_ok0 : ∀ {xs : List D} {bs : List Bool}, bools? xs = some bs → xs = bs.map PyData.bool := fun {xs} => by
  induction xs with
  | nil => intro bs e; cases e; rfl
  | cons x r ih =>
    intro bs e
    cases x with
    | bool b =>
      cases q : bools? r with
      | none => rw [bools?, q] at e; cases e
      | some cs => rw [bools?, q] at e; cases e; rw [ih q]; rfl
    | _ => cases e
theorem bools_ok1 {K : PySem.W.Frag} {G : Hp} : ∀ (bs : List Bool) {vs : List V}, RpAll K G vs (bs.map PyData.bool) → vs = bs.map V.bl
  | [], _, h => by cases h; rfl
  | b :: r, _, h => by
    cases h with
    | cons h1 t1 =>
      cases h1
      rw [bools_ok1 r t1]
      rfl
theorem bools_ok {K : PySem.W.Frag} {G : Hp} {xs : List D} {vs : List V} {bs : List Bool} (h : RpAll K G vs xs) (e : bools? xs = some bs) : vs = bs.map V.bl := by
  rw [bools_ok0 e] at h
  exact bools_ok1 bs h
def ints? : List D → Option (List Int)
  | [] => some []
  | .int b :: r => (ints? r).map (b :: ·)
  | _ :: _ => none
theorem ints_ok0 : ∀ {xs : List D} {bs : List Int}, ints? xs = some bs → xs = bs.map PyData.int := fun {xs} => by
  induction xs with
  | nil => intro bs e; cases e; rfl
  | cons x r ih =>
    intro bs e
    cases x with
    | int b =>
      cases q : ints? r with
      | none => rw [ints?, q] at e; cases e
      | some cs => rw [ints?, q] at e; cases e; rw [ih q]; rfl
    | _ => cases e
theorem ints_ok1 {K : PySem.W.Frag} {G : Hp} : ∀ (bs : List Int) {vs : List V}, RpAll K G vs (bs.map PyData.int) → vs = bs.map V.int
  | [], _, h => by cases h; rfl
  | b :: r, _, h => by
    cases h with
    | cons h1 t1 =>
      cases h1
      rw [ints_ok1 r t1]
      rfl
theorem ints_ok {K : PySem.W.Frag} {G : Hp} {xs : List D} {vs : List V} {bs : List Int} (h : RpAll K G vs xs) (e : ints? xs = some bs) : vs = bs.map V.int := by
  rw [ints_ok0 e] at h
  exact ints_ok1 bs h
def strs? : List D → Option (List Str)
  | [] => some []
  | .str b :: r => (strs? r).map (b :: ·)
  | _ :: _ => none
theorem strs_ok0 : ∀ {xs : List D} {bs : List Str}, strs? xs = some bs → xs = bs.map PyData.str := fun {xs} => by
  induction xs with
  | nil => intro bs e; cases e; rfl
  | cons x r ih =>
    intro bs e
    cases x with
    | str b =>
      cases q : strs? r with
      | none => rw [strs?, q] at e; cases e
      | some cs => rw [strs?, q] at e; cases e; rw [ih q]; rfl
    | _ => cases e
theorem strs_ok1 {K : PySem.W.Frag} {G : Hp} : ∀ (bs : List Str) {vs : List V}, RpAll K G vs (bs.map PyData.str) → vs = bs.map V.str
  | [], _, h => by cases h; rfl
  | b :: r, _, h => by
    cases h with
    | cons h1 t1 =>
      cases h1
      rw [strs_ok1 r t1]
      rfl
theorem strs_ok {K : PySem.W.Frag} {G : Hp} {xs : List D} {vs : List V} {bs : List Str} (h : RpAll K G vs xs) (e : strs? xs = some bs) : vs = bs.map V.str := by
  rw [strs_ok0 e] at h
  exact strs_ok1 bs h
theorem bools_map (bs : List Bool) : bools? (bs.map PyData.bool) = some bs := by
  induction bs with
  | nil => rfl
  | cons b r ih => rw [List.map_cons, bools?, ih]; rfl
theorem ints_map (bs : List Int) : ints? (bs.map PyData.int) = some bs := by
  induction bs with
  | nil => rfl
  | cons b r ih => rw [List.map_cons, ints?, ih]; rfl
theorem strs_map (bs : List Str) : strs? (bs.map PyData.str) = some bs := by
  induction bs with
  | nil => rfl
  | cons b r ih => rw [List.map_cons, strs?, ih]; rfl
def gAll (rs : List SV) (Q : SV → Prop) : Prop := match rs with
  | [x] => opt (x.lst?.bind bools?) fun bs => Q (.d (.bool (bs.all id)))
  | _ => False
def gAny (rs : List SV) (Q : SV → Prop) : Prop := match rs with
  | [x] => opt (x.lst?.bind bools?) fun bs => Q (.d (.bool (bs.any id)))
  | _ => False
theorem bind_of {α β : Type} {o : Option α} {f : α → Option β} {b : β} (h : o.bind f = some b) : ∃ a, o = some a ∧ f a = some b := by
  cases o with
  | none => cases h
  | some a => exact ⟨a, rfl, h⟩
theorem cd_all (hK : X.K = B.K) : CallD B (rAll X.K) gAll := fun rs vs Ha G F H τ Qv Q k r h fin => by
  unfold gAll at h
  split at h
  · obtain ⟨bs, eb, h⟩ := opt_of h
    obtain ⟨xs, ex, eb⟩ := bind_of eb
    obtain ⟨v, rfl, rx⟩ := r.one
    obtain ⟨p, ws, e1, hs, a⟩ := rx.sql k.same ex
    have e2 := bools_ok a eb
    subst e2
    rw [hK]
    exact ⟨p, bs, by rw [e1], hs.sql, fin.d k (.bl _) h⟩
  · exact h.elim
/-- int(x) of an int, a truth, a text that is a number -/
theorem CallR.or {f : Value} {r r' : List V → Hp → VK → Prop} (h : CallR X f r) (h' : CallR X f r') : CallR X f (fun xs H Q => r xs H Q ∨ r' xs H Q) := fun pins s σ H xs us Q I rr q =>
  q.elim (fun q => h pins s σ H xs us Q I rr q) fun q => h' pins s σ H xs us Q I rr q
def rInt : List V → Hp → VK → Prop := fun xs H Q => ((∃ i, xs = [.int i] ∧ Q (.int i) H) ∨ ∃ k, xs = [.bl k] ∧ Q (.int (if k then 1 else 0)) H) ∨ ∃ a n, xs = [.str a] ∧ PySem.intText? a = some n ∧ a.length ≤ 640 ∧ Q (.int n) H
theorem call_intA : CallR X (.type "int") rInt := CallR.or call_int1 call_int_str
def gInt (rs : List SV) (Q : SV → Prop) : Prop := match rs with
  | [.d (.int i)] => Q (.d (.int i))
  | [.d (.bool k)] => Q (.d (.int (if k then 1 else 0)))
  | [.d (.str a)] => ∃ n, PySem.intText? a = some n ∧ a.length ≤ 640 ∧ Q (.d (.int n))
  | _ => False
theorem cd_int : CallD B rInt gInt := fun rs vs Ha G F H τ Qv Q k r h fin => by
  unfold gInt at h
  split at h
  · obtain ⟨v, rfl, rx⟩ := r.one
    exact .inl (.inl ⟨_, by rw [rint rx], fin.d k (.int _) h⟩)
  · obtain ⟨v, rfl, rx⟩ := r.one
    exact .inl (.inr ⟨_, by rw [rbl rx], fin.d k (.int _) h⟩)
  · obtain ⟨n, e1, e2, h⟩ := h
    obtain ⟨v, rfl, rx⟩ := r.one
    exact .inr ⟨_, n, by rw [rstr rx], e1, e2, fin.d k (.int _) h⟩
  · exact h.elim
def gII (f : Int → Int → Int) (rs : List SV) (Q : SV → Prop) : Prop := match rs with
  | [.d (.int i), .d (.int j)] => Q (.d (.int (f i j)))
  | _ => False
theorem cd_II {f : Int → Int → Int} : CallD B (fun xs H Q => ∃ i j, xs = [.int i, .int j] ∧ Q (.int (f i j)) H) (gII f) := fun rs vs Ha G F H τ Qv Q k r h fin => by
  unfold gII at h
  split at h
  · obtain ⟨v, w, rfl, rx, ry⟩ := r.two
    exact ⟨_, _, by rw [rint rx, rint ry], fin.d k (.int _) h⟩
  · exact h.elim
end
end Z
namespace Z
open PySem L2
/-! ### known defs -/
structure Known (P : Program) (w : World) (K : PySem.W.Frag) (mg : Str → Option Value) (base : Heap) (S : Sto) (x : Str) (ps : List Str) (k : Nat) (FF : FW S.T) : Prop where
  ex : ∃ f fd, FnOk P w K mg base CX0 k f fd ps (spD S K FF) ∧ mg x = some (.ref f) ∧ PySem.W.keepIn K (.ref f) = true ∧ Binds K fd ps []
section
variable {X : Cx} {B : Bk} {e : Expr} {es : List Expr} {pos p : Pos} {ta : WA B.T} {FF : FW B.S.T} {ps : List Str} {k : Nat} {x : Str} {te : W B.T}
theorem de_callK (hK : X.K = B.K) (h : Known X.prog X.w X.K X.mg X.base B.S x ps k FF) (hr : Room k X.A) (hg : Gl X x)
    (ha : PA X (e :: es) (liftA B ta)) (hdb : (x == ("__debug__" : Str)) = false := by decide) (he : starEach (e :: es) X.env = (false, eval e X.env) :: starEach es X.env := by rfl) (hpl : (backTo pos (starEach es X.env)).any (·.1) = false := by rfl) :
    PE X (.Call (.Name x p) (e :: es) [] pos) (lift B (dCall FF ta)) := by
  obtain ⟨f, fd, F, hm, hk, hb⟩ := h.ex
  rw [hK] at F
  exact de_call hK (by rw [hK]; exact F) hr hg hm hk hb ha hdb he hpl
/-- a built-in type as a value -/
theorem de_ty {n : String} (hg : Gl X x) (hm : X.mg x = none) (hv : bootBuiltins x = some (.type n)) (hn : x ≠ "__name__" := by decide) (hd : (x == ("__debug__" : Str)) = false := by decide) : PE X (.Name x p) (lift B (dRaw (.ty n))) :=
  de_raw (pe_bltn hg hm hv rfl hn hd)
/-- a constant of the module -/
theorem de_gint {i : Int} (hg : Gl X x) (hm : ∃ t, X.mg x = some (.int i t)) (hd : (x == ("__debug__" : Str)) = false := by decide) : PE X (.Name x p) (lift B (dC (.int i))) := by
  obtain ⟨t, hm⟩ := hm
  exact de_c (pe_glob (v := .int i) hg hm ⟨t, rfl⟩ hd) fun _ => .int i
theorem de_gstr {z : Str} (hg : Gl X x) (hm : ∃ t, X.mg x = some (.str z t)) (hd : (x == ("__debug__" : Str)) = false := by decide) : PE X (.Name x p) (lift B (dC (.str z))) := by
  obtain ⟨t, hm⟩ := hm
  exact de_c (pe_glob (v := .str z) hg hm ⟨t, rfl⟩ hd) fun _ => .str z
/-- data of the module -/
def GData (mg : Str → Option Value) (K : PySem.W.Frag) (x : Str) (d : D) : Prop := ∃ v u, mg x = some u ∧ RelV v u ∧ ∀ G, Rp K G v d
theorem de_gdat {d : D} (hK : X.K = B.K) (hg : Gl X x) (hm : GData X.mg X.K x d) (hd : (x == ("__debug__" : Str)) = false := by decide) : PE X (.Name x p) (lift B (dC d)) := by
  obtain ⟨v, u, hm, r, h⟩ := hm
  rw [hK] at h
  exact de_c (pe_glob hg hm r hd) h
/-- -a -/
def gNeg (x : SV) (Q : SV → Prop) : Prop := match x with
  | .d (.int i) => Q (.d (.int (-i)))
  | _ => False
def dUn {T : Type} (g : SV → (SV → Prop) → Prop) (ta : W T) : W T := fun env τ Q => ta env τ fun x τ1 => g x fun z => Q z τ1
theorem de_neg (ha : PE X e (lift B te)) : PE X (.UnaryOp .USub e pos) (lift B (dUn gNeg te)) := pe_imp (pe_un un_neg ha) fun σ H Q z9 => ex53 z9 fun G F env τ Qd s t k => ⟨G, F, env, τ, _, s, t, fun x τ1 G1 F1 H1 v f1 r1 q => by
  unfold gNeg at q
  split at q
  · exact ⟨_, rint r1, (FinT.trans k f1).d f1.k (.int _) q⟩
  · exact q.elim⟩
/-- {} -/
def dEmp {T : Type} : W T := fun _ τ Q => Q (.d (.dict [])) τ
theorem de_emp : PE X (.Dict [] [] pos) (lift B dEmp) := pe_imp pe_dnewK fun σ H Q z9 => ex53 z9 fun G F env τ Qd s t k => fun d hd =>
  k (.d (.dict [])) τ (upd G d (.dK [])) F (upd H d (.dK [])) (.ref d) ⟨Step.new hd s.k.same s.k.fh, s.k.new hd⟩ (Rp.emp upd_same) t
/-- sep.join(texts) -/
def gJoin (x y : SV) (Q : SV → Prop) : Prop := ∃ a, x = .d (.str a) ∧ opt (y.seqd?.bind strs?) fun ys => (ys.map (·.length)).sum + ys.length * a.length ≤ 16777216 ∧ Q (.d (.str (Txt.join a ys)))
def dM1 {T : Type} (g : SV → SV → (SV → Prop) → Prop) (to te : W T) : W T := fun env τ Q => to env τ fun x τ1 => (∃ a, x = .d (.str a)) ∧ te env τ1 fun y τ2 => g x y fun z => Q z τ2
theorem de_m1 {r : V → List V → Hp → VK → Prop} {g : SV → SV → (SV → Prop) → Prop} {to : W B.T} (h : PE X e (tM1 r (lift B to) (lift B te))) (hd : OpD B (fun x y H Q => r x [y] H Q) g) : PE X e (lift B (dM1 g to te)) :=
  pe_imp h fun σ H Q z9 => ex53 z9 fun G F env τ Qd s t k => ⟨G, F, env, τ, _, s, t, fun x τ1 G1 F1 H1 vx f1 r1 ⟨⟨a, ea⟩, q1⟩ => ⟨by
      subst ea
      exact ⟨a, rstr r1⟩, G1, F1, env, τ1, _, s.fin f1, q1, fun y τ2 G2 F2 H2 vy f2 r2 q2 =>
      hd x y vx vy _ _ G2 F2 H2 τ2 _ _ f2.k (r1.step f2.s) r2 q2 fun z G3 F3 H3 v f3 r3 q3 => k z τ2 G3 F3 H3 v (f1.trans (f2.trans f3)) (r3.back (dead (f1.trans f2).s.dom)) q3⟩⟩
theorem od_join (hK : X.K = B.K) : OpD B (fun x y H Q => ∃ a p, ∃ ys : List Str, x = .str a ∧ [y] = [.ref p] ∧ (SqL X.K H p (ys.map V.str) ∨ SqT X.K H p (ys.map V.str)) ∧ (ys.map (·.length)).sum + ys.length * a.length ≤ 16777216 ∧ Q (.str (Txt.join a ys)) H) gJoin :=
  fun x y vx vy Ha Hb G F H τ Qv Q k rx ry h fin => by
    obtain ⟨a, ex, h⟩ := h
    obtain ⟨ys, ey, hz, h⟩ := opt_of h
    obtain ⟨xs, e1, e2⟩ := bind_of ey
    subst ex
    obtain ⟨p, vs, e3, hs, ra⟩ := ry.seqd k.same e1
    have e4 := strs_ok ra e2
    subst e4
    rw [hK]
    exact ⟨a, p, ys, rstr rx, by rw [e3], hs, hz, fin.d k (.str _) h⟩
/-- text.index(sign) -/
def gSIndex (x y : SV) (Q : SV → Prop) : Prop := ∃ a b i rest, x = .d (.str a) ∧ y = .d (.str b) ∧ Builtin.Str.occurrences a b 0 a.length 1 = i :: rest ∧ Q (.d (.int (i : Nat)))
/-- text * n, n from 2 on -/
def strRep (x : Str) (n : Nat) : Str := ⟨(List.replicate n x.cps).foldl (· ++ ·) #[]⟩
def gMulS (x y : SV) (Q : SV → Prop) : Prop := ∃ a n, x = .d (.str a) ∧ y = .d (.int n) ∧ (2 ≤ n ∧ n ≤ 100000 ∧ 0 < a.length ∧ a.length ≤ 100) ∧ (strRep a n.toNat).length ≤ sizeLine ∧ Q (.d (.str (strRep a n.toNat)))
def rMulS : R2 := fun x y H Q => ∃ a n, x = .str a ∧ y = .int n ∧ (2 ≤ n ∧ n ≤ 100000 ∧ 0 < a.length ∧ a.length ≤ 100) ∧ (strRep a n.toNat).length ≤ sizeLine ∧ Q (.str (strRep a n.toNat)) H
theorem op_mulS : OpR X (binaryOp .Mult) rMulS := by
  intro pins s σ H x y v u Q I rx ry h
  obtain ⟨a, n, rfl, rfl, ⟨h1, h2, h3, h4⟩, h5, q⟩ := h
  obtain ⟨t, rfl⟩ := rx
  obtain ⟨t', rfl⟩ := ry
  have hn : ¬ n < 1 := by omega
  have hb : (n == 1 || a.length == 0) = false := by
    rw [Bool.or_eq_false_iff]
    exact ⟨beq_eq_false_iff_ne.mpr (by omega), beq_eq_false_iff_ne.mpr (by omega)⟩
  refine PySem.P.mul_str ?_ (fun _ _ => ?_) (fun _ _ => ?_) ?_
  · rw [decide_eq_false (by omega), decide_eq_false (by omega)]
    rfl
  · have : (100 : Int) ≤ (2 ^ 63 - 1) / n := by
      refine Int.le_ediv_of_mul_le (by omega) ?_
      omega
    omega
  · unfold Builtin.Str.tooLong
    have : a.length * n.toNat ≤ 100 * 100000 := Nat.mul_le_mul h4 (by omega)
    have hl : sizeLine = 16777216 := sizeLine_eq
    exact decide_eq_false (by omega)
  · rw [if_neg hn, hb]
    exact ⟨h5, .str _, H, I.tok _, ⟨_, rfl⟩, q⟩
theorem od_mulS : OpD B rMulS gMulS := fun x y vx vy Ha Hb G F H τ Qv Q k rx ry h fin => by
  obtain ⟨a, n, ex, ey, h1, h2, h⟩ := h
  subst ex ey
  exact ⟨a, n, rstr rx, rint ry, h1, h2, fin.d k (.str _) h⟩
def gMul (x y : SV) (Q : SV → Prop) : Prop := gI CMul (fun i j => .int (i * j)) x y Q ∨ gMulS x y Q
theorem op_mulA : OpR X (binaryOp .Mult) (fun x y H Q => (rI CMul fun i j => .int (i * j)) x y H Q ∨ rMulS x y H Q) := op_mul.or op_mulS
theorem od_mul : OpD B (fun x y H Q => (rI CMul fun i j => .int (i * j)) x y H Q ∨ rMulS x y H Q) gMul := od_I.or od_mulS
end
end Z
namespace Z
open PySem L2
/-! ### what is drawn by: a dict that the law's own defs share -/
inductive DrT where
  | off
  | on (a : Addr) (b : Nat)
def drK (c : Addr) (i l u : Int) : List (Key × V) := [(Sum.inr ("cells" : Str), V.ref c), (Sum.inr ("at" : Str), V.int i), (Sum.inr ("left" : Str), V.int l), (Sum.inr ("used" : Str), V.int u)]
structure DrAt (K : PySem.W.Frag) (G H : Hp) (a : Addr) (b : Nat) : Prop where
  ex : ∃ (c : Addr) (cs : List Int) (i l u : Int), H a = some (.dK (drK c i l u)) ∧ SqP K G c (cs.map V.int) ∧ cs ≠ [] ∧ (0 ≤ i ∧ 0 ≤ u ∧ i + b ≤ 1152921504606846976 ∧ u + b ≤ 1152921504606846976)
def drR (K : PySem.W.Frag) (t : DrT) (G : Hp) (F : Addr → Prop) (H : Hp) : Prop := match t with
  | .off => ∀ a, ¬ F a
  | .on a b => (∀ p, F p ↔ p = a) ∧ DrAt K G H a b
def theS (Ts : List Addr) : Sto where
  T := DrT
  tb := fun a => a ∈ Ts
  R := drR
  st := fun {K t G G' F H H'} r sm e => by
    cases t with
    | off => exact r
    | on a b =>
      obtain ⟨hF, c, cs, i, l, u, h1, h2, h3, h4⟩ := r
      exact ⟨hF, ⟨c, cs, i, l, u, by rw [e a ((hF a).mpr rfl)]; exact h1, same_sqp sm h2, h3, h4⟩⟩
theorem kne1 : ¬ ("cells" : Str) = "at" := by decide +kernel
theorem kne2 : ¬ ("cells" : Str) = "left" := by decide +kernel
theorem kne3 : ¬ ("cells" : Str) = "used" := by decide +kernel
theorem kne4 : ¬ ("at" : Str) = "left" := by decide +kernel
theorem kne5 : ¬ ("at" : Str) = "used" := by decide +kernel
theorem kne6 : ¬ ("left" : Str) = "used" := by decide +kernel
section
variable {c : Addr} {i l u z : Int} {v : V}
theorem dr_cells : valV (drK c i l u) (Sum.inr ("cells" : Str)) = some (.ref c) := by simp [drK, valV]
theorem dr_at : valV (drK c i l u) (Sum.inr ("at" : Str)) = some (.int i) := by simp [drK, valV, kne1]
theorem dr_left : valV (drK c i l u) (Sum.inr ("left" : Str)) = some (.int l) := by simp [drK, valV, kne2, kne4]
theorem dr_used : valV (drK c i l u) (Sum.inr ("used" : Str)) = some (.int u) := by simp [drK, valV, kne3, kne5, kne6]
theorem dr_pat : putK (drK c i l u) (Sum.inr ("at" : Str)) (.int z) = drK c z l u := by simp [drK, putK, kne1, Ne.symm kne4, Ne.symm kne5]
theorem dr_pleft : putK (drK c i l u) (Sum.inr ("left" : Str)) (.int z) = drK c i z u := by simp [drK, putK, kne2, kne4, Ne.symm kne6]
theorem dr_pused : putK (drK c i l u) (Sum.inr ("used" : Str)) (.int z) = drK c i l z := by simp [drK, putK, kne3, kne5, kne6]
theorem dr_new : mergeK [] (drK c i l u) = drK c i l u := by
  simp [drK, mergeK, putK, kne1, kne2, kne3, kne4, kne5, kne6]
theorem dr_len : (drK c i l u).length = 4 := rfl
end
def FF__law_begin : FW DrT := fun rs τ Q => ∃ ns : List Int, rs = [.d (.list (ns.map PyData.int))] ∧ ns.length ≤ 63 ∧ τ = .off ∧ ∀ a, Q (.raw (.ref a)) (.on a 1152921504606846976)
def FF__law_mixed : FW DrT := fun rs τ Q => ∃ c k : Int, rs = [.d (.int c), .d (.int k)] ∧ (0 ≤ k ∧ k ≤ 1152921504606846976) ∧ ∀ r : Int, 0 ≤ r → Q (.d (.int r)) τ
def FF__law_next : FW DrT := fun rs τ Q => ∃ (a : Addr) (b : Nat) (n : Int), rs = [.raw (.ref a), .d (.int n)] ∧ τ = .on a (b + 1) ∧ (0 < n ∧ n < 1073741824) ∧ ∀ r : Int, 0 ≤ r → r < n → Q (.d (.int r)) (.on a b)
/-- a state of what is drawn by is another one -/
theorem dr_ok {Ts : List Addr} {K : PySem.W.Frag} {a c : Addr} {b b' : Nat} {G H : Hp} {F : Addr → Prop} {cs : List Int} {i' l' u' : Int} (k : Ok (theS Ts) K (.on a b) G F H) (h1 : SqP K G c (cs.map V.int)) (h2 : cs ≠ [])
    (h3 : 0 ≤ i' ∧ 0 ≤ u' ∧ i' + b' ≤ 1152921504606846976 ∧ u' + b' ≤ 1152921504606846976)   : Ok (theS Ts) K (.on a b') G F (upd H a (.dK (drK c i' l' u'))) ∧ Step G F H G F (upd H a (.dK (drK c i' l' u'))) := by
  have hF : ∀ p, F p ↔ p = a := k.r.1
  have fa : F a := (hF a).mpr rfl
  refine ⟨⟨fun p o e => ?_, k.gf, fun p e => ?_, ⟨hF, c, cs, i', l', u', upd_same, h1, h2, h3⟩, k.nt' (fun _ z => by cases z), k.nx' (fun _ z => by cases z)⟩, Same.refl G, fun p o nf e => ?_, fun p o e => .inl e, fun p e => .inl e, fun p e => e, fun p e => ?_⟩
  · have : p ≠ a := fun z => by
      subst z
      rw [k.gf _ fa] at e
      cases e
    rw [upd_ne this]
    exact k.same p o e
  · have := (hF p).mp e
    subst this
    rw [upd_same]
    exact fun z => by cases z
  · have : p ≠ a := fun z => nf ((hF p).mpr z)
    rw [upd_ne this]
    exact e
  · by_cases z : p = a
    · subst z
      rw [upd_same]
      exact fun z => by cases z
    · rw [upd_ne z]
      exact e
theorem Ok.less {Ts : List Addr} {K : PySem.W.Frag} {a : Addr} {b b' : Nat} {G H : Hp} {F : Addr → Prop} (k : Ok (theS Ts) K (.on a b) G F H) (h : b' ≤ b) : Ok (theS Ts) K (.on a b') G F H := by
  obtain ⟨hF, c, cs, i, l, u, h1, h2, h3, h4⟩ := k.r
  exact ⟨k.same, k.gf, k.fh, ⟨hF, c, cs, i, l, u, h1, h2, h3, by omega⟩, k.nt, k.nx⟩
end Z
namespace Z
open PySem L2
section
variable {T : Type} {t : Tg} {tt : WT T} {te : W T} {tb : WS T}
/-- a comprehension whose turns say what each item gives, and change nothing else -/
theorem lcW_fm {Q : List D → T → Prop} {env : List SV} {τ : T} (f : D → Option D) : ∀ (xs acc : List D),
    (∀ x ∈ xs, ∀ (kc : D → T → Prop) (k0 : T → Prop), (match f x with | some y => kc y τ | none => k0 τ) → opt (tgE t x env) fun env' => tt env' τ fun b τ1 => if b = true then te env' τ1 fun r τ2 => opt r.dat? fun y => kc y τ2 else k0 τ1) →
    acc.length + xs.length ≤ sizeLine → Q (acc ++ xs.filterMap f) τ → lcW t tt te Q xs acc env τ
  | [], acc, _, _, q => by
    rw [List.filterMap_nil, List.append_nil] at q
    exact q
  | x :: xs, acc, h, hl, q => by
    rw [List.length_cons] at hl
    refine h x (by simp) _ _ ?_
    cases e : f x with
    | none =>
      rw [List.filterMap_cons, e] at q
      exact lcW_fm f xs acc (fun y hy => h y (by simp [hy])) (by omega) q
    | some y =>
      rw [List.filterMap_cons, e] at q
      refine ⟨by omega, lcW_fm f xs (acc ++ [y]) (fun y hy => h y (by simp [hy])) (by rw [List.length_append, List.length_singleton]; omega) ?_⟩
      rw [List.append_assoc]
      exact q
theorem lcW_map {Q : List D → T → Prop} {env : List SV} {τ : T} (f : D → D) (xs : List D)
    (h : ∀ x ∈ xs, ∀ (kc : D → T → Prop) (k0 : T → Prop), kc (f x) τ → opt (tgE t x env) fun env' => tt env' τ fun b τ1 => if b = true then te env' τ1 fun r τ2 => opt r.dat? fun y => kc y τ2 else k0 τ1)
    (hl : xs.length ≤ sizeLine) (q : Q (xs.map f) τ) : lcW t tt te Q xs [] env τ :=
  lcW_fm (fun x => some (f x)) xs [] (fun x hx kc k0 z => h x hx kc k0 z) (by simpa using hl) (by
    rw [List.nil_append, show (fun x => some (f x)) = some ∘ f from rfl, List.filterMap_eq_map]
    exact q)
/-- by what holds behind each turn -/
theorem lcW_inv {Q : List D → T → Prop} {env : List SV} (P : Nat → List D → T → Prop) : ∀ (xs : List D) (i : Nat) (acc : List D) (τ : T), P i acc τ →
    (∀ j x acc τ, xs[j]? = some x → P (i + j) acc τ → acc.length ≤ i + j → ∀ (kc : D → T → Prop) (k0 : T → Prop), (∀ y τ', P (i + j + 1) (acc ++ [y]) τ' → kc y τ') → (∀ τ', P (i + j + 1) acc τ' → k0 τ') →
      opt (tgE t x env) fun env' => tt env' τ fun b τ1 => if b = true then te env' τ1 fun r τ2 => opt r.dat? fun y => kc y τ2 else k0 τ1) →
    acc.length ≤ i → i + xs.length ≤ sizeLine → (∀ acc τ, P (i + xs.length) acc τ → Q acc τ) → lcW t tt te Q xs acc env τ
  | [], i, acc, τ, p, _, _, _, q => q acc τ p
  | x :: xs, i, acc, τ, p, h, ha, hl, q => by
    rw [List.length_cons] at hl
    have h' : ∀ (j : Nat) (y : D) (acc : List D) (τ : T), xs[j]? = some y → P (i + 1 + j) acc τ → acc.length ≤ i + 1 + j → ∀ (kc : D → T → Prop) (k0 : T → Prop), (∀ y τ', P (i + 1 + j + 1) (acc ++ [y]) τ' → kc y τ') → (∀ τ', P (i + 1 + j + 1) acc τ' → k0 τ') →
        opt (tgE t y env) fun env' => tt env' τ fun b τ1 => if b = true then te env' τ1 fun r τ2 => opt r.dat? fun y => kc y τ2 else k0 τ1 := fun j y acc τ e p => by
      have z := h (j + 1) y acc τ (by simpa using e)
      rw [show i + (j + 1) = i + 1 + j by omega] at z
      exact z p
    have q' : ∀ acc τ, P (i + 1 + xs.length) acc τ → Q acc τ := fun acc τ p => q acc τ (by rw [List.length_cons, show i + (xs.length + 1) = i + 1 + xs.length by omega]; exact p)
    refine h 0 x acc τ rfl p ha _ _ (fun y τ' p' => ⟨by omega, ?_⟩) fun τ' p' => ?_
    · exact lcW_inv P xs (i + 1) _ τ' p' h' (by rw [List.length_append, List.length_singleton]; omega) (by omega) q'
    · exact lcW_inv P xs (i + 1) _ τ' p' h' (by omega) (by omega) q'
theorem forW_inv {D : DEnds T} (P : Nat → List SV → T → Prop) : ∀ (xs : List Z.D) (i : Nat) (env : List SV) (τ : T), P i env τ →
    (∀ j x env τ, xs[j]? = some x → P (i + j) env τ → ∀ kn : List SV → T → Prop, (∀ env' τ', P (i + j + 1) env' τ' → kn env' τ') → opt (tgE t x env) fun env' => tb { D with nx := kn, ct := kn, bk := D.nx } env' τ) →
    (∀ env τ, P (i + xs.length) env τ → D.nx env τ) → forW t tb D xs env τ
  | [], i, env, τ, p, _, q => q env τ p
  | x :: xs, i, env, τ, p, h, q => by
    refine h 0 x env τ rfl p _ fun env' τ' p' => ?_
    refine forW_inv P xs (i + 1) env' τ' p' (fun j y env τ e p => ?_) fun env τ p => q env τ (by rw [List.length_cons, show i + (xs.length + 1) = i + 1 + xs.length by omega]; exact p)
    have z := h (j + 1) y env τ (by simpa using e)
    rw [show i + (j + 1) = i + 1 + j by omega] at z
    exact z p
end
end Z
namespace Z
open PySem L2
/-! ### texts as lists of signs -/
abbrev cs (z : Str) : List Nat := z.cps.toList
def mkS (l : List Nat) : Str := ⟨l.toArray⟩
theorem cs_mk (l : List Nat) : cs (mkS l) = l := rfl
theorem mk_cs (z : Str) : mkS (cs z) = z := by cases z; rfl
theorem str_ext {a b : Str} (h : cs a = cs b) : a = b := by rw [← mk_cs a, ← mk_cs b, h]
theorem str_len (z : Str) : z.length = (cs z).length := by
  show z.cps.size = z.cps.toList.length
  rw [Array.length_toList]
theorem beq_cs (a b : Str) : (a == b) = decide (cs a = cs b) := by
  rw [Bool.eq_iff_iff, beq_iff_eq, decide_eq_true_iff]
  exact ⟨fun h => by rw [h], str_ext⟩
theorem cs_append (a b : Str) : cs (a ++ b) = cs a ++ cs b := TL.tl_append a b
end Z
namespace Z
open PySem L2
/-! ### in use -/
theorem ixN_ok {n : Nat} {i : Int} (h0 : 0 ≤ i) (h1 : i < n) : ixN n i = some i.toNat := by
  unfold ixN
  rw [if_pos h0, if_pos h1]
theorem atI_some {α : Type} {xs : List α} {i : Int} (h0 : 0 ≤ i) (h1 : i < (xs.length : Int)) : ∃ x, atI xs i = some x ∧ xs[i.toNat]? = some x ∧ x ∈ xs := by
  have hi : i.toNat < xs.length := by omega
  refine ⟨xs[i.toNat], ?_, List.getElem?_eq_getElem hi, List.getElem_mem hi⟩
  unfold atI
  rw [ixN_ok h0 h1]
  exact List.getElem?_eq_getElem hi
/-- a text of no great length, of signs -/
def okS (s : Str) : Prop := s.length ≤ 100000 ∧ ∀ c ∈ cs s, c < 1114112
theorem okS.sz {s : Str} (h : okS s) : s.length ≤ sizeLine := by
  rw [sizeLine_eq]
  have := h.1
  omega
theorem okS.lay {s : Str} (h : okS s) : (PyData.str s).canLay0 = true := by
  rw [PyData.canLay0]
  unfold PyData.strOk
  rw [← Array.all_toList, List.all_eq_true]
  exact fun c hc => decide_eq_true (h.2 c hc)
theorem okS.of {l : List Nat} (h1 : l.length ≤ 100000) (h2 : ∀ c ∈ l, c < 1114112) : okS (mkS l) := ⟨by rw [str_len]; exact h1, h2⟩
/-- texts put together -/
theorem cs_join0 (ys : List Str) : cs (Txt.join (Str.ofString "") ys) = (ys.map cs).flatten := by
  rw [TL.join_eq]
  show TL.tl _ = _
  rw [TL.tl_join]
  have e : TL.tl (Str.ofString "") = [] := by decide +kernel
  rw [e]
  show TL.joinL [] (ys.map cs) = _
  generalize ys.map cs = ls
  induction ls with
  | nil => rfl
  | cons a r ih =>
    cases r with
    | nil => simp [TL.joinL]
    | cons b r' =>
      rw [TL.joinL, List.nil_append, ih, List.flatten_cons, List.flatten_cons, List.flatten_cons]
theorem strs_sg (l : List Nat) : strs? (l.map sg) = some (l.map fun c => (⟨#[c]⟩ : Str)) := by
  have : l.map sg = (l.map fun c => (⟨#[c]⟩ : Str)).map PyData.str := by
    rw [List.map_map]
    rfl
  rw [this, strs_map]
theorem join_sg (l : List Nat) : Txt.join (Str.ofString "") (l.map fun c => (⟨#[c]⟩ : Str)) = mkS l := by
  apply str_ext
  rw [cs_join0, List.map_map, cs_mk]
  induction l with
  | nil => rfl
  | cons a r ih => rw [List.map_cons, List.flatten_cons, ih]; rfl
theorem sum_sg (l : List Nat) : ((l.map fun c => (⟨#[c]⟩ : Str)).map (·.length)).sum = l.length := by
  induction l with
  | nil => rfl
  | cons a r ih =>
    rw [List.map_cons, List.map_cons, List.sum_cons, ih, List.length_cons]
    show 1 + r.length = r.length + 1
    omega
theorem rgI_len (lo : Int) (n : Nat) : (rgI lo n).length = n := by
  unfold rgI
  rw [List.length_map, List.length_range]
theorem rgI_get {lo : Int} {n i : Nat} {x : D} (h : (rgI lo n)[i]? = some x) : i < n ∧ x = .int (lo + (i : Nat)) := by
  unfold rgI at h
  rw [List.getElem?_map] at h
  by_cases hi : i < n
  · rw [List.getElem?_range hi] at h
    exact ⟨hi, (Option.some.inj h).symm⟩
  · rw [List.getElem?_eq_none (by rw [List.length_range]; omega)] at h
    cases h
end Z
namespace Z
open PySem L2
/-! ### signs of texts, in comprehensions -/
theorem eqv_str (a b : Str) : PyData.eqv (.str a) (.str b) = decide (cs a = cs b) := by
  rw [← beq_cs, PyData.eqv]
end Z
namespace Z
open PySem L2
/-! ### the readings, by named continuations -/
theorem opt_e {α : Type} {o : Option α} {P : α → Prop} {k : Option α → Prop} (h1 : ∀ a, P a = k (some a)) (h2 : k none = False) : opt o P = k o := by
  cases o with
  | none => exact h2.symm
  | some a => exact h1 a
section
variable {T : Type}
theorem dVar_k (i : Nat) (env : List SV) (τ : T) (Q : SV → T → Prop) : dVar i env τ Q = kV Q τ env[i]? := rfl
theorem dC_k (x : D) (env : List SV) (τ : T) (Q : SV → T → Prop) : dC x env τ Q = Q (.d x) τ := rfl
theorem dRaw_k (x : V) (env : List SV) (τ : T) (Q : SV → T → Prop) : dRaw x env τ Q = Q (.raw x) τ := rfl
def kOp2 (g : SV → SV → (SV → Prop) → Prop) (x : SV) (Q : SV → T → Prop) (y : SV) (τ : T) : Prop := g x y (kG Q τ)
def kOp1 (tb : W T) (env : List SV) (g : SV → SV → (SV → Prop) → Prop) (Q : SV → T → Prop) (x : SV) (τ : T) : Prop := tb env τ (kOp2 g x Q)
theorem dOp_k (g : SV → SV → (SV → Prop) → Prop) (ta tb : W T) (env : List SV) (τ : T) (Q : SV → T → Prop) : dOp g ta tb env τ Q = ta env τ (kOp1 tb env g Q) := rfl
theorem dT_k (t : W T) (env : List SV) (τ : T) (Q : Bool → T → Prop) : dT t env τ Q = t env τ (kT Q) := rfl
theorem kChB_t {tc : W T} {env : List SV} {g' : SV → SV → (SV → Prop) → Prop} {y : SV} {Q : SV → T → Prop} {τ : T} : kChB tc env g' y Q true τ = tc env τ (kCh4 g' y Q) := rfl
theorem kChB_f {tc : W T} {env : List SV} {g' : SV → SV → (SV → Prop) → Prop} {y : SV} {Q : SV → T → Prop} {τ : T} : kChB tc env g' y Q false τ = Q (.d (.bool false)) τ := rfl
theorem dChain_k (g g' : SV → SV → (SV → Prop) → Prop) (ta tb tc : W T) (env : List SV) (τ : T) (Q : SV → T → Prop) : dChain g g' ta tb tc env τ Q = ta env τ (kCh1 tb tc env g g' Q) := rfl
theorem dTru_k (t : W T) (env : List SV) (τ : T) (Q : Bool → T → Prop) : dTru t env τ Q = t env τ (kTru Q) := rfl
def kAndT (u : WT T) (env : List SV) (Q : Bool → T → Prop) (c : Bool) (τ : T) : Prop := if c = true then u env τ Q else Q false τ
def kOrT (u : WT T) (env : List SV) (Q : Bool → T → Prop) (c : Bool) (τ : T) : Prop := if c = true then Q true τ else u env τ Q
def kNotT (Q : Bool → T → Prop) (c : Bool) (τ : T) : Prop := Q (!c) τ
theorem kAndT_t {u : WT T} {env : List SV} {Q : Bool → T → Prop} {τ : T} : kAndT u env Q true τ = u env τ Q := rfl
theorem kAndT_f {u : WT T} {env : List SV} {Q : Bool → T → Prop} {τ : T} : kAndT u env Q false τ = Q false τ := rfl
theorem kOrT_t {u : WT T} {env : List SV} {Q : Bool → T → Prop} {τ : T} : kOrT u env Q true τ = Q true τ := rfl
theorem kOrT_f {u : WT T} {env : List SV} {Q : Bool → T → Prop} {τ : T} : kOrT u env Q false τ = u env τ Q := rfl
theorem dAndT_k (t u : WT T) (env : List SV) (τ : T) (Q : Bool → T → Prop) : dAndT t u env τ Q = t env τ (kAndT u env Q) := rfl
theorem dOrT_k (t u : WT T) (env : List SV) (τ : T) (Q : Bool → T → Prop) : dOrT t u env τ Q = t env τ (kOrT u env Q) := rfl
theorem dNotT_k (t : WT T) (env : List SV) (τ : T) (Q : Bool → T → Prop) : dNotT t env τ Q = t env τ (kNotT Q) := rfl
theorem dAnd_k (ta tb : W T) (env : List SV) (τ : T) (Q : SV → T → Prop) : dAnd ta tb env τ Q = ta env τ (kAnd tb env Q) := rfl
theorem dOr_k (ta tb : W T) (env : List SV) (τ : T) (Q : SV → T → Prop) : dOr ta tb env τ Q = ta env τ (kOr tb env Q) := rfl
theorem dNot_k (ta : W T) (env : List SV) (τ : T) (Q : SV → T → Prop) : dNot ta env τ Q = ta env τ (kNot Q) := rfl
def kIf (ta tb : W T) (env : List SV) (Q : SV → T → Prop) (c : Bool) (τ : T) : Prop := if c = true then ta env τ Q else tb env τ Q
theorem kIf_t {ta tb : W T} {env : List SV} {Q : SV → T → Prop} {τ : T} : kIf ta tb env Q true τ = ta env τ Q := rfl
theorem kIf_f {ta tb : W T} {env : List SV} {Q : SV → T → Prop} {τ : T} : kIf ta tb env Q false τ = tb env τ Q := rfl
theorem dIf_k (t : WT T) (ta tb : W T) (env : List SV) (τ : T) (Q : SV → T → Prop) : dIf t ta tb env τ Q = t env τ (kIf ta tb env Q) := rfl
/-! arguments -/
theorem dNil_k (env : List SV) (τ : T) (Q : List SV → T → Prop) : dNil env τ Q = Q [] τ := rfl
theorem dCons_k (t : W T) (ta : WA T) (env : List SV) (τ : T) (Q : List SV → T → Prop) : dCons t ta env τ Q = t env τ (kCo ta env Q) := rfl
theorem dTup_k (ta : WA T) (env : List SV) (τ : T) (Q : SV → T → Prop) : dTup ta env τ Q = ta env τ (kTup Q) := rfl
theorem dLst_k (ta : WA T) (env : List SV) (τ : T) (Q : SV → T → Prop) : dLst ta env τ Q = ta env τ (kLst Q) := rfl
def kCB (g : List SV → (SV → Prop) → Prop) (Q : SV → T → Prop) (rs : List SV) (τ : T) : Prop := g rs (kG Q τ)
theorem dCB_k (g : List SV → (SV → Prop) → Prop) (ta : WA T) (env : List SV) (τ : T) (Q : SV → T → Prop) : dCB g ta env τ Q = ta env τ (kCB g Q) := rfl
def kCall (FF : FW T) (Q : SV → T → Prop) (rs : List SV) (τ : T) : Prop := rs.all SV.dr = true ∧ FF rs τ Q
theorem dCall_k (FF : FW T) (ta : WA T) (env : List SV) (τ : T) (Q : SV → T → Prop) : dCall FF ta env τ Q = ta env τ (kCall FF Q) := rfl
/-! statements -/
def kNx (t : WS T) (D : DEnds T) (env : List SV) (τ : T) : Prop := t D env τ
theorem dNext_k (D : DEnds T) (env : List SV) (τ : T) : dNext D env τ = D.nx env τ := rfl
theorem dSeq_k (t u : WS T) (nx : List SV → T → Prop) (rt : SV → T → Prop) (bk ct : List SV → T → Prop) (env : List SV) (τ : T) : dSeq t u ⟨nx, rt, bk, ct⟩ env τ = t ⟨kNx u ⟨nx, rt, bk, ct⟩, rt, bk, ct⟩ env τ := rfl
theorem dBreak_k (D : DEnds T) (env : List SV) (τ : T) : dBreak D env τ = D.bk env τ := rfl
theorem dCont_k (D : DEnds T) (env : List SV) (τ : T) : dCont D env τ = D.ct env τ := rfl
theorem dNever_k (D : DEnds T) (env : List SV) (τ : T) : dNever D env τ = False := rfl
def kDrop (D : DEnds T) (env : List SV) (r : SV) (τ : T) : Prop := D.nx env τ
theorem dDrop_k (te : W T) (D : DEnds T) (env : List SV) (τ : T) : dDrop te D env τ = te env τ (kDrop D env) := rfl
def kRet (D : DEnds T) (r : SV) (τ : T) : Prop := r.out = true ∧ D.rt r τ
theorem dRet_k (te : W T) (D : DEnds T) (env : List SV) (τ : T) : dRet te D env τ = te env τ (kRet D) := rfl
theorem dRetN_k (D : DEnds T) (env : List SV) (τ : T) : dRetN D env τ = D.rt (.d .none) τ := rfl
def kIfS (t u : WS T) (D : DEnds T) (env : List SV) (b : Bool) (τ : T) : Prop := if b = true then t D env τ else u D env τ
theorem kIfS_t {t u : WS T} {D : DEnds T} {env : List SV} {τ : T} : kIfS t u D env true τ = t D env τ := rfl
theorem kIfS_f {t u : WS T} {D : DEnds T} {env : List SV} {τ : T} : kIfS t u D env false τ = u D env τ := rfl
theorem dIfS_k (c : WT T) (t u : WS T) (D : DEnds T) (env : List SV) (τ : T) : dIfS c t u D env τ = c env τ (kIfS t u D env) := rfl
theorem dSet_k (i : Nat) (te : W T) (D : DEnds T) (env : List SV) (τ : T) : dSet i te D env τ = te env τ (kSet i D env) := rfl
theorem dAsg_k (t : Tg) (te : W T) (D : DEnds T) (env : List SV) (τ : T) : dAsg t te D env τ = te env τ (kAsg t D env) := rfl
def kPar (i j : Nat) (D : DEnds T) (env : List SV) (rs : List SV) (τ : T) : Prop := match rs with
  | [.d x, .d y] => D.nx ((env.set i (.d x)).set j (.d y)) τ
  | _ => False
theorem dPar_k (i j : Nat) (ta : WA T) (D : DEnds T) (env : List SV) (τ : T) : dPar i j ta D env τ = ta env τ (kPar i j D env) := rfl
theorem kPar_k {i j : Nat} {D : DEnds T} {env : List SV} {x y : Z.D} {τ : T} : kPar i j D env [.d x, .d y] τ = D.nx ((env.set i (.d x)).set j (.d y)) τ := rfl
def kApD (i : Nat) (D : DEnds T) (env : List SV) (xs : List Z.D) (τ : T) : Option Z.D → Prop
  | some y => xs.length < sizeLine ∧ D.nx (env.set i (.ol (xs ++ [y]))) τ
  | none => False
def kAp (i : Nat) (D : DEnds T) (env : List SV) (xs : List Z.D) (r : SV) (τ : T) : Prop := kApD i D env xs τ r.dat?
def kApp (i : Nat) (te : W T) (D : DEnds T) (env : List SV) (τ : T) : Option SV → Prop
  | some (.ol xs) => te env τ (kAp i D env xs)
  | _ => False
theorem dApp_k (i : Nat) (te : W T) (D : DEnds T) (env : List SV) (τ : T) : dApp i te D env τ = kApp i te D env τ env[i]? := by
  unfold dApp
  generalize env[i]? = o
  match o with
  | some (.ol xs) =>
    show te env τ _ = te env τ (kAp i D env xs)
    congr 1
    funext r τ1
    exact opt_e (fun _ => rfl) rfl
  | some (.d _) => rfl
  | some (.vw _) => rfl
  | some (.raw _) => rfl
  | some .no => rfl
  | none => rfl
theorem dFrz_k (i : Nat) (t : WS T) (D : DEnds T) (env : List SV) (τ : T) : dFrz i t D env τ = kFrz i t D env τ env[i]? := rfl
/-! loops -/
theorem dSeqI_k (te : W T) (env : List SV) (τ : T) (Q : List D → T → Prop) : dSeqI te env τ Q = te env τ (kSq Q) := rfl
theorem dRng1_k (ta : WA T) (env : List SV) (τ : T) (Q : List D → T → Prop) : dRng1 ta env τ Q = ta env τ (kR1 Q) := rfl
theorem dRng2_k (ta : WA T) (env : List SV) (τ : T) (Q : List D → T → Prop) : dRng2 ta env τ Q = ta env τ (kR2 Q) := rfl
theorem kR1_k {Q : List D → T → Prop} {j : Int} {τ : T} : kR1 Q [.d (.int j)] τ = ((-(2 ^ 62) ≤ j ∧ j < 2 ^ 62) ∧ Q (rgI 0 j.toNat) τ) := rfl
theorem kR2_k {Q : List D → T → Prop} {i j : Int} {τ : T} : kR2 Q [.d (.int i), .d (.int j)] τ = ((-(2 ^ 62) ≤ i ∧ i < 2 ^ 62 ∧ -(2 ^ 62) ≤ j ∧ j < 2 ^ 62) ∧ Q (rgI i (j - i).toNat) τ) := rfl
def kFor (t : Tg) (tb : WS T) (D : DEnds T) (env : List SV) (xs : List Z.D) (τ : T) : Prop := forW t tb D xs env τ
theorem dFor_k (ti : WI T) (t : Tg) (tb : WS T) (D : DEnds T) (env : List SV) (τ : T) : dFor ti t tb D env τ = ti env τ (kFor t tb D env) := rfl
def kOl (Q : SV → T → Prop) (acc : List D) (τ : T) : Prop := Q (.ol acc) τ
def kLc (t : Tg) (tt : WT T) (te : W T) (Q : SV → T → Prop) (env : List SV) (xs : List D) (τ : T) : Prop := lcW t tt te (kOl Q) xs [] env τ
theorem dLc_k (ti : WI T) (t : Tg) (tt : WT T) (te : W T) (vs : List Nat) (env : List SV) (τ : T) (Q : SV → T → Prop) : dLc ti t tt te vs env τ Q = ti env τ (kLc t tt te Q (wipeE env vs)) := rfl
theorem dYes_k (env : List SV) (τ : T) (Q : Bool → T → Prop) : dYes env τ Q = Q true τ := rfl
/-- a turn of a comprehension -/
def kDt (kc : D → T → Prop) (τ : T) : Option D → Prop
  | some y => kc y τ
  | none => False
def kDat (kc : D → T → Prop) (r : SV) (τ : T) : Prop := kDt kc τ r.dat?
def kTurn (te : W T) (env : List SV) (kc : D → T → Prop) (k0 : T → Prop) (b : Bool) (τ : T) : Prop := if b = true then te env τ (kDat kc) else k0 τ
theorem kTurn_t {te : W T} {env : List SV} {kc : D → T → Prop} {k0 : T → Prop} {τ : T} : kTurn te env kc k0 true τ = te env τ (kDat kc) := rfl
theorem kTurn_f {te : W T} {env : List SV} {kc : D → T → Prop} {k0 : T → Prop} {τ : T} : kTurn te env kc k0 false τ = k0 τ := rfl
def kTgB (tt : WT T) (te : W T) (kc : D → T → Prop) (k0 : T → Prop) (τ : T) : Option (List SV) → Prop
  | some env => tt env τ (kTurn te env kc k0)
  | none => False
theorem turn_k {t : Tg} {x : D} {env : List SV} {tt : WT T} {te : W T} {kc : D → T → Prop} {k0 : T → Prop} {τ : T} (h : kTgB tt te kc k0 τ (tgE t x env)) :
    opt (tgE t x env) fun env' => tt env' τ fun b τ1 => if b = true then te env' τ1 fun r τ2 => opt r.dat? fun y => kc y τ2 else k0 τ1 := by
  cases e : tgE t x env with
  | none => rw [e] at h; exact h.elim
  | some a =>
    rw [e] at h
    show tt a τ _
    have e : (fun (b : Bool) (τ1 : T) => if b = true then te a τ1 fun r τ2 => opt r.dat? fun y => kc y τ2 else k0 τ1) = kTurn te a kc k0 := by
      funext b τ1
      unfold kTurn
      congr 1
      congr 1
      funext r τ2
      exact opt_e (fun _ => rfl) rfl
    rw [e]
    exact h
/-- a turn of a for -/
def kFtB (tb : WS T) (D : DEnds T) (τ : T) : Option (List SV) → Prop
  | some env => tb D env τ
  | none => False
theorem fturn_k {t : Tg} {x : Z.D} {env : List SV} {tb : WS T} {D : DEnds T} {kn : List SV → T → Prop} {τ : T} (h : kFtB tb ⟨kn, D.rt, D.nx, kn⟩ τ (tgE t x env)) :
    opt (tgE t x env) fun env' => tb { D with nx := kn, ct := kn, bk := D.nx } env' τ := by
  cases e : tgE t x env with
  | none => rw [e] at h; exact h.elim
  | some a => rw [e] at h; exact h
/-! the rules, with turns said so -/
theorem lc_map {t : Tg} {tt : WT T} {te : W T} {Q : List D → T → Prop} {env : List SV} {τ : T} (f : D → D) (xs : List D)
    (h : ∀ x ∈ xs, ∀ (kc : D → T → Prop) (k0 : T → Prop), kc (f x) τ → kTgB tt te kc k0 τ (tgE t x env))
    (hl : xs.length ≤ sizeLine) (q : Q (xs.map f) τ) : lcW t tt te Q xs [] env τ :=
  lcW_map f xs (fun x hx kc k0 z => turn_k (h x hx kc k0 z)) hl q
theorem lc_inv {t : Tg} {tt : WT T} {te : W T} {Q : List D → T → Prop} {env : List SV} (P : Nat → List D → T → Prop) (xs : List D) (τ : T) (h0 : P 0 [] τ)
    (h : ∀ j x acc τ, xs[j]? = some x → P j acc τ → acc.length ≤ j → ∀ (kc : D → T → Prop) (k0 : T → Prop), (∀ y τ', P (j + 1) (acc ++ [y]) τ' → kc y τ') → (∀ τ', P (j + 1) acc τ' → k0 τ') → kTgB tt te kc k0 τ (tgE t x env))
    (hl : xs.length ≤ sizeLine) (q : ∀ acc τ, P xs.length acc τ → Q acc τ) : lcW t tt te Q xs [] env τ :=
  lcW_inv P xs 0 [] τ h0 (fun j x acc τ e p hl kc k0 h1 h2 => by
    rw [Nat.zero_add] at *
    exact turn_k (h j x acc τ e p hl kc k0 h1 h2)) (Nat.le_refl 0) (by omega) (by rw [Nat.zero_add]; exact q)
theorem for_inv {t : Tg} {tb : WS T} {D : DEnds T} (P : Nat → List SV → T → Prop) (xs : List Z.D) (env : List SV) (τ : T) (h0 : P 0 env τ)
    (h : ∀ j x env τ, xs[j]? = some x → P j env τ → ∀ kn : List SV → T → Prop, (∀ env' τ', P (j + 1) env' τ' → kn env' τ') → kFtB tb ⟨kn, D.rt, D.nx, kn⟩ τ (tgE t x env))
    (q : ∀ env τ, P xs.length env τ → D.nx env τ) : forW t tb D xs env τ :=
  forW_inv P xs 0 env τ h0 (fun j x env τ e p kn h1 => by
    rw [Nat.zero_add] at *
    exact fturn_k (h j x env τ e p kn h1)) (by rw [Nat.zero_add]; exact q)
/-! slices and more -/
def kSl3 (x : SV) (lo : Option Int) (Q : SV → T → Prop) (hi : Option Int) (τ : T) : Prop := gSl x lo hi (kG Q τ)
def kSl2 (th : WO T) (env : List SV) (x : SV) (Q : SV → T → Prop) (lo : Option Int) (τ : T) : Prop := th env τ (kSl3 x lo Q)
def kSl1 (tl th : WO T) (env : List SV) (Q : SV → T → Prop) (x : SV) (τ : T) : Prop := tl env τ (kSl2 th env x Q)
theorem dSl_k (te : W T) (tl th : WO T) (env : List SV) (τ : T) (Q : SV → T → Prop) : dSl te tl th env τ Q = te env τ (kSl1 tl th env Q) := rfl
theorem dNoPart_k (env : List SV) (τ : T) (Q : Option Int → T → Prop) : dNoPart env τ Q = Q none τ := rfl
theorem dPart_k (te : W T) (env : List SV) (τ : T) (Q : Option Int → T → Prop) : dPart te env τ Q = te env τ (kPt Q) := rfl
def kUn (g : SV → (SV → Prop) → Prop) (Q : SV → T → Prop) (x : SV) (τ : T) : Prop := g x (kG Q τ)
theorem dUn_k (g : SV → (SV → Prop) → Prop) (ta : W T) (env : List SV) (τ : T) (Q : SV → T → Prop) : dUn g ta env τ Q = ta env τ (kUn g Q) := rfl
theorem dEmp_k (env : List SV) (τ : T) (Q : SV → T → Prop) : dEmp env τ Q = Q (.d (.dict [])) τ := rfl
def kM2 (g : SV → SV → (SV → Prop) → Prop) (x : SV) (Q : SV → T → Prop) (y : SV) (τ : T) : Prop := g x y (kG Q τ)
def kM1 (te : W T) (env : List SV) (g : SV → SV → (SV → Prop) → Prop) (Q : SV → T → Prop) (x : SV) (τ : T) : Prop := (∃ a, x = .d (.str a)) ∧ te env τ (kM2 g x Q)
theorem dM1_k (g : SV → SV → (SV → Prop) → Prop) (to te : W T) (env : List SV) (τ : T) (Q : SV → T → Prop) : dM1 g to te env τ Q = to env τ (kM1 te env g Q) := rfl
theorem kM1_k {te : W T} {env : List SV} {g : SV → SV → (SV → Prop) → Prop} {Q : SV → T → Prop} {a : Str} {τ : T} : kM1 te env g Q (.d (.str a)) τ = te env τ (kM2 g (.d (.str a)) Q) := by
  unfold kM1
  simp
end
/-! ### operators on what is known -/
theorem gI_k {C : Int → Int → Prop} {f : Int → Int → D} {i j : Int} {Q : SV → Prop} : gI C f (.d (.int i)) (.d (.int j)) Q = (C i j ∧ Q (.d (f i j))) := rfl
theorem gAdd_i {i j : Int} {Q : SV → Prop} : gAdd (.d (.int i)) (.d (.int j)) Q = Q (.d (.int (i + j))) := rfl
theorem gAdd_s {i j : Str} {Q : SV → Prop} : gAdd (.d (.str i)) (.d (.str j)) Q = (i.length + j.length ≤ sizeLine ∧ Q (.d (.str (i ++ j)))) := rfl
theorem gAdd_t {i j : List D} {Q : SV → Prop} : gAdd (.d (.tuple i)) (.d (.tuple j)) Q = (i.length + j.length ≤ sizeLine ∧ Q (.d (.tuple (i ++ j)))) := rfl
theorem gAdd_ll {i j : List D} {Q : SV → Prop} : gAdd (.d (.list i)) (.d (.list j)) Q = (i.length + j.length ≤ sizeLine ∧ Q (.ol (i ++ j))) := by simp [gAdd, SV.lst?]
theorem gAdd_lo {i j : List D} {Q : SV → Prop} : gAdd (.d (.list i)) (.ol j) Q = (i.length + j.length ≤ sizeLine ∧ Q (.ol (i ++ j))) := by simp [gAdd, SV.lst?]
theorem gAdd_ol {i j : List D} {Q : SV → Prop} : gAdd (.ol i) (.d (.list j)) Q = (i.length + j.length ≤ sizeLine ∧ Q (.ol (i ++ j))) := by simp [gAdd, SV.lst?]
theorem gAdd_oo {i j : List D} {Q : SV → Prop} : gAdd (.ol i) (.ol j) Q = (i.length + j.length ≤ sizeLine ∧ Q (.ol (i ++ j))) := by simp [gAdd, SV.lst?]
theorem gAdd_vo {i j : List D} {Q : SV → Prop} : gAdd (.vw i) (.ol j) Q = (i.length + j.length ≤ sizeLine ∧ Q (.ol (i ++ j))) := by simp [gAdd, SV.lst?]
theorem gAdd_ov {i j : List D} {Q : SV → Prop} : gAdd (.ol i) (.vw j) Q = (i.length + j.length ≤ sizeLine ∧ Q (.ol (i ++ j))) := by simp [gAdd, SV.lst?]
theorem gAdd_vv {i j : List D} {Q : SV → Prop} : gAdd (.vw i) (.vw j) Q = (i.length + j.length ≤ sizeLine ∧ Q (.ol (i ++ j))) := by simp [gAdd, SV.lst?]
theorem gEq_k (x y : SV) (Q : SV → Prop) : gEq x y Q = kEq1 false y Q x.now? := rfl
theorem gNe_k (x y : SV) (Q : SV → Prop) : gNe x y Q = kEq1 true y Q x.now? := rfl
theorem gCmp_i {f : Int → Int → Bool} {g : Str → Str → Bool} {i j : Int} {Q : SV → Prop} : gCmp f g (.d (.int i)) (.d (.int j)) Q = Q (.d (.bool (f i j))) := rfl
theorem gCmp_s {f : Int → Int → Bool} {g : Str → Str → Bool} {i j : Str} {Q : SV → Prop} : gCmp f g (.d (.str i)) (.d (.str j)) Q = Q (.d (.bool (g i j))) := rfl
def kIsB (neg : Bool) (Q : SV → Prop) : Option Bool → Prop
  | some b => Q (.d (.bool (neg ^^ b)))
  | none => False
theorem gIsN_d {x : D} {Q : SV → Prop} : gIsN (.d x) (.d .none) Q = kIsB false Q (SV.isN (.d x)) := by
  cases x <;> simp [gIsN, opt, kIsB, SV.isN]
theorem gNotN_d {x : D} {Q : SV → Prop} : gNotN (.d x) (.d .none) Q = kIsB true Q (SV.isN (.d x)) := by
  cases x <;> simp [gNotN, opt, kIsB, SV.isN]
theorem gIsN_ol {x : List D} {Q : SV → Prop} : gIsN (.ol x) (.d .none) Q = kIsB false Q (some false) := by
  simp [gIsN, opt, kIsB, SV.isN]
theorem gNotN_ol {x : List D} {Q : SV → Prop} : gNotN (.ol x) (.d .none) Q = kIsB true Q (some false) := by
  simp [gNotN, opt, kIsB, SV.isN]
theorem gIsN_vw {x : List D} {Q : SV → Prop} : gIsN (.vw x) (.d .none) Q = kIsB false Q (some false) := by
  simp [gIsN, opt, kIsB, SV.isN]
theorem gNotN_vw {x : List D} {Q : SV → Prop} : gNotN (.vw x) (.d .none) Q = kIsB true Q (some false) := by
  simp [gNotN, opt, kIsB, SV.isN]
theorem gIx_s {z : Str} {i : Int} {Q : SV → Prop} : gIx (.d (.str z)) (.d (.int i)) Q = (z.length ≤ sizeLine ∧ kAtS Q (atI z.cps.toList i)) := rfl
theorem gIx_t {z : List D} {i : Int} {Q : SV → Prop} : gIx (.d (.tuple z)) (.d (.int i)) Q = kAt Q (atI z i) := rfl
theorem gIx_l {z : List D} {i : Int} {Q : SV → Prop} : gIx (.d (.list z)) (.d (.int i)) Q = kAt Q (atI z i) := rfl
theorem gIx_ol {z : List D} {i : Int} {Q : SV → Prop} : gIx (.ol z) (.d (.int i)) Q = kAt Q (atI z i) := rfl
theorem gIx_vw {z : List D} {i : Int} {Q : SV → Prop} : gIx (.vw z) (.d (.int i)) Q = kAt Q (atI z i) := rfl
theorem gSl_s {z : Str} {lo hi : Option Int} {Q : SV → Prop} : gSl (.d (.str z)) lo hi Q = (z.length ≤ sizeLine ∧ Q (.d (.str (cutS z lo hi)))) := rfl
theorem gSl_t {z : List D} {lo hi : Option Int} {Q : SV → Prop} : gSl (.d (.tuple z)) lo hi Q = Q (.d (.tuple (cutL z lo hi))) := rfl
theorem gSl_l {z : List D} {lo hi : Option Int} {Q : SV → Prop} : gSl (.d (.list z)) lo hi Q = Q (.ol (cutL z lo hi)) := rfl
theorem gSl_ol {z : List D} {lo hi : Option Int} {Q : SV → Prop} : gSl (.ol z) lo hi Q = Q (.ol (cutL z lo hi)) := rfl
theorem gSl_vw {z : List D} {lo hi : Option Int} {Q : SV → Prop} : gSl (.vw z) lo hi Q = Q (.ol (cutL z lo hi)) := rfl
theorem gLen_s {z : Str} {Q : SV → Prop} : gLen [.d (.str z)] Q = (z.length ≤ sizeLine ∧ Q (.d (.int z.length))) := by
  unfold gLen opt SV.size?
  by_cases h : z.length ≤ sizeLine
  · simp [h]
  · simp [h]
theorem gLen_t {z : List D} {Q : SV → Prop} : gLen [.d (.tuple z)] Q = Q (.d (.int z.length)) := rfl
theorem gLen_l {z : List D} {Q : SV → Prop} : gLen [.d (.list z)] Q = Q (.d (.int z.length)) := rfl
theorem gLen_ol {z : List D} {Q : SV → Prop} : gLen [.ol z] Q = Q (.d (.int z.length)) := rfl
theorem gLen_vw {z : List D} {Q : SV → Prop} : gLen [.vw z] Q = Q (.d (.int z.length)) := rfl
def kTy (c : String) (Q : SV → Prop) : Option String → Prop
  | some n => Q (.d (.bool (isT n c)))
  | none => False
theorem gIsi_k {x : SV} {c : String} {Q : SV → Prop} : gIsi [x, .raw (.ty c)] Q = (tyNames.contains c = true ∧ kTy c Q x.tyN) := by
  show (_ ∧ (opt x.tyN fun n => Q (SV.d (PyData.bool (isT n c))))) = _
  rw [show (opt x.tyN fun n => Q (SV.d (PyData.bool (isT n c)))) = kTy c Q x.tyN from opt_e (fun _ => rfl) rfl]
def kBls (f : List Bool → Bool) (Q : SV → Prop) : Option (List Bool) → Prop
  | some bs => Q (.d (.bool (f bs)))
  | none => False
theorem gAll_d {xs : List D} {Q : SV → Prop} : gAll [.d (.list xs)] Q = kBls (·.all id) Q (bools? xs) := opt_e (fun _ => rfl) rfl
theorem gAll_ol {xs : List D} {Q : SV → Prop} : gAll [.ol xs] Q = kBls (·.all id) Q (bools? xs) := opt_e (fun _ => rfl) rfl
theorem gAny_d {xs : List D} {Q : SV → Prop} : gAny [.d (.list xs)] Q = kBls (·.any id) Q (bools? xs) := opt_e (fun _ => rfl) rfl
theorem gAny_ol {xs : List D} {Q : SV → Prop} : gAny [.ol xs] Q = kBls (·.any id) Q (bools? xs) := opt_e (fun _ => rfl) rfl
theorem gInt_i {i : Int} {Q : SV → Prop} : gInt [.d (.int i)] Q = Q (.d (.int i)) := rfl
theorem gInt_b {i : Bool} {Q : SV → Prop} : gInt [.d (.bool i)] Q = Q (.d (.int (if i then 1 else 0))) := rfl
theorem gInt_s {i : Str} {Q : SV → Prop} : gInt [.d (.str i)] Q = ∃ n, PySem.intText? i = some n ∧ i.length ≤ 640 ∧ Q (.d (.int n)) := rfl
theorem gII_k {f : Int → Int → Int} {i j : Int} {Q : SV → Prop} : gII f [.d (.int i), .d (.int j)] Q = Q (.d (.int (f i j))) := rfl
theorem gNeg_k {i : Int} {Q : SV → Prop} : gNeg (.d (.int i)) Q = Q (.d (.int (-i))) := rfl
def kJn (a : Str) (Q : SV → Prop) : Option (List Str) → Prop
  | some ys => (ys.map (·.length)).sum + ys.length * a.length ≤ 16777216 ∧ Q (.d (.str (Txt.join a ys)))
  | none => False
theorem gJoin_ol {a : Str} {xs : List D} {Q : SV → Prop} : gJoin (.d (.str a)) (.ol xs) Q = kJn a Q (strs? xs) := by
  unfold gJoin
  simp only [SV.d.injEq, PyData.str.injEq, exists_eq_left']
  exact opt_e (fun _ => rfl) rfl
theorem gJoin_l {a : Str} {xs : List D} {Q : SV → Prop} : gJoin (.d (.str a)) (.d (.list xs)) Q = kJn a Q (strs? xs) := by
  unfold gJoin
  simp only [SV.d.injEq, PyData.str.injEq, exists_eq_left']
  exact opt_e (fun _ => rfl) rfl
theorem gJoin_t {a : Str} {xs : List D} {Q : SV → Prop} : gJoin (.d (.str a)) (.d (.tuple xs)) Q = kJn a Q (strs? xs) := by
  unfold gJoin
  simp only [SV.d.injEq, PyData.str.injEq, exists_eq_left']
  exact opt_e (fun _ => rfl) rfl
theorem gJoin_vw {a : Str} {xs : List D} {Q : SV → Prop} : gJoin (.d (.str a)) (.vw xs) Q = kJn a Q (strs? xs) := by
  unfold gJoin
  simp only [SV.d.injEq, PyData.str.injEq, exists_eq_left']
  exact opt_e (fun _ => rfl) rfl
theorem gMul_i {i j : Int} {Q : SV → Prop} : gMul (.d (.int i)) (.d (.int j)) Q = (CMul i j ∧ Q (.d (.int (i * j)))) := by
  unfold gMul gMulS
  rw [gI_k]
  simp
theorem gMul_s {i : Str} {j : Int} {Q : SV → Prop} : gMul (.d (.str i)) (.d (.int j)) Q = ((2 ≤ j ∧ j ≤ 100000 ∧ 0 < i.length ∧ i.length ≤ 100) ∧ (strRep i j.toNat).length ≤ sizeLine ∧ Q (.d (.str (strRep i j.toNat)))) := by
  unfold gMul gMulS gI
  simp
theorem kV_1 {T : Type} {Q : SV → T → Prop} {τ : T} {x : _} : kV Q τ (some (.d x)) = (Q (.d x) τ) := rfl
theorem kV_2 {T : Type} {Q : SV → T → Prop} {τ : T} {xs : _} : kV Q τ (some (.ol xs)) = (Q (.vw xs) τ) := rfl
theorem kV_3 {T : Type} {Q : SV → T → Prop} {τ : T} {v : _} : kV Q τ (some (.raw v)) = (Q (.raw v) τ) := rfl
theorem kTb_1 {T : Type} {Q : Bool → T → Prop} {τ : T} {b : _} : kTb Q τ (some b) = (Q b τ) := rfl
theorem kTb_2 {T : Type} {Q : Bool → T → Prop} {τ : T}  : kTb Q τ (none) = (False) := rfl
theorem kAndB_1 {T : Type} {tb : W T} {env : List SV} {Q : SV → T → Prop} {x : SV} {τ : T}  : kAndB tb env Q x τ (some true) = (tb env τ Q) := rfl
theorem kAndB_2 {T : Type} {tb : W T} {env : List SV} {Q : SV → T → Prop} {x : SV} {τ : T}  : kAndB tb env Q x τ (some false) = (Q x τ) := rfl
theorem kAndB_3 {T : Type} {tb : W T} {env : List SV} {Q : SV → T → Prop} {x : SV} {τ : T}  : kAndB tb env Q x τ (none) = (False) := rfl
theorem kOrB_1 {T : Type} {tb : W T} {env : List SV} {Q : SV → T → Prop} {x : SV} {τ : T}  : kOrB tb env Q x τ (some true) = (Q x τ) := rfl
theorem kOrB_2 {T : Type} {tb : W T} {env : List SV} {Q : SV → T → Prop} {x : SV} {τ : T}  : kOrB tb env Q x τ (some false) = (tb env τ Q) := rfl
theorem kOrB_3 {T : Type} {tb : W T} {env : List SV} {Q : SV → T → Prop} {x : SV} {τ : T}  : kOrB tb env Q x τ (none) = (False) := rfl
theorem kNotB_1 {T : Type} {Q : SV → T → Prop} {τ : T} {b : _} : kNotB Q τ (some b) = (Q (.d (.bool (!b))) τ) := rfl
theorem kNotB_2 {T : Type} {Q : SV → T → Prop} {τ : T}  : kNotB Q τ (none) = (False) := rfl
theorem kCoB_1 {T : Type} {ta : WA T} {env : List SV} {Q : List SV → T → Prop} {τ : T} {a : _} : kCoB ta env Q τ (some a) = (ta env τ (kCo2 Q a)) := rfl
theorem kCoB_2 {T : Type} {ta : WA T} {env : List SV} {Q : List SV → T → Prop} {τ : T}  : kCoB ta env Q τ (none) = (False) := rfl
theorem kTupB_1 {T : Type} {Q : SV → T → Prop} {τ : T} {xs : _} : kTupB Q τ (some xs) = (xs.length ≤ sizeLine ∧ Q (.d (.tuple xs)) τ) := rfl
theorem kTupB_2 {T : Type} {Q : SV → T → Prop} {τ : T}  : kTupB Q τ (none) = (False) := rfl
theorem kLstB_1 {T : Type} {Q : SV → T → Prop} {τ : T} {xs : _} : kLstB Q τ (some xs) = (xs.length ≤ sizeLine ∧ Q (.ol xs) τ) := rfl
theorem kLstB_2 {T : Type} {Q : SV → T → Prop} {τ : T}  : kLstB Q τ (none) = (False) := rfl
theorem kStB_1 {T : Type} {i : Nat} {D : DEnds T} {env : List SV} {τ : T} {a : _} : kStB i D env τ (some a) = (D.nx (env.set i a) τ) := rfl
theorem kStB_2 {T : Type} {i : Nat} {D : DEnds T} {env : List SV} {τ : T}  : kStB i D env τ (none) = (False) := rfl
theorem kEnv_1 {T : Type} {D : DEnds T} {τ : T} {env : _} : kEnv D τ (some env) = (D.nx env τ) := rfl
theorem kEnv_2 {T : Type} {D : DEnds T} {τ : T}  : kEnv D τ (none) = (False) := rfl
theorem kAsB_1 {T : Type} {t : Tg} {D : DEnds T} {env : List SV} {τ : T} {x : _} : kAsB t D env τ (some x) = (kEnv D τ (tgE t x env)) := rfl
theorem kAsB_2 {T : Type} {t : Tg} {D : DEnds T} {env : List SV} {τ : T}  : kAsB t D env τ (none) = (False) := rfl
theorem kApD_1 {T : Type} {i : Nat} {D : DEnds T} {env : List SV} {xs : List Z.D} {τ : T} {y : _} : kApD i D env xs τ (some y) = (xs.length < sizeLine ∧ D.nx (env.set i (.ol (xs ++ [y]))) τ) := rfl
theorem kApD_2 {T : Type} {i : Nat} {D : DEnds T} {env : List SV} {xs : List Z.D} {τ : T}  : kApD i D env xs τ (none) = (False) := rfl
theorem kApp_1 {T : Type} {i : Nat} {te : W T} {D : DEnds T} {env : List SV} {τ : T} {xs : _} : kApp i te D env τ (some (.ol xs)) = (te env τ (kAp i D env xs)) := rfl
theorem kFrz_1 {T : Type} {i : Nat} {t : WS T} {D : DEnds T} {env : List SV} {τ : T} {xs : _} : kFrz i t D env τ (some (.ol xs)) = (t D (env.set i (.d (.list xs))) τ) := rfl
theorem kFrz_2 {T : Type} {i : Nat} {t : WS T} {D : DEnds T} {env : List SV} {τ : T} {xs : _} : kFrz i t D env τ (some (.d (.list xs))) = (t D env τ) := rfl
theorem kSqB_1 {T : Type} {Q : List D → T → Prop} {τ : T} {xs : _} : kSqB Q τ (some xs) = (Q xs τ) := rfl
theorem kSqB_2 {T : Type} {Q : List D → T → Prop} {τ : T}  : kSqB Q τ (none) = (False) := rfl
theorem kDt_1 {T : Type} {kc : D → T → Prop} {τ : T} {y : _} : kDt kc τ (some y) = (kc y τ) := rfl
theorem kDt_2 {T : Type} {kc : D → T → Prop} {τ : T}  : kDt kc τ (none) = (False) := rfl
theorem kTgB_1 {T : Type} {tt : WT T} {te : W T} {kc : D → T → Prop} {k0 : T → Prop} {τ : T} {env : _} : kTgB tt te kc k0 τ (some env) = (tt env τ (kTurn te env kc k0)) := rfl
theorem kTgB_2 {T : Type} {tt : WT T} {te : W T} {kc : D → T → Prop} {k0 : T → Prop} {τ : T}  : kTgB tt te kc k0 τ (none) = (False) := rfl
theorem kFtB_1 {T : Type} {tb : WS T} {D : DEnds T} {τ : T} {env : _} : kFtB tb D τ (some env) = (tb D env τ) := rfl
theorem kFtB_2 {T : Type} {tb : WS T} {D : DEnds T} {τ : T}  : kFtB tb D τ (none) = (False) := rfl
theorem kPtB_1 {T : Type} {Q : Option Int → T → Prop} {τ : T} {i : _} : kPtB Q τ (some i) = (Q (some i) τ) := rfl
theorem kPtB_2 {T : Type} {Q : Option Int → T → Prop} {τ : T}  : kPtB Q τ (none) = (False) := rfl
theorem kEq2_1  {neg : Bool} {a : D} {Q : SV → Prop} {b : _} : kEq2 neg a Q (some b) = (eqOk a b = true ∧ Q (.d (.bool (neg ^^ PyData.eqv a b)))) := rfl
theorem kEq2_2  {neg : Bool} {a : D} {Q : SV → Prop}  : kEq2 neg a Q (none) = (False) := rfl
theorem kEq1_1  {neg : Bool} {y : SV} {Q : SV → Prop} {a : _} : kEq1 neg y Q (some a) = (kEq2 neg a Q y.now?) := rfl
theorem kEq1_2  {neg : Bool} {y : SV} {Q : SV → Prop}  : kEq1 neg y Q (none) = (False) := rfl
theorem kIsB_1  {neg : Bool} {Q : SV → Prop} {b : _} : kIsB neg Q (some b) = (Q (.d (.bool (neg ^^ b)))) := rfl
theorem kIsB_2  {neg : Bool} {Q : SV → Prop}  : kIsB neg Q (none) = (False) := rfl
theorem kAtS_1  {Q : SV → Prop} {c : _} : kAtS Q (some c) = (Q (.d (sg c))) := rfl
theorem kAtS_2  {Q : SV → Prop}  : kAtS Q (none) = (False) := rfl
theorem kAt_1  {Q : SV → Prop} {c : _} : kAt Q (some c) = (Q (.d c)) := rfl
theorem kAt_2  {Q : SV → Prop}  : kAt Q (none) = (False) := rfl
theorem kTy_1  {c : String} {Q : SV → Prop} {n : _} : kTy c Q (some n) = (Q (.d (.bool (isT n c)))) := rfl
theorem kTy_2  {c : String} {Q : SV → Prop}  : kTy c Q (none) = (False) := rfl
theorem kBls_1  {f : List Bool → Bool} {Q : SV → Prop} {bs : _} : kBls f Q (some bs) = (Q (.d (.bool (f bs)))) := rfl
theorem kBls_2  {f : List Bool → Bool} {Q : SV → Prop}  : kBls f Q (none) = (False) := rfl
theorem kJn_1  {a : Str} {Q : SV → Prop} {ys : _} : kJn a Q (some ys) = ((ys.map (·.length)).sum + ys.length * a.length ≤ 16777216 ∧ Q (.d (.str (Txt.join a ys)))) := rfl
theorem kJn_2  {a : Str} {Q : SV → Prop}  : kJn a Q (none) = (False) := rfl
/-! ### by cases -/
section
variable {T : Type}
theorem kIfS_of {t u : WS T} {D : DEnds T} {env : List SV} {b : Bool} {τ : T} (h1 : b = true → t D env τ) (h2 : b = false → u D env τ) : kIfS t u D env b τ := by
  cases b with
  | true => rw [kIfS_t]; exact h1 rfl
  | false => rw [kIfS_f]; exact h2 rfl
theorem kIf_of {t u : W T} {Q : SV → T → Prop} {env : List SV} {b : Bool} {τ : T} (h1 : b = true → t env τ Q) (h2 : b = false → u env τ Q) : kIf t u env Q b τ := by
  cases b with
  | true => rw [kIf_t]; exact h1 rfl
  | false => rw [kIf_f]; exact h2 rfl
theorem kChB_of {tc : W T} {env : List SV} {g' : SV → SV → (SV → Prop) → Prop} {y : SV} {Q : SV → T → Prop} {b : Bool} {τ : T} (h1 : b = true → tc env τ (kCh4 g' y Q)) (h2 : b = false → Q (.d (.bool false)) τ) : kChB tc env g' y Q b τ := by
  cases b with
  | true => rw [kChB_t]; exact h1 rfl
  | false => rw [kChB_f]; exact h2 rfl
theorem kTurn_of {te : W T} {env : List SV} {kc : D → T → Prop} {k0 : T → Prop} {b : Bool} {τ : T} (h1 : b = true → te env τ (kDat kc)) (h2 : b = false → k0 τ) : kTurn te env kc k0 b τ := by
  cases b with
  | true => rw [kTurn_t]; exact h1 rfl
  | false => rw [kTurn_f]; exact h2 rfl
theorem kAt_of {Q : SV → Prop} {xs : List D} {i : Int} (h0 : 0 ≤ i) (h1 : i < (xs.length : Int)) (h : ∀ x, xs[i.toNat]? = some x → x ∈ xs → Q (.d x)) : kAt Q (atI xs i) := by
  obtain ⟨x, e, e2, hx⟩ := atI_some h0 h1
  rw [e]
  exact h x e2 hx
theorem kAtS_of {Q : SV → Prop} {xs : List Nat} {i : Int} (h0 : 0 ≤ i) (h1 : i < (xs.length : Int)) (h : ∀ x, xs[i.toNat]? = some x → x ∈ xs → Q (.d (sg x))) : kAtS Q (atI xs i) := by
  obtain ⟨x, e, e2, hx⟩ := atI_some h0 h1
  rw [e]
  exact h x e2 hx
end
/-- a text of no more than n signs -/
def okN (n : Nat) (s : Str) : Prop := s.length ≤ n ∧ ∀ c ∈ cs s, c < 1114112
def okNb (n : Nat) (s : Str) : Bool := decide (s.length ≤ n) && (cs s).all fun c => decide (c < 1114112)
theorem okN_b {n : Nat} {s : Str} (h : okNb n s = true) : okN n s := by
  unfold okNb at h
  rw [Bool.and_eq_true, List.all_eq_true] at h
  exact ⟨of_decide_eq_true h.1, fun c hc => of_decide_eq_true (h.2 c hc)⟩
theorem okN.ok {n : Nat} {s : Str} (h : okN n s) (hn : n ≤ 100000) : okS s := ⟨Nat.le_trans h.1 hn, h.2⟩
theorem okN.le {n m : Nat} {s : Str} (h : okN n s) (hn : n ≤ m) : okN m s := ⟨Nat.le_trans h.1 hn, h.2⟩
theorem cs_cut (s : Str) (lo hi : Option Int) : ∃ a b, cs (cutS s lo hi) = ((cs s).drop a).take b := ⟨_, _, rfl⟩
theorem okN.cut {n : Nat} {s : Str} (h : okN n s) (lo hi : Option Int) : okN n (cutS s lo hi) := by
  obtain ⟨a, b, e⟩ := cs_cut s lo hi
  have h1 := h.1
  rw [str_len] at h1
  constructor
  · rw [str_len, e, List.length_take, List.length_drop]
    omega
  · rw [e]
    exact fun c hc => h.2 c (List.mem_of_mem_drop (List.mem_of_mem_take hc))
theorem okN.sum {n m : Nat} {s t : Str} (h : okN n s) (h' : okN m t) (hn : n + m ≤ 100000) : s.length + t.length ≤ sizeLine := by
  have := h.1
  have := h'.1
  rw [sizeLine_eq]
  omega
theorem okN.sz {n : Nat} {s : Str} (h : okN n s) (hn : n ≤ 100000) : s.length ≤ sizeLine := (h.ok hn).sz
theorem noC_t (i j : Int) : noC i j = True := rfl
theorem rep_cs (x : Array Nat) : ∀ (n : Nat) (acc : Array Nat), ((List.replicate n x).foldl (· ++ ·) acc).toList = acc.toList ++ (List.replicate n x.toList).flatten
  | 0, acc => by simp
  | n + 1, acc => by
    rw [List.replicate_succ, List.foldl_cons, rep_cs x n, List.replicate_succ, List.flatten_cons, Array.toList_append, List.append_assoc]
theorem cs_rep (a : Str) (n : Nat) : cs (strRep a n) = (List.replicate n (cs a)).flatten := by
  show ((List.replicate n a.cps).foldl (· ++ ·) #[]).toList = _
  rw [rep_cs]
  rfl
theorem okN.rep {m : Nat} {a : Str} (h : okN m a) (k : Nat) : okN (k * m) (strRep a k) := by
  constructor
  · rw [str_len, cs_rep, List.length_flatten, List.map_replicate, List.sum_replicate_nat, ← str_len]
    exact Nat.mul_le_mul_left k h.1
  · rw [cs_rep]
    intro c hc
    obtain ⟨l, hl, hc⟩ := List.mem_flatten.mp hc
    rw [List.mem_replicate] at hl
    rw [hl.2] at hc
    exact h.2 c hc
theorem szs : 1 ≤ sizeLine ∧ 2 ≤ sizeLine ∧ 3 ≤ sizeLine ∧ 4 ≤ sizeLine ∧ 5 ≤ sizeLine ∧ 6 ≤ sizeLine ∧ 7 ≤ sizeLine ∧ 8 ≤ sizeLine ∧ 9 ≤ sizeLine ∧ 10 ≤ sizeLine ∧ 11 ≤ sizeLine ∧ 12 ≤ sizeLine ∧ 13 ≤ sizeLine ∧ 14 ≤ sizeLine ∧ 15 ≤ sizeLine ∧ 16 ≤ sizeLine ∧ 17 ≤ sizeLine ∧ 18 ≤ sizeLine ∧ 19 ≤ sizeLine ∧ 20 ≤ sizeLine ∧ 21 ≤ sizeLine ∧ 22 ≤ sizeLine ∧ 23 ≤ sizeLine ∧ 24 ≤ sizeLine ∧ 25 ≤ sizeLine ∧ 26 ≤ sizeLine ∧ 27 ≤ sizeLine ∧ 28 ≤ sizeLine ∧ 29 ≤ sizeLine ∧ 30 ≤ sizeLine ∧ 31 ≤ sizeLine ∧ 32 ≤ sizeLine ∧ 33 ≤ sizeLine ∧ 34 ≤ sizeLine ∧ 35 ≤ sizeLine ∧ 36 ≤ sizeLine ∧ 37 ≤ sizeLine ∧ 38 ≤ sizeLine ∧ 39 ≤ sizeLine ∧ 40 ≤ sizeLine ∧ 41 ≤ sizeLine ∧ 42 ≤ sizeLine ∧ 43 ≤ sizeLine ∧ 44 ≤ sizeLine ∧ 45 ≤ sizeLine ∧ 46 ≤ sizeLine ∧ 47 ≤ sizeLine ∧ 48 ≤ sizeLine ∧ 49 ≤ sizeLine ∧ 50 ≤ sizeLine ∧ 51 ≤ sizeLine ∧ 52 ≤ sizeLine ∧ 53 ≤ sizeLine ∧ 54 ≤ sizeLine ∧ 55 ≤ sizeLine ∧ 56 ≤ sizeLine ∧ 57 ≤ sizeLine ∧ 58 ≤ sizeLine ∧ 59 ≤ sizeLine ∧ 60 ≤ sizeLine ∧ 61 ≤ sizeLine ∧ 62 ≤ sizeLine ∧ 63 ≤ sizeLine ∧ 64 ≤ sizeLine := by
  rw [sizeLine_eq]
  decide
/-- the rule for a def, at the store of draws -/
theorem okDr {Ts : List Addr} {P : Program} {w : World} {K : PySem.W.Frag} {mg : Str → Option Value} {base : Heap} {x qual : Str} {st : Stmt} {f : Addr} {fd : FuncData} {N ps : List Str} {k : Nat} {FF : FW DrT} (F : Fun K x qual st f fd) (Sc : FnScope N ps (defScope st)) (len : ∀ rs τ Q, FF rs τ Q → rs.length = ps.length) (hl : ps.length ≤ N.length)
    (hbody : ∀ (cdv : Value) (A : Around) (outer : List Env) (s : Shared) (H : Hp) (E : XK) (G : Hp) (Fp : Addr → Prop), Room k (A.deeper (PyProof.Rows.envOfC qual (defScope st) s.heap.objs.size f cdv)) →
      ∃ t : WS DrT, PSs (cxOf CX0 P w K mg base N qual (defScope st) f cdv A outer s H E).nox (defBody st) (liftS ⟨theS Ts, K, G, Fp, H⟩ t) ∧ ∀ (rs : List SV) (τ : DrT) (Qd : SV → DrT → Prop), FF rs τ Qd → t ⟨fun _ τ' => Qd (.d .none) τ', Qd, fun _ _ => False, fun _ _ => False⟩ (rs ++ List.replicate (N.length - rs.length) .no) τ) :
    FnOk P w K mg base CX0 (k + 1) f fd ps (spD (theS Ts) K FF) := okD (S := theS Ts) F Sc len hl hbody
/-! ### == on what is known -/
theorem eqOks_none_none   : eqOk .none .none = true := rfl
theorem eqOks_none_int  (b : Int) : eqOk .none (.int b) = true := rfl
theorem eqOks_int_none (a : Int)  : eqOk (.int a) .none = true := rfl
theorem eqOks_none_bool  (b : Bool) : eqOk .none (.bool b) = true := rfl
theorem eqOks_bool_none (a : Bool)  : eqOk (.bool a) .none = true := rfl
theorem eqOks_none_str  (b : Str) : eqOk .none (.str b) = true := rfl
theorem eqOks_str_none (a : Str)  : eqOk (.str a) .none = true := rfl
theorem eqOks_int_int (a : Int) (b : Int) : eqOk (.int a) (.int b) = true := rfl
theorem eqOks_bool_bool (a : Bool) (b : Bool) : eqOk (.bool a) (.bool b) = true := rfl
theorem eqOks_str_str (a : Str) (b : Str) : eqOk (.str a) (.str b) = true := rfl
theorem eqOks_int_str (a : Int) (b : Str) : eqOk (.int a) (.str b) = true := rfl
theorem eqOks_str_int (a : Str) (b : Int) : eqOk (.str a) (.int b) = true := rfl
theorem eqOks_bool_str (a : Bool) (b : Str) : eqOk (.bool a) (.str b) = true := rfl
theorem eqOks_str_bool (a : Str) (b : Bool) : eqOk (.str a) (.bool b) = true := rfl
theorem eqv_int (i j : Int) : PyData.eqv (.int i) (.int j) = decide (i = j) := by
  rw [PyData.eqv]
  rfl
theorem eqv_bool (i j : Bool) : PyData.eqv (.bool i) (.bool j) = (i == j) := by rw [PyData.eqv]
theorem eqv_none_none   : PyData.eqv .none .none = true := by simp [PyData.eqv]
theorem eqv_none_bool  (b : Bool) : PyData.eqv .none (.bool b) = false := by simp [PyData.eqv]
theorem eqv_none_int  (b : Int) : PyData.eqv .none (.int b) = false := by simp [PyData.eqv]
theorem eqv_none_str  (b : Str) : PyData.eqv .none (.str b) = false := by simp [PyData.eqv]
theorem eqv_none_list  (b : List D) : PyData.eqv .none (.list b) = false := by simp [PyData.eqv]
theorem eqv_none_tuple  (b : List D) : PyData.eqv .none (.tuple b) = false := by simp [PyData.eqv]
theorem eqv_bool_none (a : Bool)  : PyData.eqv (.bool a) .none = false := by simp [PyData.eqv]
theorem eqv_bool_str (a : Bool) (b : Str) : PyData.eqv (.bool a) (.str b) = false := by simp [PyData.eqv]
theorem eqv_bool_list (a : Bool) (b : List D) : PyData.eqv (.bool a) (.list b) = false := by simp [PyData.eqv]
theorem eqv_bool_tuple (a : Bool) (b : List D) : PyData.eqv (.bool a) (.tuple b) = false := by simp [PyData.eqv]
theorem eqv_int_none (a : Int)  : PyData.eqv (.int a) .none = false := by simp [PyData.eqv]
theorem eqv_int_str (a : Int) (b : Str) : PyData.eqv (.int a) (.str b) = false := by simp [PyData.eqv]
theorem eqv_int_list (a : Int) (b : List D) : PyData.eqv (.int a) (.list b) = false := by simp [PyData.eqv]
theorem eqv_int_tuple (a : Int) (b : List D) : PyData.eqv (.int a) (.tuple b) = false := by simp [PyData.eqv]
theorem eqv_str_none (a : Str)  : PyData.eqv (.str a) .none = false := by simp [PyData.eqv]
theorem eqv_str_bool (a : Str) (b : Bool) : PyData.eqv (.str a) (.bool b) = false := by simp [PyData.eqv]
theorem eqv_str_int (a : Str) (b : Int) : PyData.eqv (.str a) (.int b) = false := by simp [PyData.eqv]
theorem eqv_str_list (a : Str) (b : List D) : PyData.eqv (.str a) (.list b) = false := by simp [PyData.eqv]
theorem eqv_str_tuple (a : Str) (b : List D) : PyData.eqv (.str a) (.tuple b) = false := by simp [PyData.eqv]
theorem eqv_list_none (a : List D)  : PyData.eqv (.list a) .none = false := by simp [PyData.eqv]
theorem eqv_list_bool (a : List D) (b : Bool) : PyData.eqv (.list a) (.bool b) = false := by simp [PyData.eqv]
theorem eqv_list_int (a : List D) (b : Int) : PyData.eqv (.list a) (.int b) = false := by simp [PyData.eqv]
theorem eqv_list_str (a : List D) (b : Str) : PyData.eqv (.list a) (.str b) = false := by simp [PyData.eqv]
theorem eqv_list_tuple (a : List D) (b : List D) : PyData.eqv (.list a) (.tuple b) = false := by simp [PyData.eqv]
theorem eqv_tuple_none (a : List D)  : PyData.eqv (.tuple a) .none = false := by simp [PyData.eqv]
theorem eqv_tuple_bool (a : List D) (b : Bool) : PyData.eqv (.tuple a) (.bool b) = false := by simp [PyData.eqv]
theorem eqv_tuple_int (a : List D) (b : Int) : PyData.eqv (.tuple a) (.int b) = false := by simp [PyData.eqv]
theorem eqv_tuple_str (a : List D) (b : Str) : PyData.eqv (.tuple a) (.str b) = false := by simp [PyData.eqv]
theorem eqv_tuple_list (a : List D) (b : List D) : PyData.eqv (.tuple a) (.list b) = false := by simp [PyData.eqv]
theorem isTs : isT "NoneType" "NoneType" = true ∧ isT "NoneType" "bool" = false ∧ isT "NoneType" "int" = false ∧ isT "NoneType" "str" = false ∧ isT "NoneType" "list" = false ∧ isT "NoneType" "tuple" = false ∧ isT "NoneType" "dict" = false ∧ isT "bool" "NoneType" = false ∧ isT "bool" "bool" = true ∧ isT "bool" "int" = true ∧ isT "bool" "str" = false ∧ isT "bool" "list" = false ∧ isT "bool" "tuple" = false ∧ isT "bool" "dict" = false ∧ isT "int" "NoneType" = false ∧ isT "int" "bool" = false ∧ isT "int" "int" = true ∧ isT "int" "str" = false ∧ isT "int" "list" = false ∧ isT "int" "tuple" = false ∧ isT "int" "dict" = false ∧ isT "str" "NoneType" = false ∧ isT "str" "bool" = false ∧ isT "str" "int" = false ∧ isT "str" "str" = true ∧ isT "str" "list" = false ∧ isT "str" "tuple" = false ∧ isT "str" "dict" = false ∧ isT "list" "NoneType" = false ∧ isT "list" "bool" = false ∧ isT "list" "int" = false ∧ isT "list" "str" = false ∧ isT "list" "list" = true ∧ isT "list" "tuple" = false ∧ isT "list" "dict" = false ∧ isT "tuple" "NoneType" = false ∧ isT "tuple" "bool" = false ∧ isT "tuple" "int" = false ∧ isT "tuple" "str" = false ∧ isT "tuple" "list" = false ∧ isT "tuple" "tuple" = true ∧ isT "tuple" "dict" = false ∧ isT "dict" "NoneType" = false ∧ isT "dict" "bool" = false ∧ isT "dict" "int" = false ∧ isT "dict" "str" = false ∧ isT "dict" "list" = false ∧ isT "dict" "tuple" = false ∧ isT "dict" "dict" = true := by decide
theorem tyCs : tyNames.contains "NoneType" = true ∧ tyNames.contains "bool" = true ∧ tyNames.contains "int" = true ∧ tyNames.contains "str" = true ∧ tyNames.contains "list" = true ∧ tyNames.contains "tuple" = true ∧ tyNames.contains "dict" = true := by decide
theorem tyNs_none  : tyN .none = "NoneType" := rfl
theorem tyNs_bool (a : Bool) : tyN (.bool a) = "bool" := rfl
theorem tyNs_int (a : Int) : tyN (.int a) = "int" := rfl
theorem tyNs_str (a : Str) : tyN (.str a) = "str" := rfl
theorem tyNs_list (a : List D) : tyN (.list a) = "list" := rfl
theorem tyNs_tuple (a : List D) : tyN (.tuple a) = "tuple" := rfl
theorem tyNs_dict (a : List (D × D)) : tyN (.dict a) = "dict" := rfl
end Z
namespace Z
open PySem L2
/-! ### the law's promise, and the end -/
theorem rp_ints {K : PySem.W.Frag} {G : Hp} : ∀ ns : List Int, RpAll K G (ns.map V.int) (ns.map PyData.int)
  | [] => .nil
  | i :: r => .cons (.int i) (rp_ints r)
end Z
namespace Z
open PySem L2
/-! ### what is given back may be a list of one's own -/
def liftR (B : Bk) (t : W B.T) : TE := fun σ H Q => ∃ G F env τ Qd, StR B G F σ H env τ ∧ t env τ Qd ∧
  ∀ r τ' G' F' H' v, Fin B B.G B.F B.H τ' G' F' H' → Res B.K B.H G' F' H' r v → Qd r τ' → Q v H'
def kOw {T : Type} (Q : SV → T → Prop) (τ : T) : Option SV → Prop
  | some (.d x) => Q (.d x) τ
  | some (.ol xs) => Q (.ol xs) τ
  | some (.raw v) => Q (.raw v) τ
  | _ => False
def dOwn {T : Type} (i : Nat) : W T := fun env τ Q => kOw Q τ env[i]?
section
variable {X : Cx} {B : Bk} {a b c e : Expr} {pos : Pos} {ta tb te : W B.T} {tA : WT B.T} {i : Nat}
theorem dr_own (h : PE X e (tVar i)) : PE X e (liftR B (dOwn i)) := by
  refine pe_imp h fun σ H Q z9 => ex53 z9 fun G F env τ Qd s t k => ?_
  have t : kOw Qd τ env[i]? := t
  cases q : env[i]? with
  | none => rw [q] at t; exact False.elim t
  | some sv =>
    rw [q] at t
    have r := s.e.at' i sv q
    have up : ∀ {v : V}, σ[i]?.join = some v → σ[i]? = some (some v) := fun {v} e1 => by
      cases z : σ[i]? with
      | none => rw [z] at e1; cases e1
      | some o => rw [z] at e1; exact congrArg some e1
    cases sv with
    | no => exact False.elim t
    | vw _ => exact False.elim t
    | d x =>
      obtain ⟨v, e1, r⟩ := r
      exact ⟨v, up e1, k (.d x) _ _ _ _ _ s.out r t⟩
    | ol xs =>
      obtain ⟨p, e1, w⟩ := r
      exact ⟨_, up e1, k (.ol xs) _ _ _ _ _ s.out ⟨p, rfl, w⟩ t⟩
    | raw v => exact ⟨v, up r, k (.raw v) _ _ _ _ _ s.out rfl t⟩
theorem ds_retR (he : PE X e (liftR B te)) : PS X (.Return (some e) pos) (liftS B (dRet te)) :=
  ps_imp (ps_ret he) fun D σ H z9 => ex53 z9 fun G F env τ Dd s h E => ⟨G, F, env, τ, _, s, h, fun r τ1 G1 F1 H1 v f1 r1 ⟨_, q⟩ => E.rt r τ1 G1 F1 H1 v f1 r1 q⟩
end
/-! ### more of own lists -/
section
variable {X : Cx} {B : Bk} {pos : Pos} {te ti : W B.T} {i : Nat}
/-- x.extend(e), e a new list -/
def dExt {T : Type} (i : Nat) (te : W T) : WS T := fun D env τ => match env[i]? with
  | some (.ol xs) => te env τ fun r τ1 => ∃ zs, r = .ol zs ∧ xs.length + zs.length ≤ sizeLine ∧ D.nx (env.set i (.ol (xs ++ zs))) τ1
  | _ => False
theorem RpAll.app {K : PySem.W.Frag} {G : Hp} : ∀ {vs : List V} {xs : List D} {ws : List V} {ys : List D}, RpAll K G vs xs → RpAll K G ws ys → RpAll K G (vs ++ ws) (xs ++ ys)
  | _, _, _, _, .nil, r => r
  | _, _, _, _, .cons h t, r => .cons h (t.app r)
theorem ds_ext {st : Stmt} (h : PS X st (tDrop (tBM X.K "list" rExtend (tVar i) (tCons (lift B te) tNil)))) : PS X st (liftS B (dExt i te)) :=
  ps_imp h fun D σ H z9 => ex53 z9 fun G F env τ Dd s z E => by
    unfold dExt at z
    split at z
    · rename_i xs ee
      obtain ⟨p, e1, w⟩ := at_slot s ee
      obtain ⟨vs, e2, a2⟩ := w.at'
      refine ⟨_, e1, .inl ⟨rfl, _, .of e2⟩, G, F, env, τ, _, s, z, fun r τ1 G1 F1 H1 v f1 r1 ⟨zs, ez, hz, q⟩ => ?_⟩
      subst ez
      obtain ⟨b, ev, wb⟩ := r1
      subst ev
      obtain ⟨ws, eb, ab⟩ := wb.at'
      have s2 := s.fin f1
      obtain ⟨vs2, e3, a3⟩ := (w.step f1.s).at'
      have s3 := s2.mut ee (by rw [e1]; rfl) (a3.app ab)
      exact ⟨p, b, vs2, ws, rfl, rfl, e3, eb, by rw [a3.length, ab.length]; exact hz, E.nx G1 F1 σ _ _ τ1 f1.s.g s3 q⟩
    · exact z.elim
/-- x[k] = e -/
def dSetI {T : Type} (i : Nat) (te ti : W T) : WS T := fun D env τ => match env[i]? with
  | some (.ol xs) => te env τ fun r τ1 => opt r.dat? fun y => ti env τ1 fun z τ2 => ∃ k, z = .d (.int k) ∧ opt (ixN xs.length k) fun j => D.nx (env.set i (.ol (xs.set j y))) τ2
  | _ => False
end
/-! ### many times a list, a tuple -/
theorem RpAll.flat {K : PySem.W.Frag} {G : Hp} {vs : List V} {xs : List D} (a : RpAll K G vs xs) : ∀ n : Nat, RpAll K G (List.replicate n vs).flatten (List.replicate n xs).flatten
  | 0 => .nil
  | n + 1 => by
    rw [List.replicate_succ, List.replicate_succ, List.flatten_cons, List.flatten_cons]
    exact a.app (a.flat n)
def gMulL (x y : SV) (Q : SV → Prop) : Prop := ∃ xs k, (x = .ol xs ∨ x = .vw xs) ∧ y = .d (.int k) ∧ (-(2 ^ 63) ≤ k ∧ k < 2 ^ 63) ∧ xs.length * k.toNat ≤ sizeLine ∧ Q (.ol (List.replicate k.toNat xs).flatten)
def gMulT (x y : SV) (Q : SV → Prop) : Prop := ∃ xs k, x = .d (.tuple xs) ∧ y = .d (.int k) ∧ xs ≠ [] ∧ (2 ≤ k ∧ k ≤ 1000) ∧ xs.length ≤ 1000 ∧ Q (.d (.tuple (List.replicate k.toNat xs).flatten))
section
variable {X : Cx} {B : Bk}
theorem od_mulL : OpD B rRep gMulL := fun x y vx vy Ha Hb G F H τ Qv Q k rx ry h fin => by
  obtain ⟨xs, n, ex, ey, hn, hz, h⟩ := h
  subst ey
  have go : ∀ p vs, vx = .ref p → H p = some (.lst vs) → RpAll B.K G vs xs → rRep vx vy H Q := fun p vs e1 e2 a => by
    refine ⟨p, n, vs, e1, rint ry, e2, hn.1, hn.2, by rw [a.length]; exact hz, fun p' hp => fin.ol k hp (a.flat _) h⟩
  rcases ex with rfl | rfl
  · obtain ⟨p, e1, w⟩ := rx
    obtain ⟨vs, e2, a⟩ := w.at'
    exact go p vs e1 e2 a
  · obtain ⟨p, vs, e1, e2, a, _⟩ := rx
    exact go p vs e1 e2 a
theorem od_mulT (hK : X.K = B.K) : OpD B (rRepT X.K) gMulT := fun x y vx vy Ha Hb G F H τ Qv Q k rx ry h fin => by
  obtain ⟨xs, n, ex, ey, hne, hn, hz, h⟩ := h
  subst ex ey
  rw [hK]
  obtain ⟨p, vs, e1, hs, a⟩ := rtup rx
  have hl := a.length
  refine ⟨p, n, vs, e1, rint ry, same_seqT k.same hs, fun z => hne ?_, hn.1, hn.2, by omega, fun p' hp => fin.tup k hp (a.flat _) h⟩
  subst z
  exact List.length_eq_zero_iff.mp hl.symm
def gMulA (x y : SV) (Q : SV → Prop) : Prop := gMul x y Q ∨ gMulL x y Q ∨ gMulT x y Q
theorem op_mulB : OpR X (binaryOp .Mult) (fun x y H Q => ((rI CMul fun i j => .int (i * j)) x y H Q ∨ rMulS x y H Q) ∨ rRep x y H Q ∨ rRepT X.K x y H Q) := op_mulA.or (op_rep.or op_repT)
theorem od_mulB (hK : X.K = B.K) : OpD B (fun x y H Q => ((rI CMul fun i j => .int (i * j)) x y H Q ∨ rMulS x y H Q) ∨ rRep x y H Q ∨ rRepT X.K x y H Q) gMulA := od_mul.or (od_mulL.or (od_mulT hK))
end
/-! ### enumerate, zip -/
def enumD (xs : List D) : List D := xs.zipIdx.map fun p => .tuple [.int (p.2 : Nat), p.1]
def zipD (xs ys : List D) : List D := (xs.zip ys).map fun p => .tuple [p.1, p.2]
theorem enum_get {xs : List D} {i : Nat} {x : D} (h : (enumD xs)[i]? = some x) : ∃ y, xs[i]? = some y ∧ x = .tuple [.int (i : Nat), y] := by
  unfold enumD at h
  rw [List.getElem?_map, List.getElem?_zipIdx] at h
  cases e : xs[i]? with
  | none => rw [e] at h; cases h
  | some y =>
    rw [e] at h
    cases h
    exact ⟨y, rfl, by rw [Nat.zero_add]⟩
theorem enum_len (xs : List D) : (enumD xs).length = xs.length := by
  unfold enumD
  rw [List.length_map, List.length_zipIdx]
theorem zip_get {xs ys : List D} {i : Nat} {x : D} (h : (zipD xs ys)[i]? = some x) : ∃ a b, xs[i]? = some a ∧ ys[i]? = some b ∧ x = .tuple [a, b] := by
  unfold zipD at h
  rw [List.getElem?_map] at h
  cases e : (xs.zip ys)[i]? with
  | none => rw [e] at h; cases h
  | some p =>
    rw [e] at h
    cases h
    have e2 := List.getElem?_zip_eq_some.mp e
    exact ⟨_, _, e2.1, e2.2, rfl⟩
theorem zip_len (xs ys : List D) : (zipD xs ys).length = min xs.length ys.length := by
  unfold zipD
  rw [List.length_map, List.length_zip]
section
variable {X : Cx} {B : Bk} {tg : Expr} {pos : Pos}
/-- a new pair -/
theorem new_pair {G H : Hp} {F : Addr → Prop} {τ : B.T} {T : Addr} {a b : V} {x y : D} (k : Ok B.S B.K τ G F H) (n : H T = none) (ha : Rp B.K G a x) (hb : Rp B.K G b y) :
    ∃ G2, Fin B G F H τ G2 F (upd H T (.tup [a, b])) ∧ Rp B.K G2 (.ref T) (.tuple [x, y]) :=
  ⟨_, (new_tup k n (.cons ha (.cons hb .nil))).1, (new_tup k n (.cons ha (.cons hb .nil))).2⟩
theorem itr_e {G : Hp} {a : Addr} {vs : List V} {xs : List D} (h : SqP B.K G a vs) (r : RpAll B.K G vs xs) : ItR B (Ite B.K a) G (enumD xs) where
  go := fun G1 H1 F1 τ1 sm k i x e => by
    obtain ⟨y, ey, ex⟩ := enum_get e
    subst ex
    obtain ⟨v, ev, rv⟩ := r.getD ey
    have hq := (same_sqp (sm.trans k.same) h).sql
    refine ⟨⟨vs, v, hq, ev⟩, fun w H2 ⟨T, x', e2, hT, e3, hx⟩ => ?_⟩
    have := hx vs hq
    rw [ev] at this
    cases this
    subst e2 e3
    exact new_pair k hT (.int _) (rv.mono sm)
  stop := fun G1 H1 F1 τ1 sm k i hi => ⟨vs, (same_sqp (sm.trans k.same) h).sql, by rw [r.length]; rw [enum_len] at hi; exact hi⟩
def dEnum {T : Type} (ta : WA T) : WI T := fun env τ Q => ta env τ fun rs τ1 => ∃ xs, rs = [.d (.list xs)] ∧ Q (enumD xs) τ1
def dZip {T : Type} (ta : WA T) : WI T := fun env τ Q => ta env τ fun rs τ1 => ∃ xs ys, (rs = [.d (.list xs), .d (.list ys)] ∨ rs = [.d (.tuple xs), .d (.tuple ys)]) ∧ Q (zipD xs ys) τ1
end
/-! ### the readings, by named continuations -/
section
variable {T : Type}
theorem dOwn_k (i : Nat) (env : List SV) (τ : T) (Q : SV → T → Prop) : dOwn i env τ Q = kOw Q τ env[i]? := rfl
theorem kOw_1 {Q : SV → T → Prop} {τ : T} {x : D} : kOw Q τ (some (.d x)) = Q (.d x) τ := rfl
theorem kOw_2 {Q : SV → T → Prop} {τ : T} {x : List D} : kOw Q τ (some (.ol x)) = Q (.ol x) τ := rfl
theorem kOw_3 {Q : SV → T → Prop} {τ : T} {x : V} : kOw Q τ (some (.raw x)) = Q (.raw x) τ := rfl
def kEx (i : Nat) (D : DEnds T) (env : List SV) (xs : List Z.D) (r : SV) (τ : T) : Prop := match r with
  | .ol zs => xs.length + zs.length ≤ sizeLine ∧ D.nx (env.set i (.ol (xs ++ zs))) τ
  | _ => False
theorem kEx_1 {i : Nat} {D : DEnds T} {env : List SV} {xs zs : List Z.D} {τ : T} : kEx i D env xs (.ol zs) τ = (xs.length + zs.length ≤ sizeLine ∧ D.nx (env.set i (.ol (xs ++ zs))) τ) := rfl
def kExt (i : Nat) (te : W T) (D : DEnds T) (env : List SV) (τ : T) : Option SV → Prop
  | some (.ol xs) => te env τ (kEx i D env xs)
  | _ => False
theorem kExt_1 {i : Nat} {te : W T} {D : DEnds T} {env : List SV} {τ : T} {xs : List Z.D} : kExt i te D env τ (some (.ol xs)) = te env τ (kEx i D env xs) := rfl
theorem dExt_k (i : Nat) (te : W T) (D : DEnds T) (env : List SV) (τ : T) : dExt i te D env τ = kExt i te D env τ env[i]? := by
  unfold dExt
  generalize env[i]? = o
  match o with
  | some (.ol xs) =>
    show te env τ _ = te env τ _
    congr 1
    funext r τ1
    cases r <;> simp [kEx]
  | some (.d _) => rfl
  | some (.vw _) => rfl
  | some (.raw _) => rfl
  | some .no => rfl
  | none => rfl
def kSI4 (i : Nat) (D : DEnds T) (env : List SV) (xs : List Z.D) (y : Z.D) (τ : T) : Option Nat → Prop
  | some j => D.nx (env.set i (.ol (xs.set j y))) τ
  | none => False
theorem kSI4_1 {i : Nat} {D : DEnds T} {env : List SV} {xs : List Z.D} {y : Z.D} {τ : T} {j : Nat} : kSI4 i D env xs y τ (some j) = D.nx (env.set i (.ol (xs.set j y))) τ := rfl
def kSI3 (i : Nat) (D : DEnds T) (env : List SV) (xs : List Z.D) (y : Z.D) (z : SV) (τ : T) : Prop := match z with
  | .d (.int k) => kSI4 i D env xs y τ (ixN xs.length k)
  | _ => False
theorem kSI3_1 {i : Nat} {D : DEnds T} {env : List SV} {xs : List Z.D} {y : Z.D} {k : Int} {τ : T} : kSI3 i D env xs y (.d (.int k)) τ = kSI4 i D env xs y τ (ixN xs.length k) := rfl
def kSI2 (i : Nat) (ti : W T) (D : DEnds T) (env : List SV) (xs : List Z.D) (τ : T) : Option Z.D → Prop
  | some y => ti env τ (kSI3 i D env xs y)
  | none => False
theorem kSI2_1 {i : Nat} {ti : W T} {D : DEnds T} {env : List SV} {xs : List Z.D} {τ : T} {y : Z.D} : kSI2 i ti D env xs τ (some y) = ti env τ (kSI3 i D env xs y) := rfl
def kSI1 (i : Nat) (ti : W T) (D : DEnds T) (env : List SV) (xs : List Z.D) (r : SV) (τ : T) : Prop := kSI2 i ti D env xs τ r.dat?
def kSetI (i : Nat) (te ti : W T) (D : DEnds T) (env : List SV) (τ : T) : Option SV → Prop
  | some (.ol xs) => te env τ (kSI1 i ti D env xs)
  | _ => False
theorem kSetI_1 {i : Nat} {te ti : W T} {D : DEnds T} {env : List SV} {τ : T} {xs : List Z.D} : kSetI i te ti D env τ (some (.ol xs)) = te env τ (kSI1 i ti D env xs) := rfl
theorem dSetI_k (i : Nat) (te ti : W T) (D : DEnds T) (env : List SV) (τ : T) : dSetI i te ti D env τ = kSetI i te ti D env τ env[i]? := by
  unfold dSetI
  generalize env[i]? = o
  match o with
  | some (.ol xs) =>
    show te env τ _ = te env τ (kSI1 i ti D env xs)
    congr 1
    funext r τ1
    refine opt_e (k := kSI2 i ti D env xs τ1) (fun y => ?_) rfl
    show ti env τ1 _ = ti env τ1 (kSI3 i D env xs y)
    congr 1
    funext z τ2
    match z with
    | .d (.int k) =>
      refine propext ⟨?_, fun h => ⟨k, rfl, ?_⟩⟩
      · rintro ⟨k', e, h⟩
        cases e
        obtain ⟨j, ej, h⟩ := opt_of h
        show kSI4 i D env xs y τ2 (ixN xs.length k)
        rw [ej]
        exact h
      · have h : kSI4 i D env xs y τ2 (ixN xs.length k) := h
        cases e : ixN xs.length k with
        | none => rw [e] at h; exact h.elim
        | some j => rw [e] at h; exact h
    | .d .none => exact propext ⟨fun ⟨_, e, _⟩ => (nomatch e), fun h => h.elim⟩
    | .d (.bool _) => exact propext ⟨fun ⟨_, e, _⟩ => (nomatch e), fun h => h.elim⟩
    | .d (.str _) => exact propext ⟨fun ⟨_, e, _⟩ => (nomatch e), fun h => h.elim⟩
    | .d (.list _) => exact propext ⟨fun ⟨_, e, _⟩ => (nomatch e), fun h => h.elim⟩
    | .d (.tuple _) => exact propext ⟨fun ⟨_, e, _⟩ => (nomatch e), fun h => h.elim⟩
    | .d (.dict _) => exact propext ⟨fun ⟨_, e, _⟩ => (nomatch e), fun h => h.elim⟩
    | .vw _ => exact propext ⟨fun ⟨_, e, _⟩ => (nomatch e), fun h => h.elim⟩
    | .ol _ => exact propext ⟨fun ⟨_, e, _⟩ => (nomatch e), fun h => h.elim⟩
    | .raw _ => exact propext ⟨fun ⟨_, e, _⟩ => (nomatch e), fun h => h.elim⟩
    | .no => exact propext ⟨fun ⟨_, e, _⟩ => (nomatch e), fun h => h.elim⟩
  | some (.d _) => rfl
  | some (.vw _) => rfl
  | some (.raw _) => rfl
  | some .no => rfl
  | none => rfl
def kEn (Q : List D → T → Prop) (rs : List SV) (τ : T) : Prop := ∃ xs, rs = [.d (.list xs)] ∧ Q (enumD xs) τ
theorem kEn_k {Q : List D → T → Prop} {xs : List D} {τ : T} : kEn Q [.d (.list xs)] τ = Q (enumD xs) τ := by simp [kEn]
theorem dEnum_k (ta : WA T) (env : List SV) (τ : T) (Q : List D → T → Prop) : dEnum ta env τ Q = ta env τ (kEn Q) := rfl
def kZp (Q : List D → T → Prop) (rs : List SV) (τ : T) : Prop := ∃ xs ys, (rs = [.d (.list xs), .d (.list ys)] ∨ rs = [.d (.tuple xs), .d (.tuple ys)]) ∧ Q (zipD xs ys) τ
theorem kZp_l {Q : List D → T → Prop} {xs ys : List D} {τ : T} : kZp Q [.d (.list xs), .d (.list ys)] τ = Q (zipD xs ys) τ := propext ⟨fun ⟨a, b, e, h⟩ => by
  rcases e with e | e <;> cases e
  exact h, fun h => ⟨_, _, .inl rfl, h⟩⟩
theorem kZp_u {Q : List D → T → Prop} {xs ys : List D} {τ : T} : kZp Q [.d (.tuple xs), .d (.tuple ys)] τ = Q (zipD xs ys) τ := propext ⟨fun ⟨a, b, e, h⟩ => by
  rcases e with e | e <;> cases e
  exact h, fun h => ⟨_, _, .inr rfl, h⟩⟩
theorem dZip_k (ta : WA T) (env : List SV) (τ : T) (Q : List D → T → Prop) : dZip ta env τ Q = ta env τ (kZp Q) := rfl
end
theorem gMulA_i {i j : Int} {Q : SV → Prop} : gMulA (.d (.int i)) (.d (.int j)) Q = (CMul i j ∧ Q (.d (.int (i * j)))) := by
  unfold gMulA gMulL gMulT
  rw [gMul_i]
  simp
theorem gMulA_s {i : Str} {j : Int} {Q : SV → Prop} : gMulA (.d (.str i)) (.d (.int j)) Q = ((2 ≤ j ∧ j ≤ 100000 ∧ 0 < i.length ∧ i.length ≤ 100) ∧ (strRep i j.toNat).length ≤ sizeLine ∧ Q (.d (.str (strRep i j.toNat)))) := by
  unfold gMulA gMulL gMulT
  rw [gMul_s]
  simp
theorem gMulA_ol {i : List D} {j : Int} {Q : SV → Prop} (h : (-(2 ^ 63) ≤ j ∧ j < 2 ^ 63) ∧ i.length * j.toNat ≤ sizeLine ∧ Q (.ol (List.replicate j.toNat i).flatten)) : gMulA (.ol i) (.d (.int j)) Q := .inr (.inl ⟨i, j, .inl rfl, rfl, h.1, h.2.1, h.2.2⟩)
end Z
namespace Z
open PySem L2
/-! ### more of what is known -/
theorem gIn_sf {c : Nat} {z : Str} {Q : SV → Prop} : gIn false (.d (.str ⟨#[c]⟩)) (.d (.str z)) Q = Q (.d (.bool (decide (c ∈ z.cps.toList)))) := by
  refine propext ⟨?_, fun h => .inl ⟨c, z, rfl, rfl, h⟩⟩
  rintro (⟨c', z', e1, e2, h⟩ | ⟨a, xs, _, e2, _⟩)
  · cases e1
    cases e2
    exact h
  · cases e2
theorem gIn_st {c : Nat} {z : Str} {Q : SV → Prop} : gIn true (.d (.str ⟨#[c]⟩)) (.d (.str z)) Q = Q (.d (.bool (!decide (c ∈ z.cps.toList)))) := by
  refine propext ⟨?_, fun h => .inl ⟨c, z, rfl, rfl, h⟩⟩
  rintro (⟨c', z', e1, e2, h⟩ | ⟨a, xs, _, e2, _⟩)
  · cases e1
    cases e2
    exact h
  · cases e2
theorem gIn_tf {a : D} {xs : List D} {Q : SV → Prop} : gIn false (.d a) (.d (.tuple xs)) Q = (flatD a = true ∧ xs.all flatD = true ∧ Q (.d (.bool (xs.any fun y => PyData.eqv y a)))) := by
  refine propext ⟨?_, fun h => .inr ⟨a, xs, rfl, rfl, h.1, h.2.1, h.2.2⟩⟩
  rintro (⟨c', z', e1, e2, h⟩ | ⟨a', xs', e1, e2, h⟩)
  · cases e2
  · cases e1
    cases e2
    exact h
theorem gIn_tt {a : D} {xs : List D} {Q : SV → Prop} : gIn true (.d a) (.d (.tuple xs)) Q = (flatD a = true ∧ xs.all flatD = true ∧ Q (.d (.bool (!(xs.any fun y => PyData.eqv y a))))) := by
  refine propext ⟨?_, fun h => .inr ⟨a, xs, rfl, rfl, h.1, h.2.1, h.2.2⟩⟩
  rintro (⟨c', z', e1, e2, h⟩ | ⟨a', xs', e1, e2, h⟩)
  · cases e2
  · cases e1
    cases e2
    exact h
theorem flatD_none : flatD .none = true := rfl
theorem flatD_int (a : Int) : flatD (.int a) = true := rfl
theorem flatD_str (a : Str) : flatD (.str a) = true := rfl
theorem flatD_bool (a : Bool) : flatD (.bool a) = true := rfl
/-! ### lists of texts -/
end Z
namespace Z
open PySem L2 PySem.Spec PyProof.Rows
/-! ### defs that are run where nothing is being told (so repr may be asked) -/
structure RoomG (k : Nat) (A : Around) : Prop where
  r : Room k A
  g : A.guards = some []
theorem RoomG.mono {j k : Nat} {A : Around} (h : RoomG k A) (l : j ≤ k) : RoomG j A := ⟨h.r.mono l, h.g⟩
structure FnG (P : Program) (w : World) (K : PySem.W.Frag) (mg : Str → Option Value) (base : Heap) (k : Nat) (f : Addr) (fd : FuncData) (ps : List Str) (sp : Sp) : Prop where
  len : ∀ vs H Q E, sp vs H Q E → vs.length = ps.length
  run : ∀ (A : Around) (st : List Env) (s : Shared) (H : Hp) (as : Args) (us : List Value) (vs : List V) (Q : VK) (E : XK), RoomG k A → Env0 P w K mg base A st s H → BindsTo s fd as (ps.zip us) → Vals vs us → sp vs H Q E →
    codeAny (model P w) A (.call (.ref f) as) (CR CX0 st P w H s Q E) s
theorem fng_of {P : Program} {w : World} {K : PySem.W.Frag} {mg : Str → Option Value} {base : Heap} {x qual : Str} {st : Stmt} {f : Addr} {fd : FuncData} {N ps : List Str} {k : Nat} {sp : Sp} (F : Fun K x qual st f fd) (Sc : FnScope N ps (defScope st)) (len : ∀ vs H Q E, sp vs H Q E → vs.length = ps.length)
    (hb : ∀ (cd : Value) (A : Around) (ev : List Env) (s : Shared) (H : Hp) (vs : List V) (Q : VK) (E : XK), fd.code = cd → RoomG k (A.deeper (envOfC qual (defScope st) s.heap.objs.size f cd)) → sp vs H Q E →
      ∃ t, PSs (cxOf CX0 P w K mg base N qual (defScope st) f cd A ev s H E).nox (defBody st) t ∧ t { nx := fun _ H' => Q .non H', rt := Q } (L2.start N vs) H) : FnG P w K mg base (k + 1) f fd ps sp := by
  obtain ⟨oc, od, kV, doc, pm, an, cd, ct, osl, rfl, lk, hcd⟩ := F.ex
  refine ⟨len, fun A ev s H as us vs Q E rg z0 hbt rv hq => ?_⟩
  have lv := len _ _ _ _ hq
  have inK : K.In s.heap := z0.mod.kin.keeps fun b o e => (z0.bs b o e).1
  have noL : s.heap.NoLimit := z0.mod.nolimit.keeps fun b o e => (z0.bs b o e).1
  have kinds : ∀ y ∈ ps.zip us, (defScope st).names.lookup y.1 = some .local ∨ ((defScope st).names.lookup y.1 = some .cell ∧ ((cellsFrom (s.heap.objs.size + 1) (defScope st).names []).lookup y.1).isSome = true) := by
    rintro ⟨n, v⟩ hy
    rcases Sc.par n (List.of_mem_zip hy).1 with e | e
    · exact Or.inl e
    · exact Or.inr ⟨e, PySem.W.cellsFrom_some _ _ _ (Or.inl e)⟩
  refine codeAny_call_function rg.r.depth (inK _ _ lk) rfl Sc.co Sc.gen rfl (PySem.W.codeRec_of inK hcd) (hbt _ _ _ _ ?_)
  refine wpAny_newFunctionEnv_cells Sc.kind kinds fun env he s2 y => ?_
  subst he
  refine ⟨noL.keeps y.toInCall.keep, codeAny_func ?_⟩
  obtain ⟨t, ht, ht2⟩ := hb cd A ev s H vs Q E rfl ⟨rg.r.deeper _, rg.g⟩ hq
  have J0 : Inv (cxOf CX0 P w K mg base N qual (defScope st) f cd A ev s H E) [] (L2.start N vs) H s2 := inv_start Sc rg.r.hd z0 lv rv y
  refine wpAny_mono (ht.nox.run [] s2 (L2.start N vs) H _ J0 ht2) (fun fl s3 hs => ?_) fun e s3 hs => hs
  cases fl with
  | ret u =>
    obtain ⟨v, _, H', J, r2, q⟩ := hs
    exact ⟨v, H', J.os, J.bare, J.base, J.hok, r2, q⟩
  | next =>
    obtain ⟨_, H', J, q⟩ := hs
    exact ⟨V.non, H', J.os, J.bare, J.base, J.hok, rfl, q⟩
  | brk => exact hs.elim fun _ h => h.elim fun _ h => h.2.elim
  | cont => exact hs.elim fun _ h => h.elim fun _ h => h.2.elim
section
variable {X : Cx} {x : Str} {f : Addr} {fd : FuncData} {ps : List Str} {k : Nat} {sp : Sp} {e : Expr} {es : List Expr} {t : TA} {p pos : Pos}
theorem run_g {pins : List (Addr × Obj)} {σ : L2.St} {H : Hp} {s : Shared} {Q : VK} {us : List Value} {vs : List V} (F : FnG X.prog X.w X.K X.mg X.base k f fd ps sp) (hr : RoomG k X.A) (hb : Binds X.K fd ps [])
    (I : Inv X pins σ H s) (r : Vals vs us) (h : sp vs H Q E0) : wpAny (model X.prog X.w) X.A (call (.ref f) us) (EP X pins σ Q) X.xe s := by
  have lu : us.length = ps.length := by rw [← r.length]; exact F.len _ _ _ _ h
  have bd : BindsTo s fd ⟨us, []⟩ (ps.zip us) := by
    have := hb s us I.kIn (by rw [List.append_nil]; exact lu)
    rwa [List.append_nil] at this
  refine wpAny_call (codeAny_mono (F.run X.A X.stack s H ⟨us, []⟩ us vs Q E0 hr I.env0 bd r h) fun res s' hq => ?_)
  cases res with
  | error ex => exact pass0 pins σ H s ex s' I hq
  | ok fl =>
    cases fl with
    | ret u => exact I.after hq
    | next => exact hq.elim
    | brk => exact hq.elim
    | cont => exact hq.elim
theorem pe_callG (F : FnG X.prog X.w X.K X.mg X.base k f fd ps sp) (hr : RoomG k X.A) (hg : Gl X x) (hm : X.mg x = some (.ref f)) (hk : PySem.W.keepIn X.K (.ref f) = true) (hb : Binds X.K fd ps [])
    (ha : PA X (e :: es) t) (hdb : (x == ("__debug__" : Str)) = false := by decide) (hst : starEach (e :: es) X.env = (false, eval e X.env) :: starEach es X.env := by rfl) (hpl : (backTo pos (starEach es X.env)).any (·.1) = false := by rfl) :
    PE X (.Call (.Name x p) (e :: es) [] pos) (fun σ H Q => t σ H fun vs H1 => sp vs H1 Q E0) := by
  refine ⟨fun pins s σ H Q I h => ?_⟩
  refine wpAny_Call_Name_kw (ld_glob I hg hm ?_ hdb)
  exact PySem.W.callWith_K (h₀ := X.base) I.ok.mod.kin hk (thn (ha.run pos pins s σ H _ I h) fun us s1 ⟨vs, H1, I1, r, q⟩ => ⟨I1.kIn, run_g F hr hb I1 r q⟩) hst hpl
end
/-! ### repr of data -/
def rRepr (K : PySem.W.Frag) : List V → Hp → VK → Prop := fun xs H Q => ∃ v d, xs = [v] ∧ Dp K H v d ∧ d.showable = true ∧ d.hasDict = false ∧ d.depth ≤ 64 ∧ d.shown.length ≤ sizeLine ∧ Q (.str d.shown) H
theorem cr_repr {X : Cx} (hg : X.A.guards = some []) (hu : X.A.units + 64 + 1 < cLine) : CallR X (.builtin "repr") (rRepr X.K) := by
  intro pins s σ H xs us Q I r h
  obtain ⟨v, d, rfl, hd, h1, h2, h3, h4, q⟩ := h
  obtain ⟨u, rfl, ru⟩ := vals1 r
  cases d with
  | none =>
    cases hd
    cases ru
    exact PySem.P.repr_of_none ⟨.str _, H, I.tok _, ⟨_, rfl⟩, q⟩
  | bool b =>
    cases hd
    cases ru
    refine PySem.P.repr_of_bool ⟨.str (if b then "True" else "False"), H, I.tok _, ⟨_, rfl⟩, q⟩
  | int i =>
    cases hd
    obtain ⟨t, rfl⟩ := ru
    rw [PyData.showable] at h1
    exact PySem.P.repr_of_int (of_decide_eq_true h1) ⟨.str _, H, I.tok _, ⟨_, rfl⟩, q⟩
  | str z =>
    cases hd
    obtain ⟨t, rfl⟩ := ru
    exact PySem.P.repr_of_str ⟨.str _, H, I.tok _, ⟨_, rfl⟩, q⟩ h4
  | dict kvs => cases hd
  | list ds =>
    obtain ⟨as, rd⟩ := Dp.reads I _ _ _ hd ru
    cases hd
    have eu : u = Value.ref _ := ru
    subst eu
    refine PySem.repr_of_reads' rd h1 (fun z => by rw [h2] at z; cases z) hg (by omega) (fun _ _ e => e) (fun h' t tk hk => ?_) h4
    exact ⟨.str _, H, I.kept hk, ⟨t, rfl⟩, q⟩
  | tuple ds =>
    obtain ⟨as, rd⟩ := Dp.reads I _ _ _ hd ru
    cases hd
    have eu : u = Value.ref _ := ru
    subst eu
    refine PySem.repr_of_reads' rd h1 (fun z => by rw [h2] at z; cases z) hg (by omega) (fun _ _ e => e) (fun h' t tk hk => ?_) h4
    exact ⟨.str _, H, I.kept hk, ⟨t, rfl⟩, q⟩
def gRepr (rs : List SV) (Q : SV → Prop) : Prop := match rs with
  | [x] => opt x.now? fun d => (d.canLay0 = true ∧ d.showable = true ∧ d.hasDict = false ∧ d.depth ≤ 64 ∧ d.shown.length ≤ sizeLine) ∧ Q (.d (.str d.shown))
  | _ => False
theorem cd_repr {X : Cx} {B : Bk} (hK : X.K = B.K) : CallD B (rRepr X.K) gRepr := fun rs vs Ha G F H τ Qv Q k r h fin => by
  unfold gRepr at h
  split at h
  · obtain ⟨d, ed, ⟨h0, h1, h2, h3, h4⟩, h⟩ := opt_of h
    obtain ⟨v, rfl, rx⟩ := r.one
    rw [hK]
    exact ⟨v, d, rfl, rx.now k.same ed h0, h1, h2, h3, h4, fin.d k (.str _) h⟩
  · exact h.elim
theorem RoomG.un {k : Nat} {A : Around} (h : RoomG k A) : A.units + 64 + 1 < cLine := by
  have := h.r.un
  omega
theorem RoomG.units {k : Nat} {A : Around} (h : RoomG k A) : A.units + 64 < cLine := by
  have := h.r.un
  omega
end Z
namespace Z
open PySem L2 PySem.Spec PyProof.Rows
structure KnownG (P : Program) (w : World) (K : PySem.W.Frag) (mg : Str → Option Value) (base : Heap) (S : Sto) (x : Str) (ps : List Str) (k : Nat) (FF : FW S.T) : Prop where
  ex : ∃ f fd, FnG P w K mg base k f fd ps (spD S K FF) ∧ mg x = some (.ref f) ∧ PySem.W.keepIn K (.ref f) = true ∧ Binds K fd ps []
section
variable {X : Cx} {B : Bk} {e : Expr} {es : List Expr} {pos p : Pos} {ta : WA B.T} {FF : FW B.S.T} {ps : List Str} {k : Nat} {x : Str}
theorem de_callG (hK : X.K = B.K) (h : KnownG X.prog X.w X.K X.mg X.base B.S x ps k FF) (hr : RoomG k X.A) (hg : Gl X x)
    (ha : PA X (e :: es) (liftA B ta)) (hdb : (x == ("__debug__" : Str)) = false := by decide) (hst : starEach (e :: es) X.env = (false, eval e X.env) :: starEach es X.env := by rfl) (hpl : (backTo pos (starEach es X.env)).any (·.1) = false := by rfl) :
    PE X (.Call (.Name x p) (e :: es) [] pos) (lift B (dCall FF ta)) := by
  obtain ⟨f, fd, F, hm, hk, hb⟩ := h.ex
  rw [hK] at F
  refine pe_imp (pe_callG (by rw [hK]; exact F) hr hg hm hk hb ha hdb hst hpl) fun σ H Q z9 => ex53 z9 fun G Fp env τ Qd s t fin => ⟨G, Fp, env, τ, _, s, t, fun rs τ1 G1 F1 H1 vs f1 r1 ⟨dr, q⟩ => ?_⟩
  exact ⟨G1, F1, τ1, rs, Qd, H, f1.k, r1, dr, q, fun r τ' G' F' H' v st ok res qd => fin r τ' G' F' H' v (f1.trans ⟨st, ok⟩) (res.back (dead f1.s.dom)) qd⟩
end
/-- a def that asks nothing of the kind -/
theorem FnG.of {P : Program} {w : World} {K : PySem.W.Frag} {mg : Str → Option Value} {base : Heap} {k : Nat} {f : Addr} {fd : FuncData} {ps : List Str} {sp : Sp} (F : FnOk P w K mg base CX0 k f fd ps sp) : FnG P w K mg base k f fd ps sp :=
  ⟨F.len, fun A st s H as us vs Q E rg => F.run A st s H as us vs Q E rg.r⟩
theorem KnownG.of {P : Program} {w : World} {K : PySem.W.Frag} {mg : Str → Option Value} {base : Heap} {S : Sto} {x : Str} {ps : List Str} {k : Nat} {FF : FW S.T} (h : Known P w K mg base S x ps k FF) : KnownG P w K mg base S x ps k FF :=
  let ⟨f, fd, F, hm, hk, hb⟩ := h.ex
  ⟨f, fd, .of F, hm, hk, hb⟩
end Z
namespace Z
open PySem L2
/-! ### more built-ins over lists -/
section
variable {X : Cx} {B : Bk}
def gTupC (rs : List SV) (Q : SV → Prop) : Prop := match rs with
  | [x] => opt x.seqd? fun xs => Q (.d (.tuple xs))
  | _ => False
def rTupC (K : PySem.W.Frag) : List V → Hp → VK → Prop := fun xs H Q => ∃ p ys, xs = [.ref p] ∧ ((SqL K H p ys ∧ ∀ l, H l = none → Q (.ref l) (upd H l (.tup ys))) ∨ (SqT K H p ys ∧ Q (.ref p) H))
theorem cd_tuple (hK : X.K = B.K) : CallD B (rTupC X.K) gTupC := fun rs vs Ha G F H τ Qv Q k r h fin => by
  unfold gTupC at h
  split at h
  · rename_i x
    obtain ⟨xs, ex, h⟩ := opt_of h
    obtain ⟨v, rfl, rx⟩ := r.one
    rw [hK]
    by_cases ht : x = .d (.tuple xs)
    · subst ht
      obtain ⟨p, ws, e1, hs, a⟩ := rtup rx
      exact ⟨p, ws, by rw [e1], .inr ⟨same_seqT k.same hs, by rw [← e1]; exact fin.d k rx h⟩⟩
    · have el : x.lst? = some xs := by
        cases x with
        | d y =>
          cases y with
          | list ys => cases ex; rfl
          | tuple ys => cases ex; exact absurd rfl ht
          | _ => cases ex
        | ol ys => cases ex; rfl
        | vw ys => cases ex; rfl
        | _ => cases ex
      obtain ⟨p, ws, e1, hs, a⟩ := rx.sql k.same el
      exact ⟨p, ws, by rw [e1], .inl ⟨hs.sql, fun l hl => fin.tup k hl a h⟩⟩
  · exact h.elim
def gLstC (rs : List SV) (Q : SV → Prop) : Prop := match rs with
  | [x] => opt x.seqd? fun xs => Q (.ol xs)
  | _ => False
def rLstC (K : PySem.W.Frag) : List V → Hp → VK → Prop := fun xs H Q => ∃ p ys, xs = [.ref p] ∧ (SqL K H p ys ∨ SqT K H p ys) ∧ ∀ l, H l = none → Q (.ref l) (upd H l (.lst ys))
theorem cd_list (hK : X.K = B.K) : CallD B (rLstC X.K) gLstC := fun rs vs Ha G F H τ Qv Q k r h fin => by
  unfold gLstC at h
  split at h
  · obtain ⟨xs, ex, h⟩ := opt_of h
    obtain ⟨v, rfl, rx⟩ := r.one
    obtain ⟨p, ws, e1, hs, a⟩ := rx.seqd k.same ex
    rw [hK]
    exact ⟨p, ws, by rw [e1], hs, fun l hl => fin.ol k hl a h⟩
  · exact h.elim
end
/-! ### x.pop() -/
/-! ### calls without arguments, where repr may be asked -/
section
variable {X : Cx} {B : Bk} {pos p : Pos} {FF : FW B.S.T} {ps : List Str} {k : Nat} {x : Str}
theorem de_callG0 (hK : X.K = B.K) (h : KnownG X.prog X.w X.K X.mg X.base B.S x ps k FF) (hr : RoomG k X.A) (hg : Gl X x) (hdb : (x == ("__debug__" : Str)) = false := by decide) :
    PE X (.Call (.Name x p) [] [] pos) (lift B (dCall FF dNil)) := by
  obtain ⟨f, fd, F, hm, hk, hb⟩ := h.ex
  refine ⟨fun pins s σ H Q I z9 => ex53 z9 fun G Fp env τ Qd st t fin => ?_⟩
  refine wpAny_Call_Name_kw (ld_glob I hg hm ?_ hdb)
  refine PySem.W.callWith_K0 I.kIn hk (run_g (us := []) (vs := []) F hr hb I .nil ?_)
  rw [hK]
  exact ⟨G, Fp, τ, [], Qd, H, st.k, .nil, rfl, t.2, fun r τ' G' F' H' v st2 ok res qd => fin r τ' G' F' H' v ⟨st2, ok⟩ res qd⟩
end
/-! ### the readings -/
def kSe (Q : SV → Prop) (f : List D → SV) : Option (List D) → Prop
  | some xs => Q (f xs)
  | none => False
theorem kSe_1 {Q : SV → Prop} {f : List D → SV} {xs : List D} : kSe Q f (some xs) = Q (f xs) := rfl
theorem gTupC_k (x : SV) (Q : SV → Prop) : gTupC [x] Q = kSe Q (fun xs => .d (.tuple xs)) x.seqd? := opt_e (fun _ => rfl) rfl
theorem gLstC_k (x : SV) (Q : SV → Prop) : gLstC [x] Q = kSe Q (fun xs => .ol xs) x.seqd? := opt_e (fun _ => rfl) rfl
end Z
namespace Z
open PySem L2
/-! ### x op= e, over ints -/
section
variable {T : Type}
def kAu (f : Int → Int → Int) (i : Nat) (D : DEnds T) (env : List SV) (a : Int) (r : SV) (τ : T) : Prop := ∃ b, r = .d (.int b) ∧ D.nx (env.set i (.d (.int (f a b)))) τ
theorem kAu_i {f : Int → Int → Int} {i : Nat} {D : DEnds T} {env : List SV} {a b : Int} {τ : T} : kAu f i D env a (.d (.int b)) τ = D.nx (env.set i (.d (.int (f a b)))) τ := by simp [kAu]
def kAug (f : Int → Int → Int) (i : Nat) (te : W T) (D : DEnds T) (env : List SV) (τ : T) : Option SV → Prop
  | some (.d (.int a)) => te env τ (kAu f i D env a)
  | _ => False
theorem kAug_1 {f : Int → Int → Int} {i : Nat} {te : W T} {D : DEnds T} {env : List SV} {τ : T} {a : Int} : kAug f i te D env τ (some (.d (.int a))) = te env τ (kAu f i D env a) := rfl
end
/-! ### range with a step -/
def rgC (lo c : Int) (n : Nat) : List D := (List.range n).map fun i => .int (lo + (i : Nat) * c)
section
variable {X : Cx} {B : Bk} {tg : Expr} {pos : Pos}
def dRng3 {T : Type} (ta : WA T) : WI T := fun env τ Q => ta env τ fun rs τ1 => ∃ (i j c : Int) (n : Nat), rs = [.d (.int i), .d (.int j), .d (.int c)] ∧ RgC i j c n ∧ Q (rgC i c n) τ1
end
section
variable {T : Type}
def kR3 (Q : List D → T → Prop) (rs : List SV) (τ : T) : Prop := ∃ (i j c : Int) (n : Nat), rs = [.d (.int i), .d (.int j), .d (.int c)] ∧ RgC i j c n ∧ Q (rgC i c n) τ
theorem dRng3_k (ta : WA T) (env : List SV) (τ : T) (Q : List D → T → Prop) : dRng3 ta env τ Q = ta env τ (kR3 Q) := rfl
end
end Z
namespace Z
open PySem L2
/-! ### x.bit_length() -/
section
variable {X : Cx} {B : Bk} {o : Expr} {apos pos : Pos} {te : W B.T}
def gBits (x : SV) (Q : SV → Prop) : Prop := match x with
  | .d (.int i) => Q (.d (.int (Builtin.Int.intBits i : Nat)))
  | _ => False
theorem gBits_k {i : Int} {Q : SV → Prop} : gBits (.d (.int i)) Q = Q (.d (.int (Builtin.Int.intBits i : Nat))) := rfl
end
end Z
/-! ### an exception that was caught, kept as a value -/
namespace Z
open PySem PySem.Spec PyProof.Rows L2
/-- an exception's object at a: its class, its dict -/
def exV (cls : Value) (d : Option Addr) (a : Addr) : HO := .ext fun h => ∃ (ob : Obj) (fs : Array Value), h.get? a = some ob ∧ Zc cls d ob ∧ ob.data = .fields fs
end Z
/-! ### a lambda without parameters handed to a def: which things stay -/
namespace Z
open PySem L2
/-! ### the store: what is drawn by, cells (dicts, lists, instances), tables of code objects -/
inductive Cel where
  | dk (m : List (Key × D))
  | dt (m : List (List Key × D))
  | ls (xs : List D)
  | dv (kvs : List (Key × V))
  | ins (C dx : Addr) (fs : List (Str × SV))
  /-- a dict with tuples for keys, being walked -/
  | lk (od : Obj) (kvs : List (List Key × V))
def Cel.own : Cel → Addr → Prop
  | .ins _ dx _, p => p = dx
  | _, _ => False
structure T2 where
  dr : DrT
  cs : List (Addr × Cel)
def FvR (K : PySem.W.Frag) (G : Hp) (v : V) : SV → Prop
  | .d x => Rp K G v x
  | .raw u => v = u
  | _ => False
theorem FvR.mono {K : PySem.W.Frag} {G G' : Hp} (e : Same G G') {v : V} : ∀ {s : SV}, FvR K G v s → FvR K G' v s
  | .d _, h => Rp.mono e h
  | .raw _, h => h
  | .no, h => h.elim
  | .ol _, h => h.elim
  | .vw _, h => h.elim
def CelR (K : PySem.W.Frag) (G H : Hp) (p : Addr) : Cel → Prop
  | .dk m => ∃ kvs : List (Key × V), H p = some (.dK kvs) ∧ Paired (fun (x : Key × V) (y : Key × D) => x.1 = y.1 ∧ Rp K G x.2 y.2) kvs m
  | .dt m => ∃ kvs : List (List Key × V), H p = some (.dT kvs) ∧ Paired (fun (x : List Key × V) (y : List Key × D) => x.1 = y.1 ∧ Rp K G x.2 y.2) kvs m
  | .ls xs => ∃ vs, H p = some (.lst vs) ∧ RpAll K G vs xs
  | .dv kvs => H p = some (HO.dK kvs)
  | .lk od kvs => H p = some (HO.frz od (HO.dT kvs))
  | .ins C dx fs => ∃ fv : List (Str × V), H p = some (.ins C dx fv) ∧ H dx = some (.own p) ∧ Paired (fun (x : Str × V) (y : Str × SV) => x.1 = y.1 ∧ FvR K G x.2 y.2) fv fs
theorem CelR.mono {K : PySem.W.Frag} {G G' H H' : Hp} {p : Addr} (e : Same G G') : ∀ {c : Cel}, CelR K G H p c → H' p = H p → (∀ q, c.own q → H' q = H q) → CelR K G' H' p c
  | .dk _, ⟨kvs, h, r⟩, q, _ => ⟨kvs, by rw [q]; exact h, Paired.mapP r fun _ _ z => ⟨z.1, z.2.mono e⟩⟩
  | .dt _, ⟨kvs, h, r⟩, q, _ => ⟨kvs, by rw [q]; exact h, Paired.mapP r fun _ _ z => ⟨z.1, z.2.mono e⟩⟩
  | .ls _, ⟨vs, h, r⟩, q, _ => ⟨vs, by rw [q]; exact h, r.mono e⟩
  | .dv kvs, h, q, _ => by
    have h : H p = Option.some (HO.dK kvs) := h
    show H' p = Option.some (HO.dK kvs)
    rw [q]; exact h
  | .lk od kvs, h, q, _ => by
    have h : H p = Option.some (HO.frz od (HO.dT kvs)) := h
    show H' p = Option.some (HO.frz od (HO.dT kvs))
    rw [q]; exact h
  | .ins _ dx _, ⟨fv, h, h2, r⟩, q, q2 => ⟨fv, by rw [q]; exact h, by rw [q2 dx rfl]; exact h2, Paired.mapP r fun _ _ z => ⟨z.1, z.2.mono e⟩⟩
theorem CelR.some {K : PySem.W.Frag} {G H : Hp} {p : Addr} : ∀ {c : Cel}, CelR K G H p c → ∃ o, H p = some o ∧ (∀ ps, o ≠ .tbl ps) ∧ ∀ x, o ≠ .own x
  | .dk _, ⟨_, h, _⟩ => ⟨_, h, (fun _ z => by cases z), (fun _ z => by cases z)⟩
  | .dt _, ⟨_, h, _⟩ => ⟨_, h, (fun _ z => by cases z), (fun _ z => by cases z)⟩
  | .ls _, ⟨_, h, _⟩ => ⟨_, h, (fun _ z => by cases z), (fun _ z => by cases z)⟩
  | .dv kvs, h => ⟨HO.dK kvs, (id h : H p = Option.some (HO.dK kvs)), (fun _ z => by cases z), (fun _ z => by cases z)⟩
  | .lk od kvs, h => ⟨HO.frz od (HO.dT kvs), (id h : H p = Option.some (HO.frz od (HO.dT kvs))), (fun _ z => by cases z), (fun _ z => by cases z)⟩
  | .ins _ _ _, ⟨_, h, _⟩ => ⟨_, h, (fun _ z => by cases z), (fun _ z => by cases z)⟩
theorem CelR.own {K : PySem.W.Frag} {G H : Hp} {p q : Addr} : ∀ {c : Cel}, CelR K G H p c → c.own q → H q = .some (.own p)
  | .ins _ _ _, ⟨_, _, h, _⟩, e => by cases e; exact h
  | .dk _, _, e => e.elim
  | .dt _, _, e => e.elim
  | .ls _, _, e => e.elim
  | .dv _, _, e => e.elim
  | .lk _ _, _, e => e.elim
def drF : DrT → Addr → Prop
  | .off, _ => False
  | .on a _, p => p = a
def celF (cs : List (Addr × Cel)) (p : Addr) : Prop := ∃ e ∈ cs, e.1 = p ∨ e.2.own p
def tF (Ts : List (Addr × Str)) (t : T2) (p : Addr) : Prop := drF t.dr p ∨ celF t.cs p ∨ p ∈ Ts.map (·.1)
def drP (K : PySem.W.Frag) (cs : List (Addr × Cel)) (G H : Hp) : DrT → Prop
  | .off => True
  | .on a b => DrAt K G H a b ∧ ∀ e ∈ cs, e.1 ≠ a
def TbR (G H : Hp) (p : Addr × Str) : Prop := ∃ ps : Array Value, H p.1 = some (.tbl ps) ∧ TriplesOk ps.toList ∧ ∀ (pos : Pos) (cv : Value), codeAmong pos ps.toList = some cv → ∃ c, cv = .ref c ∧ G c = some (LamX.CodeO c p.2)
structure TR (Ts : List (Addr × Str)) (K : PySem.W.Frag) (t : T2) (G : Hp) (F : Addr → Prop) (H : Hp) : Prop where
  f : ∀ p, F p ↔ tF Ts t p
  dr : drP K t.cs G H t.dr
  cs : ∀ e ∈ t.cs, CelR K G H e.1 e.2
  nd : (t.cs.map (·.1)).Nodup
  tb : ∀ p ∈ Ts, TbR G H p
theorem DrAt.mono {K : PySem.W.Frag} {G G' H H' : Hp} {a : Addr} {b : Nat} (h : DrAt K G H a b) (e : Same G G') (q : H' a = H a) : DrAt K G' H' a b := by
  obtain ⟨c, cs, i, l, u, h1, h2, h3, h4⟩ := h
  exact ⟨c, cs, i, l, u, by rw [q]; exact h1, same_sqp e h2, h3, h4⟩
theorem DrAt.some {K : PySem.W.Frag} {G H : Hp} {a : Addr} {b : Nat} (h : DrAt K G H a b) : ∃ kvs, H a = some (.dK kvs) := by
  obtain ⟨c, cs, i, l, u, h1, h2, h3, h4⟩ := h
  exact ⟨_, h1⟩
theorem drP.mono {K : PySem.W.Frag} {cs : List (Addr × Cel)} {G G' H H' : Hp} (e : Same G G') : ∀ {d : DrT}, drP K cs G H d → (∀ p, drF d p → H' p = H p) → drP K cs G' H' d
  | .off, _, _ => trivial
  | .on a b, ⟨h, n⟩, q => ⟨h.mono e (q a rfl), n⟩
theorem TbR.mono {G G' H H' : Hp} {p : Addr × Str} (h : TbR G H p) (e : Same G G') (q : H' p.1 = H p.1) : TbR G' H' p := by
  obtain ⟨ps, h1, h2, h3⟩ := h
  exact ⟨ps, by rw [q]; exact h1, h2, fun pos cv hc => let ⟨c, a, b⟩ := h3 pos cv hc; ⟨c, a, e _ _ b⟩⟩
def theT (Ts : List (Addr × Str)) : Sto where
  T := T2
  tb := fun a => a ∈ Ts.map (·.1)
  R := fun K t G F H => TR Ts K t G F H
  st := fun {K t G G' F H H'} r sm e => by
    have e : ∀ a, tF Ts t a → H' a = H a := fun a h => e a ((r.f a).mpr h)
    refine ⟨r.f, r.dr.mono sm fun p h => e p (.inl h), fun x hx => (r.cs x hx).mono sm (e _ (.inr (.inl ⟨x, hx, .inl rfl⟩))) fun q hq => e q (.inr (.inl ⟨x, hx, .inr hq⟩)), r.nd, fun p hp => (r.tb p hp).mono sm (e _ (.inr (.inr (List.mem_map.mpr ⟨p, hp, rfl⟩))))⟩
/-! ### a def that knows of nothing but what is drawn by -/
def frm (FF : FW DrT) : FW T2 := fun rs τ Q => FF rs τ.dr fun r d => r.out = true ∧ Q r ⟨d, τ.cs⟩
section
variable {Ts : List (Addr × Str)} {K : PySem.W.Frag} {τ : T2} {G H : Hp} {F : Addr → Prop}
/-- no tuple is the store's -/
theorem Ok.notup {vs : List V} {a : Addr} (k : Ok (theT Ts) K τ G F H) (e : H a = some (.tup vs)) : ¬ F a := fun z => by
  have r : TR Ts K τ G F H := k.r
  rcases (r.f a).mp z with z | ⟨x, hx, q⟩ | z
  · have hd := r.dr
    cases q : τ.dr with
    | off => rw [q] at z; exact z
    | on b n =>
      rw [q] at z hd
      have z : a = b := z
      subst z
      obtain ⟨kvs, h⟩ := hd.1.some
      rw [e] at h
      cases h
  · have c := r.cs x hx
    rcases q with q | q
    · rw [← q] at e
      cases x2 : x.2 with
      | dk m => rw [x2] at c; obtain ⟨_, h, _⟩ := c; rw [e] at h; cases h
      | dt m => rw [x2] at c; obtain ⟨_, h, _⟩ := c; rw [e] at h; cases h
      | ls m => rw [x2] at c; obtain ⟨_, h, _⟩ := c; rw [e] at h; cases h
      | dv m =>
        rw [x2] at c
        have h : H x.1 = Option.some (HO.dK m) := c
        rw [e] at h
        cases h
      | lk od m =>
        rw [x2] at c
        have h : H x.1 = Option.some (HO.frz od (HO.dT m)) := c
        rw [e] at h
        cases h
      | ins _ _ m => rw [x2] at c; obtain ⟨_, h, _⟩ := c; rw [e] at h; cases h
    · have h := c.own q
      rw [e] at h
      cases h
  · obtain ⟨x, hx, q⟩ := List.mem_map.mp z
    obtain ⟨ps, h, _⟩ := r.tb x hx
    have q : x.1 = a := q
    rw [q, e] at h
    cases h
theorem Ok.fr (k : Ok (theT Ts) K τ G F H) : Ok (theS (Ts.map (·.1))) K τ.dr G (drF τ.dr) H := by
  have r : TR Ts K τ G F H := k.r
  refine ⟨k.same, fun a h => k.gf a ((r.f a).mpr (.inl h)), fun a h => k.fh a ((r.f a).mpr (.inl h)), ?_, k.nt, k.nx⟩
  show drR K τ.dr G (drF τ.dr) H
  have hd := r.dr
  cases e : τ.dr with
  | off => exact fun a h => h
  | on a b =>
    rw [e] at hd
    exact ⟨fun p => Iff.rfl, hd.1⟩
theorem Ok.unfr (k : Ok (theT Ts) K τ G F H) {d : DrT} {G' H' : Hp} {F0 : Addr → Prop} (st : Step G (drF τ.dr) H G' F0 H') (ok : Ok (theS (Ts.map (·.1))) K d G' F0 H') :
    Step G F H G' (tF Ts ⟨d, τ.cs⟩) H' ∧ Ok (theT Ts) K ⟨d, τ.cs⟩ G' (tF Ts ⟨d, τ.cs⟩) H' := by
  have r : TR Ts K τ G F H := k.r
  have eF : ∀ p, F0 p ↔ drF d p := by
    have h : drR K d G' F0 H' := ok.r
    cases d with
    | off => exact fun p => ⟨fun z => (h p z).elim, fun z => z.elim⟩
    | on a b => exact h.1
  have inF : ∀ p, celF τ.cs p ∨ p ∈ Ts.map (·.1) → F p := fun p h => (r.f p).mpr (.inr h)
  -- what stands in cells and tables is none of what is drawn by
  have noDr : ∀ p o, H p = some o → (∀ kvs, o ≠ .dK kvs) → ¬ drF τ.dr p := fun p o e n z => by
    have hd := r.dr
    cases q : τ.dr with
    | off => rw [q] at z; exact z
    | on a b =>
      rw [q] at z hd
      have z : p = a := z
      subst z
      obtain ⟨kvs, h⟩ := hd.1.some
      rw [e] at h
      exact n _ (Option.some.inj h)
  have cellNo : ∀ e ∈ τ.cs, ¬ drF τ.dr e.1 := fun e he z => by
    have hd := r.dr
    cases q : τ.dr with
    | off => rw [q] at z; exact z
    | on a b =>
      rw [q] at z hd
      exact hd.2 e he z
  have stay : ∀ p, ¬ drF τ.dr p → ∀ o, H p = some o → H' p = H p := fun p n o e => by rw [e]; exact st.h p o n e
  have cellS : ∀ e ∈ τ.cs, H' e.1 = H e.1 ∧ ∀ q, e.2.own q → H' q = H q := fun e he => by
    obtain ⟨o, h1, _⟩ := (r.cs e he).some
    refine ⟨stay _ (cellNo e he) o h1, fun q hq => ?_⟩
    have h2 := (r.cs e he).own hq
    exact stay q (noDr q _ h2 fun _ z => by cases z) _ h2
  have tabS : ∀ p ∈ Ts, H' p.1 = H p.1 := fun p hp => by
    obtain ⟨ps, h, _⟩ := r.tb p hp
    exact stay _ (noDr _ _ h fun _ z => by cases z) _ h
  refine ⟨⟨st.g, fun a o n e => st.h a o (fun z => n ((r.f a).mpr (.inl z))) e, fun a o e => (st.gn a o e).imp id fun z => z.imp id fun ⟨⟨vs, z⟩, _⟩ => ⟨⟨vs, z⟩, k.notup z⟩, fun a h => ?_, fun a h => ?_, st.dom⟩, ⟨ok.same, fun a h => ?_, fun a h => ?_, ⟨fun p => Iff.rfl, ?_, fun e he => (r.cs e he).mono st.g (cellS e he).1 (cellS e he).2, r.nd, fun p hp => (r.tb p hp).mono st.g (tabS p hp)⟩, ok.nt, ok.nx⟩⟩
  · rcases h with h | h
    · rcases st.fn a ((eF a).mpr h) with z | z
      · exact .inl ((r.f a).mpr (.inl z))
      · exact .inr z
    · exact .inl (inF a h)
  · rcases (r.f a).mp h with z | z
    · exact .inl ((eF a).mp (st.ff a z))
    · exact .inr z
  · rcases h with h | h
    · exact ok.gf a ((eF a).mpr h)
    · have hF := inF a h
      cases q : G' a with
      | none => rfl
      | some o =>
        rcases st.gn a o q with z | z
        · rw [k.gf a hF] at z; cases z
        · rcases z with z | ⟨⟨vs, z⟩, _⟩
          · exact absurd z (k.fh a hF)
          · exact (k.notup z hF).elim
  · rcases h with h | h
    · exact ok.fh a ((eF a).mpr h)
    · exact st.dom a (k.fh a (inF a h))
  · have h : drR K d G' F0 H' := ok.r
    cases d with
    | off => trivial
    | on a b =>
      refine ⟨h.2, fun e he z => ?_⟩
      rcases st.fn a ((h.1 a).mpr rfl) with y | y
      · exact cellNo e he (by rw [z]; exact y)
      · obtain ⟨o, h1, _⟩ := (r.cs e he).some
        rw [z, y] at h1
        cases h1
/-- the promise at the wider store -/
theorem spD_fr {FF : FW DrT} {vs : List V} {Q : VK} {E : XK} (h : spD (theT Ts) K (frm FF) vs H Q E) : spD (theS (Ts.map (·.1))) K FF vs H Q E := by
  obtain ⟨G, F, τ, rs, Qd, Ha, k, r, dr, hf, fin⟩ := h
  refine ⟨G, drF τ.dr, τ.dr, rs, fun r d => r.out = true ∧ Qd r ⟨d, τ.cs⟩, Ha, k.fr, ?_, dr, hf, fun r' d' G' F' H' v st ok res q => ?_⟩
  · clear hf fin
    induction r with
    | nil => exact .nil
    | @cons a as v vs h t ih =>
      have d2 : (a.dr && as.all SV.dr) = true := dr
      rw [Bool.and_eq_true] at d2
      refine .cons ?_ (ih d2.2)
      cases a with
      | d x => exact h
      | raw v => exact h
      | no => exact h.elim
      | ol _ => cases d2.1
      | vw _ => cases d2.1
  · obtain ⟨st2, ok2⟩ := k.unfr st ok
    obtain ⟨qo, q⟩ := q
    refine fin r' ⟨d', τ.cs⟩ G' _ H' v st2 ok2 ?_ q
    have r : TR Ts K τ G F H := k.r
    have eF : ∀ p, F' p → tF Ts ⟨d', τ.cs⟩ p := fun p hp => by
      have h : drR K d' G' F' H' := ok.r
      cases d' with
      | off => exact (h p hp).elim
      | on a b => exact .inl ((h.1 p).mp hp)
    cases r' with
    | no => exact res
    | d x => exact res
    | raw v => exact res
    | ol xs =>
      obtain ⟨p, e, w⟩ := res
      refine ⟨p, e, w.at', w.g, fun z => ?_, w.new⟩
      rcases st2.fn p z with y | y
      · exact k.fh p y w.new
      · rcases z with z | z | z
        · have h : drR K d' G' F' H' := ok.r
          refine w.f ?_
          cases d' with
          | off => exact z.elim
          | on a b => exact (h.1 p).mpr z
        · exact k.fh p ((r.f p).mpr (.inr (.inl z))) w.new
        · exact k.fh p ((r.f p).mpr (.inr (.inr z))) w.new
    | vw xs => cases qo
end
end Z
namespace Z
open PySem L2
/-! ### exceptions as data -/
/-- an exception of the class at C, without fields -/
def exD (C : Addr) : D := .dict [(.none, .int (C : Nat))]
/-- what flies, told as data -/
def XR (K : PySem.W.Frag) (G : Hp) (x : D) (cls : Value) (d : Option Addr) : Prop :=
  (∃ C : Addr, x = exD C ∧ cls = .ref C ∧ d = none) ∨
  ∃ (C dx : Addr) (ks : List Str) (vs : List V) (ds : List D), x = .dict ((.none, .int (C : Nat)) :: (ks.map PyData.str).zip ds) ∧ cls = .ref C ∧ d = some dx ∧ G dx = some (.xd (ks.zip vs)) ∧ RpAll K G vs ds
/-- a caught one, kept -/
theorem XR.rp {K : PySem.W.Frag} {G G' : Hp} {x : D} {cls : Value} {d : Option Addr} {a : Addr} (h : XR K G x cls d) (sm : Same G G') (e : G' a = some (exV cls d a)) : Rp K G' (.ref a) x := by
  rcases h with ⟨C, rfl, rfl, rfl⟩ | ⟨C, dx, ks, vs, ds, rfl, rfl, rfl, h1, h2⟩
  · exact .exc e fun h z => z
  · exact .exf e (fun h z => z) (sm _ _ h1) (h2.mono sm)
/-- a promise with a way out by an exception -/
abbrev FWX (T : Type) := List SV → T → (SV → T → Prop) → (D → T → Prop) → Prop
def spDX (S : Sto) (K : PySem.W.Frag) (FX : FWX S.T) : Sp := fun vs H Q E => ∃ G F τ rs Qd Ed Ha, Ok S K τ G F H ∧ ResAll K Ha G F H rs vs ∧ rs.all SV.dr = true ∧ FX rs τ Qd Ed ∧
  (∀ r τ' G' F' H' v, Step G F H G' F' H' → Ok S K τ' G' F' H' → Res K H G' F' H' r v → Qd r τ' → Q v H') ∧
  ∀ x τ' G' F' H' cls d, Step G F H G' F' H' → Ok S K τ' G' F' H' → XR K G' x cls d → Ed x τ' → E cls d H'
def dCallX {T : Type} (FX : FWX T) (Ed : D → T → Prop) (ta : WA T) : W T := fun env τ Q => ta env τ fun rs τ1 => rs.all SV.dr = true ∧ FX rs τ1 Q Ed
structure KnownX (P : Program) (w : World) (K : PySem.W.Frag) (mg : Str → Option Value) (base : Heap) (S : Sto) (x : Str) (ps : List Str) (k : Nat) (FX : FWX S.T) : Prop where
  ex : ∃ f fd, FnOk P w K mg base (L2.CX P w) k f fd ps (spDX S K FX) ∧ mg x = some (.ref f) ∧ PySem.W.keepIn K (.ref f) = true ∧ Binds K fd ps []
section
variable {X : Cx} {B : Bk} {e : Expr} {es : List Expr} {pos p : Pos} {ta : WA B.T} {FX : FWX B.S.T} {Ed : D → B.T → Prop} {E : XK} {ps : List Str} {k : Nat} {x : Str}
/-! raise -/
def dRaise {T : Type} (x : D) (Ed : D → T → Prop) : WS T := fun _ _ τ => Ed x τ
end
/-! ### isinstance of an exception -/
structure ExC (K : PySem.W.Frag) (D : Addr) : Prop where
  c : (PySem.W.clsIn K D).isSome = true
  hg : PySem.W.findIn K (.ref D) "__getattribute__" = some (some (.builtin "BaseException.__getattribute__"))
  hk : PySem.W.findIn K (.ref D) "__getattr__" = some none
  hs : PySem.W.subIn K (.ref D) (.type "BaseException") = some true
  ha : PySem.W.findIn K (.ref D) "__class__" = some (some (.builtin "object.__class__"))
  hn : PySem.W.specialIn K (.builtin "object.__class__") "__get__" = some (some (.builtin "getset_descriptor.__get__"))
  ht : PySem.W.takesIn K (.builtin "object.__class__") = some true
  hm : PySem.W.mroIn K D (.type "object") = some true
/-- the class of an exception's data -/
def exC? : D → Option Int
  | .dict ((.none, .int c) :: _) => some c
  | _ => none
section
variable {X : Cx} {B : Bk} {e : Expr} {cs : List Expr} {p q q2 pos : Pos} {te : W B.T} {us : List Value} {cv : List V} {kk : Nat}
/-- isinstance(e, C), isinstance(e, (C1, C2, ..)): classes of the program, or built-in ones -/
def dIsX {T : Type} (K : PySem.W.Frag) (us : List Value) (te : W T) : W T := fun env τ Q => te env τ fun r τ1 => ∃ (x : D) (C : Addr) (b : Bool), r = .d x ∧ exC? x = some (C : Nat) ∧ ExC K C ∧ PySem.W.kitAny K (.ref C) us = some b ∧ Q (.d (.bool b)) τ1
variable (hK : X.K = B.K) (hgi : Gl X "isinstance") (hmi : X.mg "isinstance" = none) (hvi : bootBuiltins "isinstance" = some (.builtin "isinstance"))
include hK hgi hmi hvi
end
end Z
namespace Z
open PySem PySem.Spec PyProof.Rows L2 LamX
/-! ### a lambda handed to a def that calls it and catches -/
/-- what a lambda does, by data -/
abbrev LD (T : Type) := T → (SV → T → Prop) → (D → T → Prop) → Prop
/-- a promise of a def that calls what it got -/
abbrev FC (T : Type) := LD T → T → (SV → T → Prop) → Prop
/-- what a lambda sees of its maker's slots -/
def capS : SV → SV
  | .ol _ => .no
  | s => s
def dLam {T : Type} (fc : FC T) (tb : (D → T → Prop) → W T) : W T := fun env τ Q => fc (fun τ' Q' Ed' => tb Ed' (env.map capS) τ' Q') τ Q
end Z
namespace Z
open PySem PySem.Spec PyProof.Rows L2 LamX
/-! ### try: told = deed() / except C as n: kept = n -/
theorem XR.cls {K : PySem.W.Frag} {G : Hp} {x : D} {cls : Value} {d : Option Addr} {C : Addr} (h : XR K G x cls d) (e : exC? x = some (C : Nat)) : cls = .ref C := by
  rcases h with ⟨C', rfl, rfl, _⟩ | ⟨C', dx, ks, vs, ds, rfl, rfl, _⟩
  · have e := Option.some.inj e
    rw [Int.ofNat.inj e]
  · have e := Option.some.inj e
    rw [Int.ofNat.inj e]
end Z
namespace Z
open PySem PySem.Spec PyProof.Rows L2 LamX
/-! ### the end, with the tables of those defs that make lambdas -/
abbrev lamQ (x : Str) : Str := (x ++ ".<locals>.") ++ "<lambda>"
/-- a def's name, its code object, its table -/
abbrev TN := Str × Addr × Addr
abbrev tsOf (Tn : List TN) : List (Addr × Str) := Tn.map fun e => (e.2.2, lamQ e.1)
def FF_lawT : FW T2 := fun rs τ Q => ∃ ns : List Int, rs = [.d (.list (ns.map PyData.int))] ∧ ns.length ≤ 63 ∧ τ = ⟨.off, []⟩ ∧ ∀ τ', Q (.d (.bool true)) τ'
theorem law_startT {Tn : List TN} {K : PySem.W.Frag} {H : Hp} {a : Addr} {ns : List Int} (hl : ns.length ≤ 63) (h : SqP K H a (ns.map V.int)) (ht : ∀ p ∈ tsOf Tn, H p.1 = some (.tbl #[])) (hnt : ∀ b ps, H b = some (.tbl ps) → b ∈ (tsOf Tn).map (·.1)) (hnx : ∀ b φ, H b ≠ some (.ext φ)) :
    spD (theT (tsOf Tn)) K FF_lawT [.ref a] H (fun v _ => v = .bl true) fun _ _ _ => False := by
  classical
  have isT : ∀ b, b ∈ (tsOf Tn).map (·.1) → H b = some (.tbl #[]) := fun b hb => by
    obtain ⟨p, hp, e⟩ := List.mem_map.mp hb
    rw [← e]; exact ht p hp
  have sm : Same (fun b => if b ∈ (tsOf Tn).map (·.1) then none else H b) H := fun b o e => by
    have e : (if b ∈ (tsOf Tn).map (·.1) then none else H b) = some o := e
    by_cases h : b ∈ (tsOf Tn).map (·.1)
    · rw [if_pos h] at e; cases e
    · rw [if_neg h] at e; exact e
  have hS : SqP K (fun b => if b ∈ (tsOf Tn).map (·.1) then none else H b) a (ns.map V.int) := by
    have na : ∀ o, H a = some o → (∀ ps, o ≠ .tbl ps) → (if a ∈ (tsOf Tn).map (·.1) then none else H a) = some o := fun o e n => by
      rw [if_neg fun z => n _ (Option.some.inj (e.symm.trans (isT a z)))]; exact e
    rcases h with (h | ⟨o, h⟩) | h
    · exact .inl (.inl (na _ h fun _ z => by cases z))
    · exact .inl (.inr ⟨o, na _ h fun _ z => by cases z⟩)
    · exact .inr h
  refine ⟨_, fun b => b ∈ (tsOf Tn).map (·.1), ⟨.off, []⟩, [.d (.list (ns.map PyData.int))], fun r _ => r = .d (.bool true), H, ⟨sm, fun b hb => if_pos hb, (fun b hb => by rw [isT b hb]; exact fun z => by cases z), ⟨fun p => ⟨fun h => .inr (.inr h), fun h => ?_⟩, trivial, fun e he => (nomatch he), List.nodup_nil, fun p hp => ⟨#[], ht p hp, True.intro, fun pos cv hc => ?_⟩⟩, hnt, fun b φ e => absurd e (hnx b φ)⟩,
    .cons (.lst hS (rp_ints ns)) .nil, rfl, ⟨ns, rfl, hl, rfl, fun _ => rfl⟩, ?_⟩
  · rcases h with h | ⟨e, he, _⟩ | h
    · exact h.elim
    · exact nomatch he
    · exact h
  · have z : codeAmong pos [] = some cv := hc
    simp [codeAmong] at z
  · rintro r τ' G' F' H' v _ _ res rfl
    exact rbl res
section
variable {P : Program} {w : World} {K : PySem.W.Frag} {mg mb : Str → Option Value} {k : Nat} {fa a : Addr} {fd : FuncData} {x : Str} {sp : Sp} {s₁ : Shared} {vs : List Value} {ns : List Int} {Tn : List TN}
theorem law_gT (KX : K.In s₁.heap) (nsM : s₁.heap.Ns mainGlobals mg) (nsB : s₁.heap.Ns builtinsNs mb) (bb : ∀ x : Str, x ≠ "__name__" → mb x = bootBuiltins x) (lim : s₁.heap.NoLimit) (noG : s₁.gens = #[])
    (hT : ∀ e ∈ Tn, PySem.W.CodeHd s₁.heap e.2.1 e.2.2 ∧ s₁.heap.get? e.2.2 = some (PySem.W.tabObj #[])) (nT : ∀ e ∈ Tn, K.lookup e.2.2 = none)
    (hbm : ∃ (bm : Addr) (ob : Obj), mg "__builtins__" = some (.ref bm) ∧ bm ≠ builtinsNs ∧ s₁.heap.get? bm = some ob ∧ ob.cls = .type "module" ∧ ob.dict = some builtinsNs ∧ ob.data = .plain)
    (ha : s₁.heap.get? a = some { cls := .type "list", data := .seq vs.toArray }) (hi : IntsAre vs ns) (hl : ns.length ≤ sizeLine) (hr : Room k callerA)
    (F : ∀ base : Heap, K.In base → base.Ns mainGlobals mg → (∀ e ∈ Tn, TabB base mg e.2.1 e.2.2) → FnG P w K mg base k fa fd [x] sp) (bd : ∀ (s : Shared) (u : Value), BindsTo s fd ⟨[u], []⟩ [(x, u)])
    (start : ∀ H : Hp, SqP K H a (ns.map V.int) → (∀ p ∈ tsOf Tn, H p.1 = some (.tbl #[])) → (∀ b ps, H b = some (.tbl ps) → b ∈ (tsOf Tn).map (·.1)) → (∀ b φ, H b ≠ some (.ext φ)) → sp [.ref a] H (fun v _ => v = .bl true) fun _ _ _ => False) :
    codeAny (model P w) callerA (.call (.ref fa) ⟨[.ref a], []⟩) (fun r s' => r = .ok (.ret (.bool true)) ∧ OldK s₁.heap s'.heap ∧ s'.os = s₁.os ∧ AllBare s'.gens) s₁ := by
  classical
  have rv := vals_ints hi
  have lv := hi.length
  have hz : (ns.map V.int).length ≤ sizeLine := by rw [List.length_map]; exact hl
  let obj : Obj := { cls := .type "list", data := .seq vs.toArray }
  let tbs : List Addr := Tn.map fun e => e.2.2
  have etb : (tsOf Tn).map (·.1) = tbs := by show (Tn.map fun e => (e.2.2, lamQ e.1)).map (·.1) = _; rw [List.map_map]; rfl
  have atT : ∀ b, b ∈ tbs → s₁.heap.get? b = some (PySem.W.tabObj #[]) := fun b hb => by
    obtain ⟨e, he, q⟩ := List.mem_map.mp hb
    rw [← q]; exact (hT e he).2
  have aT : a ∉ tbs := fun z => by
    have q := atT a z
    rw [ha] at q
    have z2 : Data.seq vs.toArray _ = Data.fields #[] := congrArg Obj.data (Option.some.inj q)
    cases z2
  have main : ∀ H : Hp, SqP K H a (ns.map V.int) → (∀ b ∈ tbs, H b = some (.tbl #[])) → HOk P w H s₁.heap → (∀ b u, H b = some u → (b = a ∧ u = .frz obj (.lst (ns.map V.int)) ∧ K.lookup a = none) ∨ (b ∈ tbs ∧ u = .tbl #[])) →
      codeAny (model P w) callerA (.call (.ref fa) ⟨[.ref a], []⟩) (fun r s' => r = .ok (.ret (.bool true)) ∧ OldK s₁.heap s'.heap ∧ s'.os = s₁.os ∧ AllBare s'.gens) s₁ := by
    intro H hS hTb ok only
    -- what is neither the script nor a table is untracked
    have free : ∀ {b : Addr} {o : Obj}, s₁.heap.get? b = some o → o.data ≠ obj.data → o.data ≠ .fields #[] → H b = none := fun {b o} e n1 n2 => by
      cases q : H b with
      | none => rfl
      | some u =>
        rcases only b u q with ⟨z, _⟩ | ⟨z, _⟩
        · subst z
          rw [ha] at e
          exact (n1 (congrArg Obj.data (Option.some.inj e)).symm).elim
        · rw [atT b z] at e
          exact (n2 (congrArg Obj.data (Option.some.inj e)).symm).elim
    have stay : ∀ {b : Addr} {o : Obj}, s₁.heap.get? b = some o → H b = none → (hidT s₁.heap H).get? b = some o := fun e n => hidT_get e n
    have freeD : ∀ {b : Addr} {o : Obj} {es : Array DictEntry} {ep : Nat}, s₁.heap.get? b = some o → o.data = .dict es ep → H b = none := fun {b o es ep} e d =>
      free e (fun z => by rw [d] at z; cases z) fun z => by rw [d] at z; cases z
    have nsH : ∀ {b : Addr} {m : Str → Option Value}, s₁.heap.Ns b m → (hidT s₁.heap H).Ns b m := fun {b m} ⟨o, es, ep, e, d, r⟩ => ⟨o, es, ep, stay e (freeD e d), d, r⟩
    have inH : K.In (hidT s₁.heap H) := fun b o e => stay (KX b o e) (by
      cases q : H b with
      | none => rfl
      | some u =>
        rcases only b u q with ⟨z, _, n⟩ | ⟨z, _⟩
        · subst z
          rw [n] at e
          cases e
        · obtain ⟨t, ht, et⟩ := List.mem_map.mp z
          rw [← et, nT t ht] at e
          cases e)
    have md : Mod K mg (hidT s₁.heap H) := ⟨inH, nsH nsM, ⟨mb, nsH nsB, bb⟩, let ⟨mc, h1, h2⟩ := lim; ⟨mc, nsH h1, h2⟩⟩
    have tabB : ∀ e ∈ Tn, TabB (hidT s₁.heap H) mg e.2.1 e.2.2 := fun e he => by
      obtain ⟨hc, hp⟩ := hT e he
      refine ⟨?_, ?_, fun z => ?_⟩
      · obtain ⟨o, us, file, tf, flags, tg, inF, text, tt, e1, r1, r2, r3, r⟩ := hc
        refine ⟨o, us, file, tf, flags, tg, inF, text, tt, stay e1 (free e1 (fun z => ?_) fun z => ?_), r1, r2, r3, r⟩
        · rw [r2] at z; cases z
        · rw [r2] at z
          cases z
          simp at r3
      · obtain ⟨bm, ob, b1, b2, b3, b4, b5, b6⟩ := hbm
        refine ⟨bm, ob, b1, b2, fun q => ?_, fun q => ?_, stay b3 (free b3 (fun z => ?_) fun z => ?_), b4, b5, b6⟩
        · obtain ⟨o, es, ep, e2, d2, _⟩ := nsM
          rw [q, e2] at b3
          cases b3
          rw [d2] at b6
          cases b6
        · rw [q, hp] at b3
          cases b3
          cases b6
        · rw [b6] at z; cases z
        · rw [b6] at z; cases z
      · obtain ⟨o, es, ep, e2, d2, _⟩ := nsM
        rw [z, hp] at e2
        cases e2
        cases d2
    have z0 : Env0 P w K mg (hidT s₁.heap H) callerA [] s₁ H := ⟨rfl, md, fun b o e => of_hidT e, Nat.le_of_eq (hidT_size _ _), trivial, fun b hb => (nomatch hb), ok, .of_eq noG⟩
    have st := start H hS (fun p hp => hTb _ (by rw [← etb]; exact List.mem_map.mpr ⟨p, hp, rfl⟩)) (fun b ps e => by
      rcases only b _ e with ⟨_, z, _⟩ | ⟨z, _⟩
      · cases z
      · rw [etb]; exact z) (fun b φ e => by
      rcases only b _ e with ⟨_, z, _⟩ | ⟨_, z⟩ <;> cases z)
    refine codeAny_mono ((F _ inH (nsH nsM) tabB).run callerA [] s₁ H ⟨[.ref a], []⟩ [.ref a] [.ref a] _ _ ⟨hr, rfl⟩ z0 (bd s₁ (.ref a)) (.cons rfl .nil) st) fun r s2 h => ?_
    match r, h with
    | .error e, h => exact False.elim h
    | .ok .next, h => exact False.elim h
    | .ok .brk, h => exact False.elim h
    | .ok .cont, h => exact False.elim h
    | .ok (.ret u), ⟨v, H2, os, bare, un, ok2, rr, q⟩ =>
      have q : v = .bl true := q
      subst q
      have eu : u = Value.bool true := rr
      subst eu
      have key : ∀ b o, b ∉ tbs → s₁.heap.get? b = some o → s2.heap.get? b = some o := fun b o nb e => by
        cases q : H b with
        | none => exact un.keep b o e q (fun z => nomatch z) (fun z => nomatch z)
        | some u =>
          rcases only b u q with ⟨z, eu, _⟩ | ⟨z, _⟩
          · subst eu
            obtain ⟨e1, _⟩ := ok b _ q
            obtain ⟨e2, _⟩ := ok2 b _ (un.frzs b obj _ q)
            rw [e] at e1
            cases e1
            exact e2
          · exact (nb z).elim
      have grown : ∀ b ∈ tbs, ∃ more : Array Value, s2.heap.get? b = some (PySem.W.tabObj more) := fun b hb => by
        obtain ⟨more, z⟩ := un.tbls b #[] (hTb b hb)
        exact ⟨_, ok2 b _ z⟩
      refine ⟨rfl, ⟨fun b o e => ?_, fun b o e => ?_⟩, os, bare⟩
      · by_cases hb : b ∈ tbs
        · obtain ⟨t, ht, et⟩ := List.mem_map.mp hb
          obtain ⟨more, hm⟩ := grown b hb
          rw [atT b hb] at e
          cases e
          have hc := ((hT t ht).1.tab (hT t ht).2).isCodeTable
          rw [et] at hc
          exact .inr (.inl ⟨hc, rfl, #[], more, rfl, by rw [Array.empty_append]; exact hm⟩)
        · exact .inl (key b o hb e)
      · by_cases hb : b ∈ tbs
        · obtain ⟨more, hm⟩ := grown b hb
          exact ⟨_, hm⟩
        · exact ⟨o, key b o hb e⟩
  cases hk : K.lookup a with
  | some o =>
    have e := KX a o hk
    rw [ha] at e
    cases e
    refine main (fun b => if b ∈ tbs then some (.tbl #[]) else none) (.inr ⟨vs, hk, hz, rv⟩) (fun b hb => if_pos hb) (fun b u z => ?_) fun b u z => ?_
    · by_cases hb : b ∈ tbs
      · have z2 := (if_pos hb).symm.trans z
        cases z2
        exact atT b hb
      · have z2 := (if_neg hb).symm.trans z
        cases z2
    · by_cases hb : b ∈ tbs
      · have z2 := (if_pos hb).symm.trans z
        cases z2
        exact .inr ⟨hb, rfl⟩
      · have z2 := (if_neg hb).symm.trans z
        cases z2
  | none =>
    refine main (fun b => if b = a then some (.frz obj (.lst (ns.map V.int))) else if b ∈ tbs then some (.tbl #[]) else none) (.inl (.inr ⟨obj, if_pos rfl⟩)) (fun b hb => (if_neg fun z => aT (by rw [← z]; exact hb)).trans (if_pos hb)) (fun b u z => ?_) fun b u z => ?_
    · by_cases hb : b = a
      · have z2 := (if_pos hb).symm.trans z
        cases z2
        subst hb
        exact ⟨ha, hz, vs, _, rv, ha⟩
      · have z1 := (if_neg hb).symm.trans z
        by_cases hb2 : b ∈ tbs
        · have z2 := (if_pos hb2).symm.trans z1
          cases z2
          exact atT b hb2
        · have z2 := (if_neg hb2).symm.trans z1
          cases z2
    · by_cases hb : b = a
      · have z2 := (if_pos hb).symm.trans z
        cases z2
        exact .inl ⟨hb, rfl, hk⟩
      · have z1 := (if_neg hb).symm.trans z
        by_cases hb2 : b ∈ tbs
        · have z2 := (if_pos hb2).symm.trans z1
          cases z2
          exact .inr ⟨hb2, rfl⟩
        · have z2 := (if_neg hb2).symm.trans z1
          cases z2
end
/-- the table of the code object at c -/
def codeTab (K : PySem.W.Frag) (c : Addr) : Option Addr := match K.lookup c with
  | some ⟨_, _, .fields vs, _⟩ => (match (vs[11]? : Option Value) with
    | some (.ref P) => some P
    | _ => none)
  | _ => none
/-- what the top tells of a def that makes lambdas -/
structure TabK (K : PySem.W.Frag) (e : TN) : Prop where
  t : codeTab K e.2.1 = some e.2.2
  c : PySem.W.codeHdIn K e.2.1 e.2.2 = true
  n : K.lookup e.2.2 = none
theorem walk_ofT {l : PySem.W.OpenLaw} {k : Nat} {q : Program} {loose : List Str} {XP : (Str → Option Value) → Heap → Prop} {YP : World → Heap → Prop} {d : DefRec} {K : Params → PySem.W.Frag} {x : Str} {Tn : List TN}
    (hn : l.most = some 63) (hdf : d.params.defaults = []) (hr : Room k callerA)
    (hY : ∀ (w : World) (h : Heap), YP w h → (K w.params).In h) (hTn : ∀ (w : World), ∀ e ∈ Tn, TabK (K w.params) e) (hTab : ∀ (w : World) (h : Heap), YP w h → ∀ e ∈ Tn, h.get? e.2.2 = some (PySem.W.tabObj #[]))
    (F : ∀ (w : World) (mg : Str → Option Value) (fa : Addr) (h : Heap), (K w.params).In h → h.Ns mainGlobals mg → mg d.name = some (.ref fa) →
      ∃ fd : FuncData, (∀ (s : Shared) (u : Value), BindsTo s fd ⟨[u], []⟩ [(x, u)]) ∧
        ∀ base : Heap, (K w.params).In base → base.Ns mainGlobals mg → (∀ e ∈ Tn, TabB base mg e.2.1 e.2.2) → FnG l.prog w (K w.params) mg base k fa fd [x] (spD (theT (tsOf Tn)) (K w.params) FF_lawT))
    : PySem.W.WalkO q loose XP YP l.row.toRowW d [] (fun f vs => PySem.call f vs) := by
  refine Att.attach_call hn hdf fun w s₀ s₁ mg mb fa o pm cd doc a vs ns G Y ho hd hcd hmg hobj hints hlen hg => ?_
  have KX := hY w _ Y
  obtain ⟨fd, hb, hF⟩ := F w mg fa _ KX G.T.g hmg
  have h63 : 63 ≤ sizeLine := by rw [sizeLine_eq]; decide
  have hT : ∀ e ∈ Tn, PySem.W.CodeHd s₁.heap e.2.1 e.2.2 ∧ s₁.heap.get? e.2.2 = some (PySem.W.tabObj #[]) := fun e he => by
    exact ⟨PySem.W.codeHd_of_K KX (hTn w e he).c, hTab w _ Y e he⟩
  exact law_gT KX G.T.g G.T.b G.T.builtins G.T.nolimit hg hT (fun e he => (hTn w e he).n) G.T.bmain hobj hints (Nat.le_trans hlen h63) hr hF hb fun H hS h1 h2 h3 => law_startT hlen hS h1 h2 h3
end Z
namespace Z
open PySem PySem.Spec PyProof.Rows L2
/-! ### defs at the wider store -/
section
variable {P : Program} {w : World} {K : PySem.W.Frag} {mg : Str → Option Value} {base : Heap} {Ts : List (Addr × Str)}
/-- a def of the law (repr may be asked in it, lambdas made) -/
theorem okG {x qual : Str} {st : Stmt} {f : Addr} {fd : FuncData} {N ps : List Str} {k : Nat} {FF : FW T2} (F : Fun K x qual st f fd) (Sc : FnScope N ps (defScope st)) (len : ∀ rs τ Q, FF rs τ Q → rs.length = ps.length) (hl : ps.length ≤ N.length)
    (hbody : ∀ (cdv : Value) (A : Around) (outer : List Env) (s : Shared) (H : Hp) (E : XK) (G : Hp) (Fp : Addr → Prop), fd.code = cdv → RoomG k (A.deeper (PyProof.Rows.envOfC qual (defScope st) s.heap.objs.size f cdv)) →
      ∃ t : WS T2, PSs (cxOf CX0 P w K mg base N qual (defScope st) f cdv A outer s H E).nox (defBody st) (liftS ⟨theT Ts, K, G, Fp, H⟩ t) ∧ ∀ (rs : List SV) (τ : T2) (Qd : SV → T2 → Prop), FF rs τ Qd → t ⟨fun _ τ' => Qd (.d .none) τ', Qd, fun _ _ => False, fun _ _ => False⟩ (rs ++ List.replicate (N.length - rs.length) .no) τ) :
    FnG P w K mg base (k + 1) f fd ps (spD (theT Ts) K FF) := by
  refine fng_of F Sc (fun vs H Q E z9 => by obtain ⟨G, F, τ, rs, Qd, Ha, ok, r, dr, h, fin⟩ := z9; rw [← r.length]; exact len _ _ _ h) fun cdv A outer s H vs Q E hcd hr z9 => ?_
  obtain ⟨G, Fp, τ, rs, Qd, Ha, ok, r, dr, h, fin⟩ := z9
  obtain ⟨t, d, sem⟩ := hbody cdv A outer s H E G Fp hcd hr
  have hle : rs.length ≤ N.length := by rw [len _ _ _ h]; exact hl
  exact ⟨_, d, G, Fp, _, τ, _, ⟨Step.refl _ _ _, ok, env_start (B := ⟨theT Ts, K, G, Fp, H⟩) r dr hle⟩, sem rs τ Qd h,
    ⟨fun G' F' σ' H' env' τ' _ st q => fin (.d .none) τ' G' F' H' .non st.s st.k Rp.non q, fun r τ' G' F' H' v f res q => fin r τ' G' F' H' v f.s f.k res q, fun _ _ _ _ _ _ _ _ q => q.elim, fun _ _ _ _ _ _ _ _ q => q.elim⟩⟩
/-- a def of the program that lets nothing out -/
theorem okP {x qual : Str} {st : Stmt} {f : Addr} {fd : FuncData} {N ps : List Str} {k : Nat} {FF : FW T2} (F : Fun K x qual st f fd) (Sc : FnScope N ps (defScope st)) (len : ∀ rs τ Q, FF rs τ Q → rs.length = ps.length) (hl : ps.length ≤ N.length)
    (hbody : ∀ (cdv : Value) (A : Around) (outer : List Env) (s : Shared) (H : Hp) (E : XK) (G : Hp) (Fp : Addr → Prop), Room k (A.deeper (PyProof.Rows.envOfC qual (defScope st) s.heap.objs.size f cdv)) →
      ∃ t : WS T2, PSs (cxOf CX0 P w K mg base N qual (defScope st) f cdv A outer s H E).nox (defBody st) (liftS ⟨theT Ts, K, G, Fp, H⟩ t) ∧ ∀ (rs : List SV) (τ : T2) (Qd : SV → T2 → Prop), FF rs τ Qd → t ⟨fun _ τ' => Qd (.d .none) τ', Qd, fun _ _ => False, fun _ _ => False⟩ (rs ++ List.replicate (N.length - rs.length) .no) τ) :
    FnOk P w K mg base CX0 (k + 1) f fd ps (spD (theT Ts) K FF) := okD (S := theT Ts) F Sc len hl hbody
/-! what is drawn by, at the wider store -/
def FF_begin : FW T2 := fun rs τ Q => ∃ (ns : List Int) (cs : List (Addr × Cel)), rs = [.d (.list (ns.map PyData.int))] ∧ ns.length ≤ 63 ∧ τ = ⟨.off, cs⟩ ∧ ∀ a, Q (.raw (.ref a)) ⟨.on a 1152921504606846976, cs⟩
def FF_next : FW T2 := fun rs τ Q => ∃ (a : Addr) (b : Nat) (n : Int) (cs : List (Addr × Cel)), rs = [.raw (.ref a), .d (.int n)] ∧ τ = ⟨.on a (b + 1), cs⟩ ∧ (0 < n ∧ n < 1073741824) ∧ ∀ r : Int, 0 ≤ r → r < n → Q (.d (.int r)) ⟨.on a b, cs⟩
theorem imp_fr {CX : CXT} {k : Nat} {f : Addr} {fd : FuncData} {ps : List Str} {FF : FW DrT} {FT : FW T2} (F : FnOk P w K mg base CX k f fd ps (spD (theS (Ts.map (·.1))) K FF)) (h : ∀ rs τ Q, FT rs τ Q → frm FF rs τ Q) : FnOk P w K mg base CX k f fd ps (spD (theT Ts) K FT) :=
  F.imp fun vs H Q E z9 => by
    obtain ⟨G, F, τ, rs, Qd, Ha, ok, r, dr, hf, fin⟩ := z9
    exact spD_fr ⟨G, F, τ, rs, Qd, Ha, ok, r, dr, h _ _ _ hf, fin⟩
theorem begin_fr (rs : List SV) (τ : T2) (Q : SV → T2 → Prop) : FF_begin rs τ Q → frm FF__law_begin rs τ Q := by
  rintro ⟨ns, cs, rfl, h, rfl, q⟩
  exact ⟨ns, rfl, h, rfl, fun a => ⟨rfl, q a⟩⟩
theorem next_fr (rs : List SV) (τ : T2) (Q : SV → T2 → Prop) : FF_next rs τ Q → frm FF__law_next rs τ Q := by
  rintro ⟨a, b, n, cs, rfl, rfl, h, q⟩
  exact ⟨a, b, n, rfl, rfl, h, fun r r0 r1 => ⟨rfl, q r r0 r1⟩⟩
end
theorem nextT {a : Addr} {b : Nat} {n : Int} {cs : List (Addr × Cel)} {Q : SV → T2 → Prop} (hb : 1 ≤ b) (h0 : 0 < n) (h1 : n < 1073741824) (h : ∀ r : Int, 0 ≤ r → r < n → Q (.d (.int r)) ⟨.on a (b - 1), cs⟩) : FF_next [.raw (.ref a), .d (.int n)] ⟨.on a b, cs⟩ Q :=
  ⟨a, b - 1, n, cs, rfl, by rw [Nat.sub_add_cancel hb], ⟨h0, h1⟩, h⟩
/-! ### how many there are of a tuple of ints, each once -/
def dis : List Int → List Int
  | [] => []
  | a :: r => if a ∈ r then dis r else a :: dis r
def tupI? : SV → Option (List Int)
  | .d (.tuple xs) => ints? xs
  | _ => none
def dLenSet {T : Type} (te : W T) : W T := fun env τ Q => te env τ fun r τ1 => ∃ ns, tupI? r = some ns ∧ ns.length ≤ 4000 ∧ Q (.d (.int ((dis ns).length : Nat))) τ1
section
variable {X : Cx} {B : Bk} {e : Expr} {te : W B.T}
/-! ### xs[::-1] of a list -/
def dRev {T : Type} (te : W T) : W T := fun env τ Q => te env τ fun r τ1 => opt r.lst? fun xs => Q (.ol xs.reverse) τ1
theorem de_rev {k : Nat} {p1 p2 p3 pos : Pos} (hK : X.K = B.K) (he : PE X e (lift B te)) : PE X (.Subscript e (.Slice none none (some (.UnaryOp .USub (.Constant (.int 1) k p1) p2)) p3) pos) (lift B (dRev te)) :=
  pe_imp (pe_revL he) fun σ H Q z9 => ex53 z9 fun G F env τ Qd s t fin => ⟨G, F, env, τ, _, s, t, fun r τ1 G1 F1 H1 v f1 r1 q => by
    obtain ⟨xs, ex, q⟩ := opt_of q
    obtain ⟨p, vs, ev, hs, ra⟩ := r1.sql f1.k.same ex
    rw [hK]
    exact ⟨p, vs, ev, hs.sql, fun l hl => (FinT.trans fin f1).ol f1.k hl ra.reverse q⟩⟩
end
/-! ### repr, of {} too -/
def rReprE (K : PySem.W.Frag) : List V → Hp → VK → Prop := fun xs H Q => rRepr K xs H Q ∨ ∃ a, xs = [.ref a] ∧ H a = some (.dK []) ∧ Q (.str (PyData.dict []).shown) H
theorem cr_reprE {X : Cx} (hg : X.A.guards = some []) (hu : X.A.units + 64 + 1 < cLine) : CallR X (.builtin "repr") (rReprE X.K) := by
  intro pins s σ H xs us Q I r h
  rcases h with h | ⟨a, rfl, hd, q⟩
  · exact cr_repr hg hu pins s σ H xs us Q I r h
  · obtain ⟨u, rfl, ru⟩ := vals1 r
    cases (show u = Value.ref a from ru)
    obtain ⟨_, hsys, vs, kv, o, es, ep, ho, hex, hdt, _, hp, _⟩ := (show ObjOk X.prog X.w H s.heap a (.dK []) from I.hok a _ hd)
    cases kv
    have e0 : es.toList = [] := by
      cases hq : es.toList with
      | nil => rfl
      | cons x r => rw [hq] at hp; cases hp
    have rd : Reads s.heap (.ref a) (.dict []) [a] := by
      have := Reads.dict (h := s.heap) (kvs := []) (as := []) (bs := []) ho hex.1 hdt (by rw [e0]; exact .nil) (by rw [e0]; exact .nil)
      simpa using this
    have hdp : PyData.depth (.dict []) = 1 := by decide
    refine PySem.repr_of_reads' rd rfl (fun _ z => ?_) hg (by rw [hdp]; omega) (fun _ _ e => e) (fun h' t tk hk => ?_) (by decide)
    · rw [List.mem_singleton] at z
      rw [← z] at hsys
      simp at hsys
    · exact ⟨.str _, H, I.kept hk, ⟨t, rfl⟩, q⟩
def gReprE (rs : List SV) (Q : SV → Prop) : Prop := match rs with
  | [.d (.dict [])] => Q (.d (.str (PyData.dict []).shown))
  | rs => gRepr rs Q
theorem cd_reprE {X : Cx} {B : Bk} (hK : X.K = B.K) : CallD B (rReprE X.K) gReprE := fun rs vs Ha G F H τ Qv Q k r h fin => by
  unfold gReprE at h
  split at h
  · obtain ⟨v, rfl, rx⟩ := r.one
    cases (rx : Rp B.K G v (.dict [])) with
    | emp e => exact .inr ⟨_, rfl, k.same _ _ e, fin.d k (.str _) h⟩
  · exact .inl (cd_repr hK rs vs Ha G F H τ Qv Q k r h fin)
end Z
namespace Z
open PySem L2
/-! ### equations for the new readings -/
section
variable {T : Type}
def kCallX (FX : FWX T) (Ed : Z.D → T → Prop) (Q : SV → T → Prop) (rs : List SV) (τ : T) : Prop := rs.all SV.dr = true ∧ FX rs τ Q Ed
theorem dCallX_k (FX : FWX T) (Ed : Z.D → T → Prop) (ta : WA T) (env : List SV) (τ : T) (Q : SV → T → Prop) : dCallX FX Ed ta env τ Q = ta env τ (kCallX FX Ed Q) := rfl
def kIsX (K : PySem.W.Frag) (us : List Value) (Q : SV → T → Prop) (r : SV) (τ : T) : Prop := ∃ (x : Z.D) (C : Addr) (b : Bool), r = .d x ∧ exC? x = some (C : Nat) ∧ ExC K C ∧ PySem.W.kitAny K (.ref C) us = some b ∧ Q (.d (.bool b)) τ
theorem dIsX_k (K : PySem.W.Frag) (us : List Value) (te : W T) (env : List SV) (τ : T) (Q : SV → T → Prop) : dIsX K us te env τ Q = te env τ (kIsX K us Q) := rfl
/-- a lambda, by data -/
def ldOf (tb : (Z.D → T → Prop) → W T) (env : List SV) : LD T := fun τ Q Ed => tb Ed env τ Q
theorem dLam_k (fc : FC T) (tb : (Z.D → T → Prop) → W T) (env : List SV) (τ : T) (Q : SV → T → Prop) : dLam fc tb env τ Q = fc (ldOf tb (env.map capS)) τ Q := rfl
theorem dRaise_k (x : Z.D) (Ed : Z.D → T → Prop) (D : DEnds T) (env : List SV) (τ : T) : dRaise x Ed D env τ = Ed x τ := rfl
def kLenSet (Q : SV → T → Prop) (r : SV) (τ : T) : Prop := ∃ ns, tupI? r = some ns ∧ ns.length ≤ 4000 ∧ Q (.d (.int ((dis ns).length : Nat))) τ
theorem dLenSet_k (te : W T) (env : List SV) (τ : T) (Q : SV → T → Prop) : dLenSet te env τ Q = te env τ (kLenSet Q) := rfl
def kRev (Q : SV → T → Prop) (r : SV) (τ : T) : Prop := opt r.lst? fun xs => Q (.ol xs.reverse) τ
theorem dRev_k (te : W T) (env : List SV) (τ : T) (Q : SV → T → Prop) : dRev te env τ Q = te env τ (kRev Q) := rfl
theorem kRev_1 (Q : SV → T → Prop) (xs : List Z.D) (τ : T) : kRev Q (.vw xs) τ = Q (.ol xs.reverse) τ := rfl
theorem kRev_2 (Q : SV → T → Prop) (xs : List Z.D) (τ : T) : kRev Q (.ol xs) τ = Q (.ol xs.reverse) τ := rfl
theorem kRev_3 (Q : SV → T → Prop) (xs : List Z.D) (τ : T) : kRev Q (.d (.list xs)) τ = Q (.ol xs.reverse) τ := rfl
end
theorem gReprE_e (Q : SV → Prop) : gReprE [.d (.dict [])] Q = Q (.d (.str (PyData.dict []).shown)) := rfl
/-- what can be told -/
def reprOk (d : Z.D) : Prop := d.canLay0 = true ∧ d.showable = true ∧ d.hasDict = false ∧ d.depth ≤ 64 ∧ d.shown.length ≤ sizeLine
theorem gReprE_n (Q : SV → Prop) : gReprE [.d .none] Q = (reprOk .none ∧ Q (.d (.str (PyData.none).shown))) := rfl
theorem gReprE_b (b : Bool) (Q : SV → Prop) : gReprE [.d (.bool b)] Q = (reprOk (.bool b) ∧ Q (.d (.str (PyData.bool b).shown))) := rfl
theorem gReprE_i (i : Int) (Q : SV → Prop) : gReprE [.d (.int i)] Q = (reprOk (.int i) ∧ Q (.d (.str (PyData.int i).shown))) := rfl
theorem gReprE_s (i : Str) (Q : SV → Prop) : gReprE [.d (.str i)] Q = (reprOk (.str i) ∧ Q (.d (.str (PyData.str i).shown))) := rfl
theorem gReprE_l (i : List Z.D) (Q : SV → Prop) : gReprE [.d (.list i)] Q = (reprOk (.list i) ∧ Q (.d (.str (PyData.list i).shown))) := rfl
theorem gReprE_t (i : List Z.D) (Q : SV → Prop) : gReprE [.d (.tuple i)] Q = (reprOk (.tuple i) ∧ Q (.d (.str (PyData.tuple i).shown))) := rfl
theorem gReprE_ol (i : List Z.D) (Q : SV → Prop) : gReprE [.ol i] Q = (reprOk (.list i) ∧ Q (.d (.str (PyData.list i).shown))) := rfl
theorem gReprE_vw (i : List Z.D) (Q : SV → Prop) : gReprE [.vw i] Q = (reprOk (.list i) ∧ Q (.d (.str (PyData.list i).shown))) := rfl
/-! ### a tuple of the module, of ints, truths and texts -/
inductive Scal : V → D → Value → Prop
  | int (i : Int) (t : Tok) : Scal (.int i) (.int i) (.int i t)
  | str (s : Str) (t : Tok) : Scal (.str s) (.str s) (.str s t)
  | bl (b : Bool) : Scal (.bl b) (.bool b) (.bool b)
inductive Scals : List V → List D → List Value → Prop
  | nil : Scals [] [] []
  | cons {v : V} {d : D} {u : Value} {vs : List V} {ds : List D} {us : List Value} : Scal v d u → Scals vs ds us → Scals (v :: vs) (d :: ds) (u :: us)
theorem Scal.rel {v : V} {d : D} {u : Value} : Scal v d u → RelV v u
  | .int i t => ⟨t, rfl⟩
  | .str s t => ⟨t, rfl⟩
  | .bl b => rfl
theorem Scal.rp {K : PySem.W.Frag} {G : Hp} {v : V} {d : D} {u : Value} : Scal v d u → Rp K G v d
  | .int i t => .int i
  | .str s t => .str s
  | .bl b => .bl b
theorem Scals.rel : ∀ {vs : List V} {ds : List D} {us : List Value}, Scals vs ds us → Vals vs us
  | _, _, _, .nil => .nil
  | _, _, _, .cons h t => .cons h.rel t.rel
theorem Scals.rp {K : PySem.W.Frag} {G : Hp} : ∀ {vs : List V} {ds : List D} {us : List Value}, Scals vs ds us → RpAll K G vs ds
  | _, _, _, .nil => .nil
  | _, _, _, .cons h t => .cons h.rp t.rp
theorem gdat_tup {K : PySem.W.Frag} {mg : Str → Option Value} {x : Str} {a : Addr} {dd : Option Addr} {n : Nat} {sl : Array (Option Value)} {vs : List V} {ds : List D} {us : List Value} (hm : mg x = some (.ref a)) (lk : K.lookup a = some ⟨.type "tuple", dd, .seq us.toArray n, sl⟩) (h : Scals vs ds us) (hl : vs.length ≤ sizeLine) (hne : vs ≠ [] := by exact List.cons_ne_nil _ _) : GData mg K x (.tuple ds) :=
  ⟨.ref a, .ref a, hm, rfl, fun G => .tup (.inr ⟨_, us.toArray, n, lk, rfl, rfl, by rw [List.size_toArray, ← h.rel.length]; exact hl, by simpa using h.rel, hne⟩) h.rp⟩
end Z
namespace Z
open PySem L2
/-! ### what can be told by repr: data of a depth and a weight -/
structure Rb (m w : Nat) (d : D) : Prop where
  lay : d.canLay0 = true
  sh : d.showable = true
  dp : d.depth ≤ m
  st : PyData.intsShort 64 d = true
  wt : d.weight ≤ w
theorem Rb.le {m w m' w' : Nat} {d : D} (h : Rb m w d) (hm : m ≤ m') (hw : w ≤ w') : Rb m' w' d := ⟨h.lay, h.sh, Nat.le_trans h.dp hm, h.st, Nat.le_trans h.wt hw⟩
theorem Rb.rep {m w : Nat} {d : D} (h : Rb m w d) (hm : m ≤ 64) (hw : w ≤ 200000) : reprOk d := by
  refine ⟨h.lay, h.sh, PyData.hasDict_of_canLay d h.lay, Nat.le_trans h.dp hm, ?_⟩
  have := PyData.shown_le 64 (by decide) d (PyData.leavesShort_of_canLay0 64 d h.lay h.st)
  have := h.wt
  rw [sizeLine_eq]
  omega
theorem Rb.none : Rb 0 0 .none := ⟨by rfl, by rfl, by decide, by rfl, by decide⟩
theorem Rb.bool (b : Bool) : Rb 0 0 (.bool b) := ⟨by rfl, by rfl, by simp [PyData.depth], by rfl, by simp [PyData.weight]⟩
theorem Rb.str {s : Str} {n : Nat} (h : okN n s) : Rb 0 n (.str s) := by
  refine ⟨?_, by rfl, by simp [PyData.depth], by rfl, ?_⟩
  · show PyData.strOk s = true
    unfold PyData.strOk
    rw [Array.all_eq_true']
    intro c hc
    exact decide_eq_true (h.2 c (by simpa [cs] using hc))
  · show s.cps.size ≤ n
    have := h.1
    rw [str_len] at this
    simpa [cs] using this
theorem Rb.int {i : Int} (h : i.natAbs < 10 ^ 60) : Rb 0 200 (.int i) := by
  have hl : i.natAbs.log2 < 200 := by
    by_cases h0 : i.natAbs = 0
    · rw [h0]; decide
    · exact (Nat.log2_lt h0).mpr (Nat.lt_trans h (by decide))
  refine ⟨by rfl, ?_, by simp [PyData.depth], ?_, ?_⟩
  · show decide (i.natAbs.log2 < 1920) = true
    exact decide_eq_true (by omega)
  · show decide ((PyData.shown (.int i)).length ≤ 64) = true
    refine decide_eq_true ?_
    have := int_text_length_le10 (k := 60) (by decide) h
    show (Str.ofString (toString i)).length ≤ 64
    rw [ofString_length]
    omega
  · show (if i == 0 then 0 else i.natAbs.log2 + 1) ≤ 200
    split <;> omega
theorem Rb.all {m w : Nat} : ∀ {xs : List D}, (∀ x ∈ xs, Rb m w x) → PyData.canLayAll0 xs = true ∧ PyData.showableAll xs = true ∧ PyData.depthAll xs ≤ m ∧ PyData.intsShortAll 64 xs = true ∧ PyData.weightAll xs ≤ (w + 1) * xs.length
  | [], _ => ⟨rfl, rfl, Nat.zero_le _, rfl, Nat.zero_le _⟩
  | x :: r, h => by
    have hx := h x List.mem_cons_self
    obtain ⟨h1, h2, h3, h4, h5⟩ := Rb.all (xs := r) fun y hy => h y (List.mem_cons_of_mem _ hy)
    refine ⟨?_, ?_, ?_, ?_, ?_⟩
    · rw [PyData.canLayAll0, hx.lay, h1]; rfl
    · rw [PyData.showableAll, hx.sh, h2]; rfl
    · rw [PyData.depthAll]; exact Nat.max_le.mpr ⟨hx.dp, h3⟩
    · rw [PyData.intsShortAll, hx.st, h4]; rfl
    · rw [PyData.weightAll, List.length_cons, Nat.mul_add]
      have := hx.wt
      omega
theorem Rb.tup {m w n : Nat} {xs : List D} (h : ∀ x ∈ xs, Rb m w x) (hl : xs.length ≤ n) : Rb (m + 1) ((w + 1) * n) (.tuple xs) := by
  obtain ⟨h1, h2, h3, h4, h5⟩ := Rb.all h
  have := Nat.mul_le_mul_left (w + 1) hl
  exact ⟨by rw [PyData.canLay0]; exact h1, by rw [PyData.showable]; exact h2, by rw [PyData.depth]; omega, by rw [PyData.intsShort]; exact h4, by rw [PyData.weight]; omega⟩
theorem Rb.lst {m w n : Nat} {xs : List D} (h : ∀ x ∈ xs, Rb m w x) (hl : xs.length ≤ n) : Rb (m + 1) ((w + 1) * n) (.list xs) := by
  obtain ⟨h1, h2, h3, h4, h5⟩ := Rb.all h
  have := Nat.mul_le_mul_left (w + 1) hl
  exact ⟨by rw [PyData.canLay0]; exact h1, by rw [PyData.showable]; exact h2, by rw [PyData.depth]; omega, by rw [PyData.intsShort]; exact h4, by rw [PyData.weight]; omega⟩
end Z
namespace Z
open PySem L2
/-! ### plain lemmas: cuts, pairs, all -/
theorem cut_post {α : Type} (xs : List α) (k : Nat) : cutL xs (some (k : Int)) none = xs.drop k := by
  unfold cutL
  rw [HT.sIx_none, HT.sIx_nat]
  by_cases h : k ≤ xs.length
  · rw [Nat.min_eq_left h, List.take_of_length_le (by rw [List.length_drop]; exact Nat.le_refl _)]
  · rw [Nat.min_eq_right (by omega), List.drop_length, List.drop_eq_nil_of_le (by omega), List.take_nil]
theorem cut_pre {α : Type} (xs : List α) (k : Nat) : cutL xs none (some (k : Int)) = xs.take k := by
  unfold cutL
  rw [HT.sIx_none, HT.sIx_nat, List.drop_zero, Nat.sub_zero]
  by_cases h : k ≤ xs.length
  · rw [Nat.min_eq_left h]
  · rw [Nat.min_eq_right (by omega), List.take_length, List.take_of_length_le (by omega)]
theorem cut_mid {α : Type} (xs : List α) (i k : Nat) : cutL xs (some (i : Int)) (some (k : Int)) = (xs.take k).drop i := by
  unfold cutL
  rw [HT.sIx_nat, HT.sIx_nat, ← List.drop_take]
  have e1 : xs.take (min k xs.length) = xs.take k := by
    by_cases h : k ≤ xs.length
    · rw [Nat.min_eq_left h]
    · rw [Nat.min_eq_right (by omega), List.take_length, List.take_of_length_le (by omega)]
  rw [e1]
  by_cases h2 : i ≤ xs.length
  · rw [Nat.min_eq_left h2]
  · rw [Nat.min_eq_right (by omega), List.drop_eq_nil_of_le (by rw [List.length_take]; omega), List.drop_eq_nil_of_le (by rw [List.length_take]; omega)]
theorem cut_1 {α : Type} (xs : List α) : cutL xs (some 1) none = xs.drop 1 := cut_post xs 1
theorem all_id {α : Type} (f : α → Bool) (l : List α) : (l.map f).all id = l.all f := by
  induction l with
  | nil => rfl
  | cons a r ih => rw [List.map_cons, List.all_cons, List.all_cons, ih]; rfl
theorem bools_of {α : Type} (f : α → Bool) (l : List α) : bools? (l.map fun x => PyData.bool (f x)) = some (l.map f) := by
  have : (l.map fun x => PyData.bool (f x)) = (l.map f).map PyData.bool := by rw [List.map_map]; rfl
  rw [this, bools_map]
theorem ints_of {α : Type} (f : α → Int) (l : List α) : ints? (l.map fun x => PyData.int (f x)) = some (l.map f) := by
  induction l with
  | nil => rfl
  | cons a r ih => rw [List.map_cons, ints?, ih]; rfl
theorem ints_mapI (l : List Int) : ints? (l.map PyData.int) = some l := by
  have := ints_of (fun x => x) l
  simpa using this
/-- each number of a row beside each one behind it -/
def pairsB (r : Int → Int → Bool) : List Int → Bool
  | [] => true
  | a :: l => l.all (r a) && pairsB r l
end Z
namespace Z
open PySem PySem.Spec PyProof.Rows L2
/-! ### enumerate(tuple) -/
theorem meets_enumerate_new1 {v : Value} {o : Obj} {H : Heap → Prop} (B : Begins v o H) :
    Meets (Builtin.«enumerate.__new__» ⟨[.type "enumerate", v], []⟩) (fun _ R s => H s.heap ∧
      R (.ok (.ret (.ref (s.heap.push o).objs.size))) { s with heap := (s.heap.push o).push { cls := .type "enumerate", data := .fields #[.none, .bool false, .ref s.heap.objs.size, rawInt 0, .none, .none] } }) :=
  .of_wp fun prog w A R s h => by
    obtain ⟨hp, g, d, tk, os⟩ := s; obtain ⟨h1, h⟩ := h
    have hsub := sub_enumerate
    have q1 : ∀ {A' : Around} {E : Value → Shared → Prop} {Q : Value → Shared → Prop}, Q (.ref hp.objs.size) ⟨hp.push o, g, d, tk, os⟩ → wpAny (model prog w) A' (pyIter v) Q E ⟨hp, g, d, tk, os⟩ :=
      fun q => B.iter prog w _ _ ⟨hp, g, d, tk, os⟩ _ h1 q
    wp_walk using q1
    refine wpAny_stack_any fun st => wpAny_pure ?_
    split
    · rename_i c _ _ _ _ _
      cases (c == Value.type "enumerate")
      · wp_walk using q1
        exact ⟨_, rfl, h⟩
      · wp_walk using q1
        exact ⟨_, rfl, h⟩
    · wp_walk using q1
      exact ⟨_, rfl, h⟩
theorem call_enumerate_tuple {prog : Program} {w : World} {A : Around} {E : Value → Shared → Prop} {s : Shared} {t : Addr} {items : Array Value} {Q : Value → Shared → Prop} (hT : s.heap.IsTuple t items)
    (h : ∀ h', IsEnum h' (s.heap.objs.size + 1) s.heap.objs.size 0 .none → h'.IsTupleIter s.heap.objs.size t 0 → h'.objs.size = s.heap.objs.size + 2 →
      (∀ b o, s.heap.get? b = some o → h'.get? b = some o) → Q (.ref (s.heap.objs.size + 1)) { s with heap := h' }) :
    wpAny (model prog w) A (call (.type "enumerate") [.ref t]) Q E s := by
  refine callType_new F.called_enumerate (by decide) (F.typeCall_enumerate_1 _) (F.newCall_enumerate_1 _) (fun obj => F.args_object_init_2 obj _) F.entry_enumerate_new
    (meets_enumerate_new1 (begins_tuple t items)) ⟨hT, ?_⟩
  have hz : (s.heap.push { cls := .type "tuple_iterator", data := .fields #[.ref t, .int 0 0] }).objs.size = s.heap.objs.size + 1 := Heap.size_push ..
  show _ ∧ _
  rw [hz]
  have he : IsEnum ((s.heap.push { cls := .type "tuple_iterator", data := .fields #[.ref t, .int 0 0] }).push
      { cls := .type "enumerate", data := .fields #[.none, .bool false, .ref s.heap.objs.size, rawInt 0, .none, .none] }) (s.heap.objs.size + 1) s.heap.objs.size 0 .none := by
    have := Heap.get?_push_size (s.heap.push { cls := .type "tuple_iterator", data := .fields #[.ref t, .int 0 0] })
      (o := { cls := .type "enumerate", data := .fields #[.none, .bool false, .ref s.heap.objs.size, rawInt 0, .none, .none] }) rfl
    rw [hz] at this; exact this
  refine ⟨⟨_, he, rfl⟩, h _ he ⟨_, Heap.get?_push_of_some _ (Heap.get?_push_size _ rfl), rfl, rfl⟩ (by rw [Heap.size_push, hz]) fun b o x => Heap.get?_push_of_some _ (Heap.get?_push_of_some _ x)⟩
def IteT (K : PySem.W.Frag) (a : Addr) : It :=
  ⟨fun i H => ∃ (xs : List V) (x : V), SqT K H a xs ∧ xs[i]? = some x, fun i H v H' => ∃ T x, v = .ref T ∧ H T = none ∧ H' = upd H T (.tup [.int (i : Nat), x]) ∧ ∀ xs, SqT K H a xs → xs[i]? = some x, fun i H => ∃ xs : List V, SqT K H a xs ∧ xs.length ≤ i⟩
theorem turn_enumT {P : Program} {w : World} {K : PySem.W.Frag} {elts : List Expr} {kk : Nat} {tpos : Pos} (a e it : Addr) (hai : a ≠ it) (hae : a ≠ e) :
    Turn P w K (.Tuple elts kk tpos) (IteT K a) [e, it] e (fun i h => (∃ old, IsEnum h e it ((i : Nat) : Int) old) ∧ h.IsTupleIter it a i ∧ e ≠ it) where
  mem := by simp
  obj := fun i h st b hb => by
    obtain ⟨⟨old, he⟩, ⟨o, ho, hc, hd⟩, _⟩ := st
    have e' : b = e ∨ b = it := by simpa using hb
    rcases e' with z | z
    · rw [z]; exact ⟨_, he, fun v q => nomatch q⟩
    · rw [z]; exact ⟨o, ho, fun v q => by rw [hd] at q; cases q⟩
  keep := fun i h h' st k => let ⟨⟨old, he⟩, hi, hne⟩ := st; ⟨⟨old, k e (by simp) _ he⟩, hi.at fun o q => k it (by simp) o q, hne⟩
  item := by
    intro X hP hw hK hc i pins s σ H E I hf st hg
    subst hP hw hK
    obtain ⟨⟨old, he⟩, hit, hne⟩ := st
    obtain ⟨xs, x, hq, hx⟩ := hg
    obtain ⟨its, rv, p, hz⟩ := I.tuple hq
    obtain ⟨u, hu, ru⟩ := rv.get hx
    have hel : e < s.heap.objs.size := Heap.lt_size he
    have hil : it < s.heap.objs.size := by obtain ⟨_, q, _⟩ := hit; exact Heap.lt_size q
    have hsz : its.toArray.size = its.length := by simp
    have hlt : i < its.toArray.size := by rw [hsz]; exact (List.getElem?_eq_some_iff.mp hu).1
    refine wpAny_pyNext_enum_itemD (Draws.tuple (A := X.A.in1) (show X.A.in1.handled = none from I.ok.hd hc) it a hai its.toArray) he ⟨hit, p⟩ hlt hne (by simp [hne, Ne.symm hae]) fun y h' tk hy ho st' hT hsz hk => ?_
    have ey : y = u := by
      have hu' : its.toArray[i]? = some u := by simpa using hu
      rw [hu'] at hy
      exact (Option.some.inj hy).symm
    subst ey
    refine ⟨_, rfl, wpAny_letOwnedTupleGo_enum (s := { s with heap := h', toks := tk + 1 }) ho fun h'' he' sb => ?_⟩
    have hT2 : h''.get? s.heap.objs.size = some { cls := .type "tuple", data := .seq #[.int i tk, y] } := (sb.2 _ (Nat.ne_of_gt hel)).trans hT
    have new : ObjOk X.prog X.w (upd H s.heap.objs.size (.tup [.int (i : Nat), x])) h'' s.heap.objs.size (.tup [.int (i : Nat), x]) :=
      ⟨by show 2 ≤ sizeLine; decide, [.int i tk, y], .cons ⟨_, rfl⟩ (.cons ru .nil), ⟨_, hT2, rfl, _, rfl⟩⟩
    have I1 : Inv X pins σ (upd H s.heap.objs.size (.tup [.int (i : Nat), x])) { s with heap := h'', toks := tk + 1 } :=
      I.turnedNew (ch := [e, it]) (fun b ob hb q => (sb.2 b (fun z => hb (by simp [z]))).trans (hk b ob (fun z => hb (by simp [z])) (fun z => hb (by simp [z])) q)) hf (Nat.le_refl _) new
    refine ⟨.ref s.heap.objs.size, _, I1, rfl, ⟨_, x, rfl, I.hok.fresh (Nat.le_refl _), rfl, fun ys hy => by rw [I.tuple_inj hy hq]; exact hx⟩, ⟨⟨y, ?_⟩, st'.1.at fun o q => (sb.2 it (Ne.symm hne)).trans q, hne⟩, fun b hb => ?_⟩
    · have e1 : ((i + 1 : Nat) : Int) = (i : Int) + 1 := by omega
      rw [e1]; exact he'
    · have hb' : b < s.heap.objs.size := by
        have e' : b = e ∨ b = it := by simpa using hb
        rcases e' with z | z
        · rw [z]; exact hel
        · rw [z]; exact hil
      rw [upd_ne (Nat.ne_of_lt hb')]
      exact (hf b hb).1
  done := by
    intro X hP hw hK hc i pins s σ H E I hf st hg
    subst hP hw hK
    obtain ⟨⟨old, he⟩, hit, hne⟩ := st
    obtain ⟨xs, hq, hx⟩ := hg
    obtain ⟨its, rv, p, hz⟩ := I.tuple hq
    obtain ⟨f0, f1, f2, f3, f4, f5⟩ := hf it (by simp)
    have hl := rv.length
    have hT : s.TypeIs (.ref e) "enumerate" := ⟨_, he, rfl⟩
    refine wpAny_bind (wpAny_attempt (wpAny_callSpecial?_slot (name := Str.ofString "__next__") hT F.slot_enumerate_next
      (wpAny_call_entry F.slot_enumerate_next hT F.entry_enumerate_next ?_ (F.args_enumerate_next_1 _))))
    show wpAny _ _ (field (.ref e) 2 >>= _) _ _ _
    refine wpAny_bind (wpAny_field he rfl (x := .ref it) rfl ?_)
    refine wpAny_bind (wpAny_nextOf_tuple_end (show X.A.in1.handled = none from I.ok.hd hc) hit p (by simp; omega) fun h' x he' hx' => ?_)
    obtain ⟨o, ho, hc⟩ := hx'
    refine wpAny_bind (wpAny_isInstance (T := "StopIteration") (b := true) ⟨o, ho, hc⟩ isSubtype_stop ?_)
    exact wpAny_pure ⟨rfl, I.turned (t' := s.toks) (fun b o hb q => he' b o hb q) f0 f1 f3 f4 f5⟩
  self := fun A i s Q E st h => let ⟨⟨_, he⟩, _⟩ := st; wpAny_pyIter_enum he h
def iEnum2 (K : PySem.W.Frag) (ta : TA) : TI := fun σ H R => ta σ H fun vs H1 => ∃ a xs, vs = [.ref a] ∧ ((SqL K H1 a xs ∧ R (Ite K a) H1) ∨ (SqT K H1 a xs ∧ R (IteT K a) H1))
theorem pi_enum2 {X : Cx} {e : Expr} {ta : TA} {p pos tpos : Pos} {elts : List Expr} {kk : Nat} (hg : Gl X "enumerate") (hm : X.mg "enumerate" = none) (ha : PA X [e] ta) (hs : starEach [e] X.env = [(false, eval e X.env)] := by rfl) :
    PI X (.Tuple elts kk tpos) (.Call (.Name "enumerate" p) [e] [] pos) (iEnum2 X.K ta) := by
  refine ⟨fun pins s σ H R I h => ?_⟩
  refine Call_ (ld_blt I hg hm boot_enumerate (PyProof.Rows.callWith_type1 (thn (ha.run pos pins s σ H _ I h) fun us s1 ⟨vs, H1, I1, r1, q1⟩ => ?_) hs rfl))
  obtain ⟨a, xs, ex, q1⟩ := q1
  subst ex
  cases r1 with
  | cons r rr =>
    cases rr
    cases r
    have fp : ∀ b, b ∈ [s1.heap.objs.size + 1, s1.heap.objs.size] → FpOk X pins H1 b := fun b hb => by
      have e' : b = s1.heap.objs.size + 1 ∨ b = s1.heap.objs.size := by simpa using hb
      have hle : s1.heap.objs.size ≤ b := by
        rcases e' with z | z
        · rw [z]; exact Nat.le_add_right _ _
        · rw [z]; exact Nat.le_refl _
      exact I1.fpOk hle (I1.hok.fresh hle)
    rcases q1 with ⟨hq, q⟩ | ⟨hq, q⟩
    · obtain ⟨its, rv, p', hz⟩ := I1.list hq
      refine call_enumerate_list p'.isList fun h' he hit hsz hk => wpAny_pyIter_enum he ?_
      have I2 : Inv X pins σ H1 { s1 with heap := h' } := I1.kept (t' := s1.toks) hk
      exact ⟨s1.heap.objs.size + 1, [s1.heap.objs.size + 1, s1.heap.objs.size], _, _, H1, rfl, I2, turn_enum a (s1.heap.objs.size + 1) s1.heap.objs.size, ⟨⟨.none, he⟩, hit, Nat.succ_ne_self _⟩, fp, q⟩
    · obtain ⟨its, rv, p', hz⟩ := I1.tuple hq
      obtain ⟨o1, ho1, _⟩ := id p'
      have hal : a < s1.heap.objs.size := Heap.lt_size ho1
      refine call_enumerate_tuple (show s1.heap.IsTuple a its.toArray from p') fun h' he hit hsz hk => wpAny_pyIter_enum he ?_
      have I2 : Inv X pins σ H1 { s1 with heap := h' } := I1.kept (t' := s1.toks) hk
      exact ⟨s1.heap.objs.size + 1, [s1.heap.objs.size + 1, s1.heap.objs.size], _, _, H1, rfl, I2, turn_enumT a (s1.heap.objs.size + 1) s1.heap.objs.size (Nat.ne_of_lt hal) (Nat.ne_of_lt (Nat.lt_succ_of_lt hal)), ⟨⟨.none, he⟩, hit, Nat.succ_ne_self _⟩, fp, q⟩
section
variable {X : Cx} {B : Bk}
theorem itr_et {G : Hp} {a : Addr} {vs : List V} {xs : List D} (h : SqTP B.K G a vs) (r : RpAll B.K G vs xs) : ItR B (IteT B.K a) G (enumD xs) where
  go := fun G1 H1 F1 τ1 sm k i x e => by
    obtain ⟨y, ey, ex⟩ := enum_get e
    subst ex
    obtain ⟨v, ev, rv⟩ := r.getD ey
    have hq := same_seqT (sm.trans k.same) h
    refine ⟨⟨vs, v, hq, ev⟩, fun w H2 ⟨T, x', e2, hT, e3, hx⟩ => ?_⟩
    have := hx vs hq
    rw [ev] at this
    cases this
    subst e2 e3
    exact new_pair k hT (.int _) (rv.mono sm)
  stop := fun G1 H1 F1 τ1 sm k i hi => ⟨vs, same_seqT (sm.trans k.same) h, by rw [r.length]; rw [enum_len] at hi; exact hi⟩
def dEnum2 {T : Type} (ta : WA T) : WI T := fun env τ Q => ta env τ fun rs τ1 => ∃ xs, (rs = [.d (.list xs)] ∨ rs = [.d (.tuple xs)]) ∧ Q (enumD xs) τ1
theorem di_enum2 (hK : X.K = B.K) {e : Expr} {ta : WA B.T} {p tpos : Pos} {elts : List Expr} {kk : Nat} (hg : Gl X "enumerate") (hm : X.mg "enumerate" = none) (ha : PA X [e] (liftA B ta)) (hs : starEach [e] X.env = [(false, eval e X.env)] := by rfl) :
    PI X (.Tuple elts kk tpos) (.Call (.Name "enumerate" p) [e] [] pos) (liftI B (dEnum2 ta)) :=
  pi_imp (pi_enum2 hg hm ha hs) fun σ H R z9 => ex53 z9 fun G F env τ Qd s t k => ⟨G, F, env, τ, _, s, t, fun rs τ1 G1 F1 H1 vs f1 r1 ⟨xs, e, q⟩ => by
    rw [hK]
    rcases e with e | e
    · subst e
      obtain ⟨v, e1, r⟩ := r1.one
      subst e1
      match r with
      | .lst h a => exact ⟨_, _, rfl, .inl ⟨(same_sqp f1.k.same h).sql, k _ _ _ _ _ _ f1 (itr_e h a) q⟩⟩
    · subst e
      obtain ⟨v, e1, r⟩ := r1.one
      subst e1
      obtain ⟨_, _, e2, h, a⟩ := rtup r
      subst e2
      exact ⟨_, _, rfl, .inr ⟨same_seqT f1.k.same h, k _ _ _ _ _ _ f1 (itr_et h a) q⟩⟩⟩
end
section
variable {T : Type}
def kEn2 (Q : List D → T → Prop) (rs : List SV) (τ : T) : Prop := ∃ xs, (rs = [.d (.list xs)] ∨ rs = [.d (.tuple xs)]) ∧ Q (enumD xs) τ
theorem kEn2_l {Q : List D → T → Prop} {xs : List D} {τ : T} : kEn2 Q [.d (.list xs)] τ = Q (enumD xs) τ := by simp [kEn2]
theorem kEn2_t {Q : List D → T → Prop} {xs : List D} {τ : T} : kEn2 Q [.d (.tuple xs)] τ = Q (enumD xs) τ := by simp [kEn2]
theorem dEnum2_k (ta : WA T) (env : List SV) (τ : T) (Q : List D → T → Prop) : dEnum2 ta env τ Q = ta env τ (kEn2 Q) := rfl
end
end Z
namespace Z
open PySem L2
/-! ### tuple.index(text), abs -/
section
variable {X : Cx} {B : Bk} {e : Expr}
def gAbs (rs : List SV) (Q : SV → Prop) : Prop := match rs with
  | [.d (.int i)] => Q (.d (.int (if i < 0 then -i else i)))
  | _ => False
end
/-- NAME.index(text), NAME a tuple of texts of the module -/
def dGIndex {T : Type} (ys : List Str) (te : W T) : W T := fun env τ Q => te env τ fun y τ1 => ∃ (z : Str) (j : Nat), y = .d (.str z) ∧ ys[j]? = some z ∧ (∀ m, m < j → ys[m]? ≠ some z) ∧ Q (.d (.int (j : Nat))) τ1
section
variable {T : Type}
def kGIx (ys : List Str) (Q : SV → T → Prop) (y : SV) (τ : T) : Prop := ∃ (z : Str) (j : Nat), y = .d (.str z) ∧ ys[j]? = some z ∧ (∀ m, m < j → ys[m]? ≠ some z) ∧ Q (.d (.int (j : Nat))) τ
theorem dGIndex_k (ys : List Str) (te : W T) (env : List SV) (τ : T) (Q : SV → T → Prop) : dGIndex ys te env τ Q = te env τ (kGIx ys Q) := rfl
end
theorem gAbs_i (i : Int) (Q : SV → Prop) : gAbs [.d (.int i)] Q = Q (.d (.int (if i < 0 then -i else i))) := rfl
end Z
namespace Z
open PySem PySem.Spec PyProof.Rows L2 PySem.W
/-! ### min, max of a tuple of ints with default= -/
/-- min(row, default=d) -/
def dMnD {T : Type} (f : Int → List Int → Int) (d : Int) (te : W T) : W T := fun env τ Q => te env τ fun r τ1 => ∃ ns, tupI? r = some ns ∧ Q (.d (.int (f d ns))) τ1
section
variable {T : Type}
def kMnD (f : Int → List Int → Int) (d : Int) (Q : SV → T → Prop) (r : SV) (τ : T) : Prop := ∃ ns, tupI? r = some ns ∧ Q (.d (.int (f d ns))) τ
theorem dMnD_k (f : Int → List Int → Int) (d : Int) (te : W T) (env : List SV) (τ : T) (Q : SV → T → Prop) : dMnD f d te env τ Q = te env τ (kMnD f d Q) := rfl
end
end Z
namespace Z
open PySem L2
/-! ### a def that calls itself: the bottom -/
theorem fng_no {P : Program} {w : World} {K : PySem.W.Frag} {mg : Str → Option Value} {base : Heap} {S : Sto} {k : Nat} {f : Addr} {fd : FuncData} {ps : List Str} : FnG P w K mg base k f fd ps (spD S K (fun _ _ _ => False)) := by
  have no : ∀ vs H Q E, spD S K (fun _ _ _ => False) vs H Q E → False := fun vs H Q E h => by
    obtain ⟨G, Fp, τ, rs, Qd, Ha, k, r, dr, hf, fin⟩ := h
    exact hf
  constructor
  · intro vs H Q E h
    exact (no _ _ _ _ h).elim
  · intros
    exfalso
    apply no
    assumption
end Z
namespace Z
open PySem L2
/-! ### tests put together, without cases -/
section
variable {T : Type}
theorem kChB_and {tc : W T} {env : List SV} {g' : SV → SV → (SV → Prop) → Prop} {y : SV} {Q : SV → T → Prop} {b c : Bool} {τ : T} (h : b = true → ∀ Q' : SV → T → Prop, Q' (.d (.bool c)) τ → tc env τ (kCh4 g' y Q')) (q : Q (.d (.bool (b && c))) τ) : kChB tc env g' y Q b τ := by
  cases b with
  | true => rw [kChB_t]; exact h rfl Q q
  | false => rw [kChB_f]; exact q
theorem kOrT_or {u : WT T} {env : List SV} {Q : Bool → T → Prop} {b c : Bool} {τ : T} (h : b = false → ∀ Q' : Bool → T → Prop, Q' c τ → u env τ Q') (q : Q (b || c) τ) : kOrT u env Q b τ := by
  cases b with
  | true => rw [kOrT_t]; exact q
  | false => rw [kOrT_f]; exact h rfl Q q
theorem kAndT_and {u : WT T} {env : List SV} {Q : Bool → T → Prop} {b c : Bool} {τ : T} (h : b = true → ∀ Q' : Bool → T → Prop, Q' c τ → u env τ Q') (q : Q (b && c) τ) : kAndT u env Q b τ := by
  cases b with
  | true => rw [kAndT_t]; exact h rfl Q q
  | false => rw [kAndT_f]; exact q
theorem kOrV {u : W T} {env : List SV} {Q : SV → T → Prop} {τ : T} {b c : Bool} (h : b = false → ∀ Q' : SV → T → Prop, Q' (.d (.bool c)) τ → u env τ Q') (q : Q (.d (.bool (b || c))) τ) : kOrB u env Q (.d (.bool b)) τ (some b) := by
  cases b with
  | true => exact q
  | false => exact h rfl Q q
end
end Z
namespace Z
open PySem PySem.Spec PyProof.Rows L2
/-! ### sum, sorted of a list or a tuple of ints -/
section
variable {X : Cx} {B : Bk}
def gSumA (rs : List SV) (Q : SV → Prop) : Prop := match rs with
  | [x] => opt (x.seqd?.bind ints?) fun ns => Q (.d (.int ns.sum))
  | _ => False
end
theorem gSumA_t {ns : List Int} {Q : SV → Prop} : gSumA [.d (.tuple (ns.map .int))] Q = Q (.d (.int ns.sum)) := by
  unfold gSumA
  show opt (ints? (ns.map PyData.int)) _ = _
  rw [ints_mapI]
  rfl
theorem gSumA_ol {ns : List Int} {Q : SV → Prop} : gSumA [.ol (ns.map .int)] Q = Q (.d (.int ns.sum)) := by
  unfold gSumA
  show opt (ints? (ns.map PyData.int)) _ = _
  rw [ints_mapI]
  rfl
theorem gSumA_l {ns : List Int} {Q : SV → Prop} : gSumA [.d (.list (ns.map .int))] Q = Q (.d (.int ns.sum)) := gSumA_ol
theorem gSumA_vw {ns : List Int} {Q : SV → Prop} : gSumA [.vw (ns.map .int)] Q = Q (.d (.int ns.sum)) := gSumA_ol
end Z
namespace Z
open PySem L2
/-! ### ways that come together again -/
section
variable {T : Type}
theorem kIf_join {u v : W T} {Q : SV → T → Prop} {env : List SV} {b : Bool} {τ : T} (P : SV → T → Prop)
    (h1 : b = true → ∀ Q' : SV → T → Prop, (∀ x τ', P x τ' → Q' x τ') → u env τ Q') (h2 : b = false → ∀ Q' : SV → T → Prop, (∀ x τ', P x τ' → Q' x τ') → v env τ Q')
    (q : ∀ x τ', P x τ' → Q x τ') : kIf u v env Q b τ := by
  cases b with
  | true => rw [kIf_t]; exact h1 rfl Q q
  | false => rw [kIf_f]; exact h2 rfl Q q
theorem kIfS_join {t u : WS T} {nx : List SV → T → Prop} {rt : SV → T → Prop} {bk ct : List SV → T → Prop} {env : List SV} {b : Bool} {τ : T} (P : List SV → T → Prop)
    (h1 : b = true → ∀ n2 : List SV → T → Prop, (∀ e τ', P e τ' → n2 e τ') → t ⟨n2, rt, bk, ct⟩ env τ) (h2 : b = false → ∀ n2 : List SV → T → Prop, (∀ e τ', P e τ' → n2 e τ') → u ⟨n2, rt, bk, ct⟩ env τ)
    (q : ∀ e τ', P e τ' → nx e τ') : kIfS t u ⟨nx, rt, bk, ct⟩ env b τ := by
  cases b with
  | true => rw [kIfS_t]; exact h1 rfl nx q
  | false => rw [kIfS_f]; exact h2 rfl nx q
end
end Z
namespace Z
open PySem PySem.Spec PyProof.Rows L2
/-! ### list(range(a, b)), tuple(range(a, b)) -/
section
variable {T : Type}
def kRgB (f : List D → SV) (x : SV) (Q : SV → T → Prop) (y : SV) (τ : T) : Prop := ∃ i j : Int, x = .d (.int i) ∧ y = .d (.int j) ∧ RgOk i j ∧ Q (f (rgI i (j - i).toNat)) τ
def kRgA (f : List D → SV) (tb : W T) (env : List SV) (Q : SV → T → Prop) (x : SV) (τ : T) : Prop := tb env τ (kRgB f x Q)
def dRg (f : List D → SV) (ta tb : W T) : W T := fun env τ Q => ta env τ (kRgA f tb env Q)
theorem dRg_k (f : List D → SV) (ta tb : W T) (env : List SV) (τ : T) (Q : SV → T → Prop) : dRg f ta tb env τ Q = ta env τ (kRgA f tb env Q) := rfl
theorem kRgB_k {f : List D → SV} {i j : Int} {Q : SV → T → Prop} {τ : T} : kRgB f (.d (.int i)) Q (.d (.int j)) τ = (RgOk i j ∧ Q (f (rgI i (j - i).toNat)) τ) := by
  refine propext ⟨?_, fun h => ⟨i, j, rfl, rfl, h⟩⟩
  rintro ⟨i', j', e1, e2, h⟩
  cases e1
  cases e2
  exact h
end
section
variable {X : Cx} {B : Bk} {a b : Expr} {p p2 pos pos2 : Pos} {ta tb : W B.T}
/-! ### x in a tuple of data -/
/-! ### a, b, c = [], [], [] -/
def tPar3 (i j k : Nat) (ta : TA) : TS := fun D σ H => ta σ H fun vs H1 => ∃ u v w, vs = [u, v, w] ∧ D.nx (((σ.set i (some u)).set j (some v)).set k (some w)) H1
end
section
variable {X : Cx} {B : Bk} {a b c : Expr} {ta : TA} {i j k : Nat} {x y z : Str} {px py pz pt pt2 pos : Pos} {kt k2 : _}
theorem ps_par3 (hc : X.calm = true) (hN : X.N.Nodup) (hi : X.N[i]? = some x) (hj : X.N[j]? = some y) (hk : X.N[k]? = some z) (hij : i ≠ j) (hik : i ≠ k) (hjk : j ≠ k)
    (hx : X.env.scope.names.lookup x = some .local) (hy : X.env.scope.names.lookup y = some .local) (hz : X.env.scope.names.lookup z = some .local) (ha : PA X [a, b, c] ta)
    (hw : swappedStores [.Tuple [.Name x px, .Name y py, .Name z pz] kt pt] (.Tuple [a, b, c] k2 pt2) X.env = pure (some [x, y, z]))
    (hs : swapsWithSole [.Tuple [.Name x px, .Name y py, .Name z pz] kt pt] (.Tuple [a, b, c] k2 pt2) pos.line X.env = pure false := by rfl) :
    PS X (.Assign [.Tuple [.Name x px, .Name y py, .Name z pz] kt pt] (.Tuple [a, b, c] k2 pt2) pos) (tPar3 i j k ta) := by
  refine ⟨fun pins s σ H D I h => ?_⟩
  rw [exec_Assign_arm, hs]
  refine wpAny_bind (wpAny_standAt (wpAny_bind (wpAny_pure ?_)))
  rw [if_neg (by decide)]
  refine wpAny_bind (Tuple_ (thn (ha.run _ pins s σ H _ I h) fun us s1 ⟨vs, H1, I1, r1, u, v, w, e1, q1⟩ => ?_))
  subst e1
  obtain ⟨m1, m2, m3, rfl, ru, rv, rw'⟩ : ∃ m1 m2 m3, us = [m1, m2, m3] ∧ RelV u m1 ∧ RelV v m2 ∧ RelV w m3 := by
    cases r1 with
    | cons g1 t1 =>
      cases t1 with
      | cons g2 t2 =>
        cases t2 with
        | cons g3 t3 =>
          cases t3
          exact ⟨_, _, _, rfl, g1, g2, g3⟩
  refine wpAny_newObj_type ?_ (by show 3 ≤ sizeLine; decide)
  have I2 : Inv X pins σ H1 { s1 with heap := s1.heap.push { cls := .type "tuple", data := .seq [m1, m2, m3].toArray } } := I1.kept (t' := s1.toks) fun b o e => Heap.get?_push_of_some _ e
  rw [hw]
  refine wpAny_bind (wpAny_pure ?_)
  show wpAny (model X.prog X.w) X.A (do rule "assign.swapped-stores"; let its ← unpackItems (.ref s1.heap.objs.size) 3 none; assignInOrder [fun g => bindName X.env z g, fun g => bindName X.env y g, fun g => bindName X.env x g] its.reverse; pure Flow.next) _ _ _
  refine wpAny_bind (wpAny_rule (wpAny_bind (unpackItems_tuple (items := #[m1, m2, m3]) (I.ok.hd hc) (IsTup.new s1.heap _) fun h' keep => ?_)))
  have I3 := I2.kept (h' := h') (t' := s1.toks) fun b o e => keep b o (Nat.ne_of_lt (Heap.lt_size e)) e
  show wpAny _ _ (assignInOrder [fun g => bindName X.env z g, fun g => bindName X.env y g, fun g => bindName X.env x g] [m3, m2, m1] >>= fun _ => pure Flow.next) _ _ _
  refine wpAny_bind (assignInOrder_cons (wpAny_bindName (store_ok I3 hN hk (.inl hz) rw' (fun s4 I4 => assignInOrder_cons (wpAny_bindName (store_ok I4 hN hj (.inl hy) rv (fun s5 I5 =>
    assignInOrder_cons (wpAny_bindName (store_ok I5 hN hi (.inl hx) ru (fun s6 I6 => assignInOrder_nil (wpAny_pure ?_)) (.inr hx)))) (.inr hy)))) (.inr hz))))
  have es : ((σ.set k (some w)).set j (some v)).set i (some u) = ((σ.set i (some u)).set j (some v)).set k (some w) := by
    rw [List.set_comm _ _ (Ne.symm hij), List.set_comm _ _ (Ne.symm hik), List.set_comm (i := k) (j := j) _ _ (Ne.symm hjk)]
  rw [es] at I6
  exact ⟨_, H1, I6, q1⟩
def dNil3 {T : Type} (i j k : Nat) : WS T := fun D env τ => D.nx (((env.set i (.ol [])).set j (.ol [])).set k (.ol [])) τ
end
theorem dNil3_k {T : Type} (i j k : Nat) (D : DEnds T) (env : List SV) (τ : T) : dNil3 i j k D env τ = D.nx (((env.set i (.ol [])).set j (.ol [])).set k (.ol [])) τ := rfl
end Z
namespace Z
open PySem PySem.Spec PyProof.Rows L2
/-! ### t[::-1] of a tuple -/
section
variable {X : Cx} {B : Bk} {e : Expr} {te : W B.T}
def kRevT {T : Type} (Q : SV → T → Prop) (r : SV) (τ : T) : Prop := ∃ xs, r = .d (.tuple xs) ∧ Q (.d (.tuple xs.reverse)) τ
def dRevT {T : Type} (te : W T) : W T := fun env τ Q => te env τ (kRevT Q)
theorem dRevT_k {T : Type} (te : W T) (env : List SV) (τ : T) (Q : SV → T → Prop) : dRevT te env τ Q = te env τ (kRevT Q) := rfl
theorem kRevT_k {T : Type} {Q : SV → T → Prop} {xs : List D} {τ : T} : kRevT Q (.d (.tuple xs)) τ = Q (.d (.tuple xs.reverse)) τ := by
  refine propext ⟨?_, fun h => ⟨xs, rfl, h⟩⟩
  rintro ⟨ys, e, h⟩
  cases e
  exact h
end
end Z
namespace Z
open PySem PySem.Spec PyProof.Rows L2
/-! ### d.update(e), both dicts with keys of the kind of texts and ints -/
/-! ### d != {} -/
/-! ### tables as data -/
def putD (m : List (Key × D)) (k : Key) (v : D) : List (Key × D) := if (m.any fun kv => decide (kv.1 = k)) = true then m.map (fun kv => if kv.1 = k then (kv.1, v) else kv) else m ++ [(k, v)]
def mergeD (m more : List (Key × D)) : List (Key × D) := more.foldl (fun acc kv => putD acc kv.1 kv.2) m
abbrev PrK (K : PySem.W.Frag) (G : Hp) : List (Key × V) → List (Key × D) → Prop := Paired fun (x : Key × V) (y : Key × D) => x.1 = y.1 ∧ Rp K G x.2 y.2
section
variable {K : PySem.W.Frag} {G G' : Hp}
theorem PrK.any : ∀ {kvs : List (Key × V)} {m : List (Key × D)} (k : Key), PrK K G kvs m → (kvs.any fun kv => decide (kv.1 = k)) = m.any fun kv => decide (kv.1 = k)
  | _, _, _, .nil => rfl
  | _, _, k, .cons h t => by rw [List.any_cons, List.any_cons, h.1, PrK.any k t]
theorem PrK.repl {v : V} {d : D} (r : Rp K G v d) (k : Key) : ∀ {kvs : List (Key × V)} {m : List (Key × D)}, PrK K G kvs m → PrK K G (kvs.map fun kv => if kv.1 = k then (kv.1, v) else kv) (m.map fun kv => if kv.1 = k then (kv.1, d) else kv)
  | _, _, .nil => .nil
  | _, _, .cons (a := a) (b := b) h t => by
    rw [List.map_cons, List.map_cons]
    refine .cons ?_ (PrK.repl r k t)
    by_cases e : a.1 = k
    · rw [if_pos e, if_pos (by rw [← h.1]; exact e)]
      exact ⟨h.1, r⟩
    · rw [if_neg e, if_neg (by rw [← h.1]; exact e)]
      exact h
theorem PrK.app : ∀ {a b : List (Key × V)} {m n : List (Key × D)}, PrK K G a m → PrK K G b n → PrK K G (a ++ b) (m ++ n)
  | _, _, _, _, .nil, s => s
  | _, _, _, _, .cons h t, s => .cons h (PrK.app t s)
theorem PrK.put {kvs : List (Key × V)} {m : List (Key × D)} {v : V} {d : D} (h : PrK K G kvs m) (r : Rp K G v d) (k : Key) : PrK K G (putK kvs k v) (putD m k d) := by
  unfold putK putD
  rw [h.any k]
  split
  · exact h.repl r k
  · exact h.app (.cons ⟨rfl, r⟩ .nil)
theorem PrK.mono (e : Same G G') {kvs : List (Key × V)} {m : List (Key × D)} (h : PrK K G kvs m) : PrK K G' kvs m := Paired.mapP h fun _ _ z => ⟨z.1, z.2.mono e⟩
theorem PrK.length : ∀ {kvs : List (Key × V)} {m : List (Key × D)}, PrK K G kvs m → kvs.length = m.length
  | _, _, .nil => rfl
  | _, _, .cons _ t => congrArg Nat.succ (PrK.length t)
end
def dKey : D → Option Key
  | .int i => some (.inl i)
  | .str x => some (.inr x)
  | _ => none
def pairD : D → Option (Key × D)
  | .tuple [a, b] => (dKey a).map fun k => (k, b)
  | _ => none
def pairsD : List D → Option (List (Key × D))
  | [] => some []
  | x :: r => (pairD x).bind fun p => (pairsD r).map fun ps => p :: ps
/-! ### dicts of one's own, in the store -/
section
variable {Ts : List (Addr × Str)} {K : PySem.W.Frag} {τ τ' : T2} {G H G' H' : Hp} {F F' : Addr → Prop} {p : Addr}
/-! what was made within a def is forgotten at its end -/
theorem Step.less (s : Step G F H G' F' H') : Step G F H G' F H' := ⟨s.g, s.h, s.gn, fun a h => .inl h, fun a h => h, s.dom⟩
theorem Res.less {Ha : Hp} {F2 : Addr → Prop} (h : ∀ a, F2 a → F a) : ∀ {r : SV} {v : V}, Res K Ha G F H r v → Res K Ha G F2 H r v
  | .no, _, z => z.elim
  | .d _, _, z => z
  | .ol _, _, ⟨p, e, w⟩ => ⟨p, e, w.at', w.g, fun z => w.f (h p z), w.new⟩
  | .vw _, _, ⟨p, vs, e, e2, a, nf⟩ => ⟨p, vs, e, e2, a, fun z => nf (h p z)⟩
  | .raw _, _, z => z
theorem Ok.fewer (k : Ok (theT Ts) K τ G F H) (s : Step G F H G' F' H') (k' : Ok (theT Ts) K τ' G' F' H') (hd : τ'.dr = τ.dr) (hc : ∃ new, τ'.cs = new ++ τ.cs) : Ok (theT Ts) K τ G' F H' := by
  have r : TR Ts K τ G F H := k.r
  have r' : TR Ts K τ' G' F' H' := k'.r
  obtain ⟨new, hc⟩ := hc
  have mem : ∀ e ∈ τ.cs, e ∈ τ'.cs := fun e he => by rw [hc]; exact List.mem_append_right _ he
  refine ⟨k'.same, fun a h => k'.gf a (s.ff a h), fun a h => k'.fh a (s.ff a h), ⟨r.f, ?_, fun e he => r'.cs e (mem e he), r.nd, r'.tb⟩, k'.nt, k'.nx⟩
  have h := r'.dr
  rw [hd] at h
  cases q : τ.dr with
  | off => trivial
  | on a b =>
    rw [q] at h
    exact ⟨h.1, fun e he => h.2 e (mem e he)⟩
def dropF (FF : FW T2) : FW T2 := fun rs τ Q2 => ∃ Q, FF rs τ Q ∧ Q2 = fun r τ' => τ'.dr = τ.dr ∧ (∃ new, τ'.cs = new ++ τ.cs) ∧ Q r τ
theorem spD_drop {FF : FW T2} {vs : List V} {Q : VK} {E : XK} (h : spD (theT Ts) K FF vs H Q E) : spD (theT Ts) K (dropF FF) vs H Q E := by
  obtain ⟨G, F, τ, rs, Qd, Ha, ok, r, dr, hf, fin⟩ := h
  exact ⟨G, F, τ, rs, _, Ha, ok, r, dr, ⟨Qd, hf, rfl⟩, fun r τ' G' F' H' v st ok' res ⟨e1, e2, q⟩ => fin r τ G' F H' v st.less (ok.fewer st ok' e1 e2) (res.less st.ff) q⟩
end
theorem FnG.drop {P : Program} {w : World} {K : PySem.W.Frag} {mg : Str → Option Value} {base : Heap} {Ts : List (Addr × Str)} {k : Nat} {f : Addr} {fd : FuncData} {ps : List Str} {FF : FW T2} (F : FnG P w K mg base k f fd ps (spD (theT Ts) K (dropF FF))) : FnG P w K mg base k f fd ps (spD (theT Ts) K FF) :=
  ⟨fun vs H Q E h => F.len vs H Q E (spD_drop h), fun A st s H as us vs Q E rg z b v h => F.run A st s H as us vs Q E rg z b v (spD_drop h)⟩
/-! ### readings -/
def kNewD (Q : SV → T2 → Prop) (τ : T2) : Prop := ∀ p, p ∉ τ.cs.map (·.1) → Q (.raw (.ref p)) ⟨τ.dr, (p, .dk []) :: τ.cs⟩
def dNewD : W T2 := fun env τ Q => kNewD Q τ
theorem dNewD_k (env : List SV) (τ : T2) (Q : SV → T2 → Prop) : dNewD env τ Q = kNewD Q τ := rfl
/-- d.update(dict(e)) -/
def kUpdD (p : Addr) (m : List (Key × D)) (cs : List (Addr × Cel)) (Q : SV → T2 → Prop) (rs : List SV) (τ1 : T2) : Prop :=
  ∃ xs ps, rs = [.d (.list xs)] ∧ pairsD xs = some ps ∧ τ1.cs = (p, .dk m) :: cs ∧ m.length + ps.length ≤ sizeLine ∧ Q (.d .none) ⟨τ1.dr, (p, .dk (mergeD m (mergeD [] ps))) :: cs⟩
def kUpd0 (ta : WA T2) (env : List SV) (Q : SV → T2 → Prop) (τ : T2) : Option SV → Prop
  | some (.raw (.ref p)) => match τ.cs with
    | (q, .dk m) :: cs => q = p ∧ ta env τ (kUpdD p m cs Q)
    | _ => False
  | _ => False
def dUpdD (i : Nat) (ta : WA T2) : W T2 := fun env τ Q => kUpd0 ta env Q τ env[i]?
theorem dUpdD_k (i : Nat) (ta : WA T2) (env : List SV) (τ : T2) (Q : SV → T2 → Prop) : dUpdD i ta env τ Q = kUpd0 ta env Q τ env[i]? := rfl
theorem kUpd0_1 {ta : WA T2} {env : List SV} {Q : SV → T2 → Prop} {d : DrT} {p : Addr} {m : List (Key × D)} {cs : List (Addr × Cel)} : kUpd0 ta env Q ⟨d, (p, .dk m) :: cs⟩ (some (.raw (.ref p))) = ta env ⟨d, (p, .dk m) :: cs⟩ (kUpdD p m cs Q) := by
  show (p = p ∧ _) = _
  simp
/-- sorted(d) -/
def kSrtD (Q : SV → T2 → Prop) (τ : T2) (m : List (Key × D)) : Prop := ∃ ks : List Int, m.map (·.1) = ks.map Sum.inl ∧ ks.length < 64 ∧ ∀ ys : List Int, ys.Perm ks → ys.Pairwise (· ≤ ·) → Q (.ol (ys.map .int)) τ
def kSrt0 (Q : SV → T2 → Prop) (τ : T2) : Option SV → Prop
  | some (.raw (.ref p)) => match τ.cs with
    | (q, .dk m) :: cs => q = p ∧ kSrtD Q τ m
    | _ => False
  | _ => False
def dSrtD (i : Nat) : W T2 := fun env τ Q => kSrt0 Q τ env[i]?
theorem dSrtD_k (i : Nat) (env : List SV) (τ : T2) (Q : SV → T2 → Prop) : dSrtD i env τ Q = kSrt0 Q τ env[i]? := rfl
theorem kSrt0_1 {Q : SV → T2 → Prop} {d : DrT} {p : Addr} {m : List (Key × D)} {cs : List (Addr × Cel)} : kSrt0 Q ⟨d, (p, .dk m) :: cs⟩ (some (.raw (.ref p))) = kSrtD Q ⟨d, (p, .dk m) :: cs⟩ m := by
  show (p = p ∧ _) = _
  simp
/-- d != {} -/
def kNe0 (Q : Bool → T2 → Prop) (τ : T2) : Option SV → Prop
  | some (.raw (.ref p)) => match τ.cs with
    | (q, .dk m) :: cs => q = p ∧ Q (!m.isEmpty) τ
    | _ => False
  | _ => False
def dNe0 (i : Nat) : WT T2 := fun env τ Q => kNe0 Q τ env[i]?
theorem dNe0_k (i : Nat) (env : List SV) (τ : T2) (Q : Bool → T2 → Prop) : dNe0 i env τ Q = kNe0 Q τ env[i]? := rfl
theorem kNe0_1 {Q : Bool → T2 → Prop} {d : DrT} {p : Addr} {m : List (Key × D)} {cs : List (Addr × Cel)} : kNe0 Q ⟨d, (p, .dk m) :: cs⟩ (some (.raw (.ref p))) = Q (!m.isEmpty) ⟨d, (p, .dk m) :: cs⟩ := by
  show (p = p ∧ _) = _
  simp
end Z
namespace Z
open PySem PySem.Spec PyProof.Rows L2
/-! ### defs as values -/
def fnD (a : Addr) : D := .dict [(.bool true, .int (a : Nat))]
/-- what is known of a def that stands at f -/
structure FunV (P : Program) (w : World) (K : PySem.W.Frag) (mg : Str → Option Value) (base : Heap) (S : Sto) (k : Nat) (f : Addr) (FF : FW S.T) : Prop where
  ex : ∃ j fd ps, j ≤ k ∧ FnOk P w K mg base CX0 j f fd ps (spD S K FF) ∧ PySem.W.keepIn K (.ref f) = true ∧ Binds K fd ps []
structure FunX (P : Program) (w : World) (K : PySem.W.Frag) (mg : Str → Option Value) (base : Heap) (S : Sto) (k : Nat) (f : Addr) (FX : FWX S.T) : Prop where
  ex : ∃ j fd ps, j ≤ k ∧ FnOk P w K mg base (L2.CX P w) j f fd ps (spDX S K FX) ∧ PySem.W.keepIn K (.ref f) = true ∧ Binds K fd ps []
theorem FunV.of {P : Program} {w : World} {K : PySem.W.Frag} {mg : Str → Option Value} {base : Heap} {S : Sto} {x : Str} {ps : List Str} {j k : Nat} {f : Addr} {FF : FW S.T} (h : Known P w K mg base S x ps j FF) (e : mg x = some (.ref f)) (l : j ≤ k) : FunV P w K mg base S k f FF := by
  obtain ⟨f', fd, F, hm, hk, hb⟩ := h.ex
  rw [e] at hm
  cases hm
  exact ⟨j, fd, ps, l, F, hk, hb⟩
theorem FunX.of {P : Program} {w : World} {K : PySem.W.Frag} {mg : Str → Option Value} {base : Heap} {S : Sto} {x : Str} {ps : List Str} {j k : Nat} {f : Addr} {FX : FWX S.T} (h : KnownX P w K mg base S x ps j FX) (e : mg x = some (.ref f)) (l : j ≤ k) : FunX P w K mg base S k f FX := by
  obtain ⟨f', fd, F, hm, hk, hb⟩ := h.ex
  rw [e] at hm
  cases hm
  exact ⟨j, fd, ps, l, F, hk, hb⟩
def kCallV {T : Type} (fs : List (Addr × FW T)) (ta : WA T) (env : List SV) (Q : SV → T → Prop) (τ : T) (sv : Option SV) : Prop := ∃ f FF, sv = some (.d (fnD f)) ∧ (f, FF) ∈ fs ∧ dCall FF ta env τ Q
def dCallV {T : Type} (i : Nat) (fs : List (Addr × FW T)) (ta : WA T) : W T := fun env τ Q => kCallV fs ta env Q τ env[i]?
theorem dCallV_k {T : Type} (i : Nat) (fs : List (Addr × FW T)) (ta : WA T) (env : List SV) (τ : T) (Q : SV → T → Prop) : dCallV i fs ta env τ Q = kCallV fs ta env Q τ env[i]? := rfl
def kCallVX {T : Type} (fs : List (Addr × FWX T)) (Ed : D → T → Prop) (ta : WA T) (env : List SV) (Q : SV → T → Prop) (τ : T) (sv : Option SV) : Prop := ∃ f FF, sv = some (.d (fnD f)) ∧ (f, FF) ∈ fs ∧ dCallX FF Ed ta env τ Q
def dCallVX {T : Type} (i : Nat) (fs : List (Addr × FWX T)) (Ed : D → T → Prop) (ta : WA T) : W T := fun env τ Q => kCallVX fs Ed ta env Q τ env[i]?
theorem dCallVX_k {T : Type} (i : Nat) (fs : List (Addr × FWX T)) (Ed : D → T → Prop) (ta : WA T) (env : List SV) (τ : T) (Q : SV → T → Prop) : dCallVX i fs Ed ta env τ Q = kCallVX fs Ed ta env Q τ env[i]? := rfl
/-! ### walks over what α's tell -/
section
variable {T : Type} {α : Type} {t : Tg} {tt : WT T} {te : W T} {τ : T}
theorem lc_filt' {Q : List D → T → Prop} {env : List SV} (g f : α → D) (p : α → Bool) : ∀ (l : List α) (acc : List D),
    (∀ x ∈ l, ∀ (kc : D → T → Prop) (k0 : T → Prop), (p x = true → kc (f x) τ) → (p x = false → k0 τ) → kTgB tt te kc k0 τ (tgE t (g x) env)) →
    acc.length + l.length ≤ sizeLine → Q (acc ++ (l.filter p).map f) τ → lcW t tt te Q (l.map g) acc env τ
  | [], acc, _, _, q => by
    rw [List.filter_nil, List.map_nil, List.append_nil] at q
    exact q
  | c :: l, acc, h, hl, q => by
    rw [List.length_cons] at hl
    refine turn_k (h c (by simp) _ _ (fun e => ?_) fun e => ?_)
    · rw [List.filter_cons, if_pos e] at q
      refine ⟨by omega, lc_filt' g f p l _ (fun y hy => h y (by simp [hy])) (by rw [List.length_append, List.length_singleton]; omega) ?_⟩
      rw [List.append_assoc]
      exact q
    · rw [List.filter_cons, if_neg (by rw [e]; decide)] at q
      exact lc_filt' g f p l acc (fun y hy => h y (by simp [hy])) (by omega) q
/-- [f(x) for x in l if p(x)] -/
theorem lc_filt {Q : List D → T → Prop} {env : List SV} (g f : α → D) (p : α → Bool) (l : List α)
    (h : ∀ x ∈ l, ∀ (kc : D → T → Prop) (k0 : T → Prop), (p x = true → kc (f x) τ) → (p x = false → k0 τ) → kTgB tt te kc k0 τ (tgE t (g x) env))
    (hl : l.length ≤ sizeLine) (q : Q ((l.filter p).map f) τ) : lcW t tt te Q (l.map g) [] env τ :=
  lc_filt' g f p l [] h (by simpa using hl) q
/-- [f(x) for x in l] -/
theorem lc_mapA {Q : List D → T → Prop} {env : List SV} (g f : α → D) (l : List α)
    (h : ∀ x ∈ l, ∀ (kc : D → T → Prop) (k0 : T → Prop), kc (f x) τ → kTgB tt te kc k0 τ (tgE t (g x) env))
    (hl : l.length ≤ sizeLine) (q : Q (l.map f) τ) : lcW t tt te Q (l.map g) [] env τ :=
  lc_filt g f (fun _ => true) l (fun x hx kc k0 h1 _ => h x hx kc k0 (h1 rfl)) hl (by rw [List.filter_eq_self.mpr fun _ _ => rfl]; exact q)
/-- the same, where each turn adds or not, told by what was there -/
theorem lc_invA {Q : List D → T → Prop} {env : List SV} (g : α → D) (P : Nat → List D → T → Prop) (l : List α) (τ : T) (h0 : P 0 [] τ)
    (h : ∀ j x acc τ, l[j]? = some x → P j acc τ → acc.length ≤ j → ∀ (kc : D → T → Prop) (k0 : T → Prop), (∀ y τ', P (j + 1) (acc ++ [y]) τ' → kc y τ') → (∀ τ', P (j + 1) acc τ' → k0 τ') → kTgB tt te kc k0 τ (tgE t (g x) env))
    (hl : l.length ≤ sizeLine) (q : ∀ acc τ, P l.length acc τ → Q acc τ) : lcW t tt te Q (l.map g) [] env τ :=
  lc_inv P (l.map g) τ h0 (fun j x acc τ e p ha kc k0 h1 h2 => by
    rw [List.getElem?_map] at e
    cases z : l[j]? with
    | none => rw [z] at e; cases e
    | some y =>
      rw [z] at e
      cases e
      exact h j y acc τ z p ha kc k0 h1 h2) (by rw [List.length_map]; exact hl) (by rw [List.length_map]; exact q)
end
end Z
namespace Z
open PySem PySem.Spec PyProof.Rows L2
/-! ### xs.count(d) of a list -/
def dCnt {T : Type} (te : W T) (ta : WA T) : W T := fun env τ Q => te env τ fun r τ1 => ∃ xs, r.lst? = some xs ∧ ta env τ1 fun rs τ2 => ∃ d, rs = [.d d] ∧ PyData.canLayAll0 xs = true ∧ d.canLay0 = true ∧ d.depth ≤ 8 ∧ Q (.d (.int (xs.countP fun y => PyData.eqv y d : Nat))) τ2
def kCnt2 {T : Type} (xs : List D) (Q : SV → T → Prop) (rs : List SV) (τ2 : T) : Prop := ∃ d, rs = [.d d] ∧ PyData.canLayAll0 xs = true ∧ d.canLay0 = true ∧ d.depth ≤ 8 ∧ Q (.d (.int (xs.countP fun y => PyData.eqv y d : Nat))) τ2
def kCntB {T : Type} (ta : WA T) (env : List SV) (Q : SV → T → Prop) (τ1 : T) : Option (List D) → Prop
  | some xs => ta env τ1 (kCnt2 xs Q)
  | none => False
def kCnt1 {T : Type} (ta : WA T) (env : List SV) (Q : SV → T → Prop) (r : SV) (τ1 : T) : Prop := kCntB ta env Q τ1 r.lst?
theorem dCnt_k {T : Type} (te : W T) (ta : WA T) (env : List SV) (τ : T) (Q : SV → T → Prop) : dCnt te ta env τ Q = te env τ (kCnt1 ta env Q) := by
  unfold dCnt
  congr 1
  funext r τ1
  unfold kCnt1 kCntB
  cases r.lst? with
  | none => simp
  | some xs =>
    simp only [Option.some.injEq, exists_eq_left']
    rfl
theorem kCnt1_1 {T : Type} {ta : WA T} {env : List SV} {Q : SV → T → Prop} {xs : List D} {τ : T} : kCnt1 ta env Q (.ol xs) τ = ta env τ (kCnt2 xs Q) := rfl
theorem kCnt1_2 {T : Type} {ta : WA T} {env : List SV} {Q : SV → T → Prop} {xs : List D} {τ : T} : kCnt1 ta env Q (.vw xs) τ = ta env τ (kCnt2 xs Q) := rfl
theorem kCnt1_3 {T : Type} {ta : WA T} {env : List SV} {Q : SV → T → Prop} {xs : List D} {τ : T} : kCnt1 ta env Q (.d (.list xs)) τ = ta env τ (kCnt2 xs Q) := rfl
/-! ### walks over what stands there, turn by turn -/
section
variable {T : Type} {t : Tg} {tt : WT T} {te : W T} {Q : List D → T → Prop} {x y : Z.D} {xs acc : List Z.D} {env : List SV} {τ : T} {tb : WS T} {D : DEnds T}
def kLcY (t : Tg) (tt : WT T) (te : W T) (Q : List Z.D → T → Prop) (xs acc : List Z.D) (env : List SV) : Z.D → T → Prop := fun y τ => acc.length < sizeLine ∧ lcW t tt te Q xs (acc ++ [y]) env τ
def kLcN (t : Tg) (tt : WT T) (te : W T) (Q : List Z.D → T → Prop) (xs acc : List Z.D) (env : List SV) : T → Prop := fun τ => lcW t tt te Q xs acc env τ
theorem lcW_c : lcW t tt te Q (x :: xs) acc env τ = kTgB tt te (kLcY t tt te Q xs acc env) (kLcN t tt te Q xs acc env) τ (tgE t x env) := by
  show opt (tgE t x env) _ = _
  cases e : tgE t x env with
  | none => rfl
  | some a =>
    show tt a τ _ = tt a τ _
    congr 1
    funext b τ1
    unfold kTurn
    congr 1
    congr 1
    funext r τ2
    exact opt_e (fun _ => rfl) rfl
theorem lcW_n : lcW t tt te Q [] acc env τ = Q acc τ := rfl
theorem kLcY_e : kLcY t tt te Q xs acc env y τ = (acc.length < sizeLine ∧ lcW t tt te Q xs (acc ++ [y]) env τ) := rfl
theorem kLcN_e : kLcN t tt te Q xs acc env τ = lcW t tt te Q xs acc env τ := rfl
def kForN (t : Tg) (tb : WS T) (D : DEnds T) (xs : List Z.D) : List SV → T → Prop := fun env τ => forW t tb D xs env τ
theorem forW_c : forW t tb D (x :: xs) env τ = kFtB tb ⟨kForN t tb D xs, D.rt, D.nx, kForN t tb D xs⟩ τ (tgE t x env) := by
  show opt (tgE t x env) _ = _
  cases e : tgE t x env with
  | none => rfl
  | some a => rfl
theorem forW_n : forW t tb D [] env τ = D.nx env τ := rfl
theorem kForN_e : kForN t tb D xs env τ = forW t tb D xs env τ := rfl
theorem szl : 0 < sizeLine ∧ 1 < sizeLine ∧ 2 < sizeLine ∧ 3 < sizeLine ∧ 4 < sizeLine ∧ 5 < sizeLine ∧ 6 < sizeLine ∧ 7 < sizeLine ∧ 8 < sizeLine ∧ 9 < sizeLine := by
  rw [sizeLine_eq]
  decide
end
/-! ### a, b, .. = a list -/
def kUnl2 {T : Type} (D : DEnds T) (τ : T) : Option (List SV) → Prop
  | some env => D.nx env τ
  | none => False
def kUnl1 {T : Type} (ts : List Tg) (D : DEnds T) (env : List SV) (τ : T) : Option (List Z.D) → Prop
  | some xs => kUnl2 D τ (tgEs ts xs env)
  | none => False
def kUnl {T : Type} (ts : List Tg) (D : DEnds T) (env : List SV) (r : SV) (τ : T) : Prop := kUnl1 ts D env τ r.lst?
def dAsgL {T : Type} (ts : List Tg) (te : W T) : WS T := fun D env τ => te env τ (kUnl ts D env)
theorem dAsgL_k {T : Type} (ts : List Tg) (te : W T) (D : DEnds T) (env : List SV) (τ : T) : dAsgL ts te D env τ = te env τ (kUnl ts D env) := rfl
theorem kUnl_1 {T : Type} {ts : List Tg} {D : DEnds T} {env : List SV} {xs : List Z.D} {τ : T} : kUnl ts D env (.ol xs) τ = kUnl2 D τ (tgEs ts xs env) := rfl
theorem kUnl_2 {T : Type} {ts : List Tg} {D : DEnds T} {env : List SV} {xs : List Z.D} {τ : T} : kUnl ts D env (.d (.list xs)) τ = kUnl2 D τ (tgEs ts xs env) := rfl
theorem kUnl2_1 {T : Type} {D : DEnds T} {env : List SV} {τ : T} : kUnl2 D τ (some env) = D.nx env τ := rfl
end Z
namespace Z
open PySem PySem.Spec PyProof.Rows L2
/-! ### list(range(n)), tuple(range(n)) -/
def kRg1B {T : Type} (f : List D → SV) (Q : SV → T → Prop) (x : SV) (τ : T) : Prop := ∃ j : Int, x = .d (.int j) ∧ RgOk 0 j ∧ Q (f (rgI 0 (j - 0).toNat)) τ
def dRg1 {T : Type} (f : List D → SV) (ta : W T) : W T := fun env τ Q => ta env τ (kRg1B f Q)
theorem dRg1_k {T : Type} (f : List D → SV) (ta : W T) (env : List SV) (τ : T) (Q : SV → T → Prop) : dRg1 f ta env τ Q = ta env τ (kRg1B f Q) := rfl
theorem kRg1B_k {T : Type} {f : List D → SV} {j : Int} {Q : SV → T → Prop} {τ : T} : kRg1B f Q (.d (.int j)) τ = (RgOk 0 j ∧ Q (f (rgI 0 (j - 0).toNat)) τ) := by
  refine propext ⟨?_, fun h => ⟨j, rfl, h⟩⟩
  rintro ⟨j', e1, h⟩
  cases e1
  exact h
/-! ### (x,) * n, n 0 and 1 too -/
theorem tuple_mul_one (l : Addr) (items : Array Value) (n : Nat) (dd : Option Addr) (sl : Array (Option Value)) (u : Tok) :
    Meets (Builtin.«tuple.__mul__» ⟨[.ref l, .int 1 u], []⟩) (fun _ R s => s.heap.get? l = some { cls := .type "tuple", dict := dd, data := .seq items n, slots := sl } ∧ R (.ok (.ret (Value.ref l))) s) :=
  .of_wp fun prog w A R s h => by
    obtain ⟨hp, g, d, tk, os⟩ := s
    obtain ⟨hl, h⟩ := h
    have f1 := AutoSeq1.idx_int
    wp_walk using wpAny_loadPart' hl
    exact ⟨_, rfl, h⟩
theorem tuple_mul_zero (l : Addr) (items : Array Value) (n : Nat) (dd : Option Addr) (sl : Array (Option Value)) (u : Tok) (hne : items.isEmpty = false) :
    Meets (Builtin.«tuple.__mul__» ⟨[.ref l, .int 0 u], []⟩) (fun _ R s => s.heap.get? l = some { cls := .type "tuple", dict := dd, data := .seq items n, slots := sl } ∧
      R (.ok (.ret (Value.ref s.heap.objs.size))) { s with heap := s.heap.push { cls := Value.type "tuple", data := Data.seq #[] }, toks := s.toks }) :=
  .of_wp fun prog w A R s h => by
    obtain ⟨hp, g, d, tk, os⟩ := s
    obtain ⟨hl, h⟩ := h
    have f1 := AutoSeq1.idx_int
    wp_walk using wpAny_loadPart' hl
    exact ⟨_, rfl, h⟩
def rRepT2 (K : PySem.W.Frag) : R2 := fun x y H Q => ∃ l xs, x = .ref l ∧ SqT K H l xs ∧ xs ≠ [] ∧ ((y = .int 1 ∧ Q (.ref l) H) ∨ (y = .int 0 ∧ ∀ p, H p = none → Q (.ref p) (upd H p (.tup []))))
theorem op_repT2 {X : Cx} : OpR X (binaryOp .Mult) (rRepT2 X.K) := by
  intro pins s σ H x y v u Q I rx ry h
  obtain ⟨l, xs, rfl, hT, hne, h⟩ := h
  cases rx
  obtain ⟨its, r, ⟨⟨cls, dd, data, sl⟩, ho, hc, n, hd⟩, hs⟩ := I.tuple hT
  simp only at hc hd
  subst hc hd
  have hn : its ≠ [] := fun e => hne (by
    have := r.length
    rw [e] at this
    exact List.eq_nil_of_length_eq_zero this)
  have hi : its.toArray.isEmpty = false := by
    cases its with
    | nil => exact absurd rfl hn
    | cons a b => rfl
  rcases h with ⟨rfl, q⟩ | ⟨rfl, q⟩
  · obtain ⟨t, rfl⟩ := ry
    exact wpAny_binaryOp_repeat_ref (T := "tuple") (U := "int") (by decide) ⟨_, ho, rfl⟩ (fun s' => typeIs_int s' 1 t) noFill_tuple_mul F.fills_int_mul F.slot_int_rmul repeat_tuple F.slot_int_index.lookup
      (call_meets F.slot_int_rmul (typeIs_int s 1 t) F.entry_int_rmul (F.args_int_rmul_2 _ _) (int_rmul_tuple 1 t l its.toArray n dd sl)
        ⟨ho, rfl, ⟨_, ho, rfl⟩, call_meets F.slot_tuple_mul ⟨_, ho, rfl⟩ F.entry_tuple_mul (F.args_tuple_mul_2 _ _) (tuple_mul_one l its.toArray n dd sl t) ⟨ho, ⟨.ref l, H, I, rfl, q⟩⟩⟩)
  · obtain ⟨t, rfl⟩ := ry
    refine wpAny_binaryOp_repeat_ref (T := "tuple") (U := "int") (by decide) ⟨_, ho, rfl⟩ (fun s' => typeIs_int s' 0 t) noFill_tuple_mul F.fills_int_mul F.slot_int_rmul repeat_tuple F.slot_int_index.lookup
      (call_meets F.slot_int_rmul (typeIs_int s 0 t) F.entry_int_rmul (F.args_int_rmul_2 _ _) (int_rmul_tuple 0 t l its.toArray n dd sl)
        ⟨ho, rfl, ⟨_, ho, rfl⟩, call_meets F.slot_tuple_mul ⟨_, ho, rfl⟩ F.entry_tuple_mul (F.args_tuple_mul_2 _ _) (tuple_mul_zero l its.toArray n dd sl t hi) ⟨ho, ?_⟩⟩)
    refine ⟨.ref s.heap.objs.size, _, I.laid (t' := s.toks) (o := .tup []) (fun b ob q => Heap.get?_push_of_some _ q) (Nat.le_refl _) ?_, rfl, q _ (I.hok.fresh (Nat.le_refl _))⟩
    exact ⟨by rw [sizeLine_eq]; decide, [], .nil, IsTup.new _ _⟩
def gTM (x y : SV) (Q : SV → Prop) : Prop := ∃ xs k, x = .d (.tuple xs) ∧ y = .d (.int k) ∧ xs ≠ [] ∧ (0 ≤ k ∧ k ≤ 1000) ∧ xs.length ≤ 1000 ∧ Q (.d (.tuple (List.replicate k.toNat xs).flatten))
theorem op_mulT {X : Cx} : OpR X (binaryOp .Mult) (fun x y H Q => rRepT X.K x y H Q ∨ rRepT2 X.K x y H Q) := op_repT.or op_repT2
theorem od_mulTM {X : Cx} {B : Bk} (hK : X.K = B.K) : OpD B (fun x y H Q => rRepT X.K x y H Q ∨ rRepT2 X.K x y H Q) gTM := fun x y vx vy Ha Hb G F H τ Qv Q k rx ry h fin => by
  obtain ⟨xs, n, ex, ey, hne, hn, hz, h⟩ := h
  by_cases h2 : 2 ≤ n
  · exact .inl (od_mulT hK x y vx vy Ha Hb G F H τ Qv Q k rx ry ⟨xs, n, ex, ey, hne, ⟨h2, hn.2⟩, hz, h⟩ fin)
  · right
    subst ex ey
    rw [hK]
    obtain ⟨p, vs, e1, hs, a⟩ := rtup rx
    have hl := a.length
    refine ⟨p, vs, e1, same_seqT k.same hs, fun z => hne ?_, ?_⟩
    · subst z
      exact List.length_eq_zero_iff.mp hl.symm
    · by_cases h1 : n = 1
      · subst h1
        refine .inl ⟨rint ry, ?_⟩
        rw [← e1]
        refine fin.d k rx ?_
        have e : (List.replicate (1 : Int).toNat xs).flatten = xs := by simp
        rw [e] at h
        exact h
      · have h0 : n = 0 := by omega
        subst h0
        exact .inr ⟨rint ry, fun p' hp => fin.tup k hp .nil h⟩
end Z
namespace Z
open PySem PySem.Spec PyProof.Rows L2
/-! ### isinstance(x, (A, B)) -/
def kTy2 {T : Type} (a b : String) (Q : SV → T → Prop) (τ : T) : Option String → Prop
  | some n => Q (.d (.bool (isT n a || isT n b))) τ
  | none => False
theorem kTy2_s {T : Type} {a b : String} {Q : SV → T → Prop} {τ : T} {n : String} : kTy2 a b Q τ (some n) = Q (.d (.bool (isT n a || isT n b))) τ := rfl
def kIsi2B {T : Type} (a b : String) (Q : SV → T → Prop) (x : SV) (τ : T) : Prop := kTy2 a b Q τ x.tyN
def dIsi2 {T : Type} (a b : String) (t : W T) : W T := fun env τ Q => t env τ (kIsi2B a b Q)
theorem dIsi2_k {T : Type} (a b : String) (t : W T) (env : List SV) (τ : T) (Q : SV → T → Prop) : dIsi2 a b t env τ Q = t env τ (kIsi2B a b Q) := rfl
theorem kIsi2B_k {T : Type} {a b : String} {Q : SV → T → Prop} {x : SV} {τ : T} : kIsi2B a b Q x τ = kTy2 a b Q τ x.tyN := rfl
/-! ### xs.extend(a tuple) -/
def kExT {T : Type} (i : Nat) (D : DEnds T) (env : List SV) (xs : List Z.D) (r : SV) (τ : T) : Prop := match r with
  | .d (.tuple zs) => xs.length + zs.length ≤ sizeLine ∧ D.nx (env.set i (.ol (xs ++ zs))) τ
  | _ => False
theorem kExT_1 {T : Type} {i : Nat} {D : DEnds T} {env : List SV} {xs zs : List Z.D} {τ : T} : kExT i D env xs (.d (.tuple zs)) τ = (xs.length + zs.length ≤ sizeLine ∧ D.nx (env.set i (.ol (xs ++ zs))) τ) := rfl
def kExtT {T : Type} (i : Nat) (te : W T) (D : DEnds T) (env : List SV) (τ : T) : Option SV → Prop
  | some (.ol xs) => te env τ (kExT i D env xs)
  | _ => False
theorem kExtT_1 {T : Type} {i : Nat} {te : W T} {D : DEnds T} {env : List SV} {τ : T} {xs : List Z.D} : kExtT i te D env τ (some (.ol xs)) = te env τ (kExT i D env xs) := rfl
def dExtT {T : Type} (i : Nat) (te : W T) : WS T := fun D env τ => kExtT i te D env τ env[i]?
theorem dExtT_k {T : Type} (i : Nat) (te : W T) (D : DEnds T) (env : List SV) (τ : T) : dExtT i te D env τ = kExtT i te D env τ env[i]? := rfl
end Z
namespace Z
open PySem PySem.Spec PyProof.Rows L2
/-! ### cells found by where they stand -/
def cget : List (Addr × Cel) → Addr → Option Cel
  | [], _ => none
  | (q, c) :: r, p => if q = p then some c else cget r p
def cset : List (Addr × Cel) → Addr → Cel → List (Addr × Cel)
  | [], _, _ => []
  | (q, c0) :: r, p, c => if q = p then (q, c) :: r else (q, c0) :: cset r p c
theorem cset_keys (p : Addr) (c : Cel) : ∀ cs : List (Addr × Cel), (cset cs p c).map (·.1) = cs.map (·.1)
  | [] => rfl
  | (q, c0) :: r => by
    unfold cset
    by_cases e : q = p
    · rw [if_pos e]; rfl
    · rw [if_neg e, List.map_cons, List.map_cons, cset_keys p c r]
theorem cget_mem {p : Addr} {c : Cel} : ∀ {cs : List (Addr × Cel)}, cget cs p = some c → (p, c) ∈ cs
  | (q, c0) :: r, e => by
    unfold cget at e
    by_cases h : q = p
    · rw [if_pos h] at e
      cases e
      rw [h]
      exact List.mem_cons_self
    · rw [if_neg h] at e
      exact List.mem_cons_of_mem _ (cget_mem e)
theorem cset_mem {p : Addr} {c : Cel} {e : Addr × Cel} : ∀ {cs : List (Addr × Cel)}, (cs.map (·.1)).Nodup → e ∈ cset cs p c → e = (p, c) ∨ (e ∈ cs ∧ e.1 ≠ p)
  | [], _, h => by cases h
  | (q, c0) :: r, nd, h => by
    rw [List.map_cons, List.nodup_cons] at nd
    unfold cset at h
    by_cases z : q = p
    · rw [if_pos z] at h
      rcases List.mem_cons.mp h with rfl | h
      · exact .inl (by rw [z])
      · exact .inr ⟨List.mem_cons_of_mem _ h, fun y => nd.1 (by rw [z, ← y]; exact List.mem_map.mpr ⟨e, h, rfl⟩)⟩
    · rw [if_neg z] at h
      rcases List.mem_cons.mp h with rfl | h
      · exact .inr ⟨List.mem_cons_self, z⟩
      · rcases cset_mem nd.2 h with h | ⟨h1, h2⟩
        · exact .inl h
        · exact .inr ⟨List.mem_cons_of_mem _ h1, h2⟩
theorem mem_uniq {p : Addr} {c c' : Cel} : ∀ {cs : List (Addr × Cel)}, (cs.map (·.1)).Nodup → (p, c) ∈ cs → (p, c') ∈ cs → c = c'
  | (q, c0) :: r, nd, h, h' => by
    rw [List.map_cons, List.nodup_cons] at nd
    rcases List.mem_cons.mp h with e | g <;> rcases List.mem_cons.mp h' with e' | g'
    · cases e; cases e'; rfl
    · cases e; exact (nd.1 (List.mem_map.mpr ⟨(p, c'), g', rfl⟩)).elim
    · cases e'; exact (nd.1 (List.mem_map.mpr ⟨(p, c), g, rfl⟩)).elim
    · exact mem_uniq nd.2 g g'
theorem mem_cset {p : Addr} {c c0 : Cel} : ∀ {cs : List (Addr × Cel)}, cget cs p = some c0 → (p, c) ∈ cset cs p c
  | (q, c1) :: r, e => by
    unfold cget at e
    unfold cset
    by_cases h : q = p
    · rw [if_pos h, h]; exact List.mem_cons_self
    · rw [if_neg h] at e ⊢
      exact List.mem_cons_of_mem _ (mem_cset e)
theorem mem_cset' {p : Addr} {c : Cel} {e : Addr × Cel} : ∀ {cs : List (Addr × Cel)}, e ∈ cs → e.1 ≠ p → e ∈ cset cs p c
  | (q, c1) :: r, h, n => by
    unfold cset
    rcases List.mem_cons.mp h with rfl | h
    · rw [if_neg n]; exact List.mem_cons_self
    · by_cases z : q = p
      · rw [if_pos z]; exact List.mem_cons_of_mem _ h
      · rw [if_neg z]; exact List.mem_cons_of_mem _ (mem_cset' h n)
section
variable {Ts : List (Addr × Str)} {K : PySem.W.Frag} {τ τ' : T2} {G H G' H' : Hp} {F F' : Addr → Prop} {p : Addr}
theorem celF_cset {cs : List (Addr × Cel)} {c c' : Cel} (nd : (cs.map (·.1)).Nodup) (e : cget cs p = some c) (ow : ∀ q, ¬ c.own q) (ow' : ∀ q, ¬ c'.own q) (a : Addr) : celF (cset cs p c') a ↔ celF cs a := by
  constructor
  · rintro ⟨x, hx, q⟩
    rcases cset_mem nd hx with rfl | ⟨h, _⟩
    · exact ⟨_, cget_mem e, q.imp id fun z => (ow' _ z).elim⟩
    · exact ⟨x, h, q⟩
  · rintro ⟨x, hx, q⟩
    by_cases z : x.1 = p
    · rcases q with q | q
      · exact ⟨_, mem_cset e, .inl (z.symm.trans q)⟩
      · have : x = (p, c) := by
          obtain ⟨x1, x2⟩ := x
          cases z
          rw [mem_uniq nd hx (cget_mem e)]
        subst this
        exact (ow _ q).elim
    · exact ⟨x, mem_cset' hx z, q⟩
theorem Ok.celR {cs : List (Addr × Cel)} {d : DrT} {c : Cel} (k : Ok (theT Ts) K ⟨d, cs⟩ G F H) (e : cget cs p = some c) : CelR K G H p c := by
  have r : TR Ts K ⟨d, cs⟩ G F H := k.r
  exact r.cs _ (cget_mem e)
theorem Ok.cput {cs : List (Addr × Cel)} {d : DrT} {c c' : Cel} {o : HO} (k : Ok (theT Ts) K ⟨d, cs⟩ G F H) (e : cget cs p = some c) (ow : ∀ q, ¬ c.own q) (ow' : ∀ q, ¬ c'.own q) (h : CelR K G (upd H p o) p c')
    (nt : ∀ ps, o ≠ .tbl ps := by intro _ z; cases z) (nx : ∀ φ, o ≠ .ext φ := by intro _ z; cases z) : Step G F H G F (upd H p o) ∧ Ok (theT Ts) K ⟨d, cset cs p c'⟩ G F (upd H p o) := by
  have r : TR Ts K ⟨d, cs⟩ G F H := k.r
  have hm := cget_mem e
  obtain ⟨o0, hp, no1, no2⟩ := (r.cs _ hm).some
  have fp : F p := (r.f p).mpr (.inr (.inl ⟨_, hm, .inl rfl⟩))
  have eF : ∀ a, F a ↔ tF Ts ⟨d, cset cs p c'⟩ a := fun a => (r.f a).trans (or_congr Iff.rfl (or_congr (celF_cset r.nd e ow ow' a).symm Iff.rfl))
  have gp : G p = none := k.gf p fp
  refine ⟨⟨Same.refl G, fun a o nf e => by rw [upd_ne (fun z => nf (by rw [z]; exact fp))]; exact e, fun a o e => .inl e, fun a h => .inl h, fun a h => h, fun a h => ?_⟩, ⟨fun a o e => ?_, k.gf, fun a h => ?_, ⟨eF, ?_, fun e he => ?_, by rw [cset_keys]; exact r.nd, fun q hq => ?_⟩, k.nt' nt, k.nx' nx⟩⟩
  · by_cases q : a = p
    · subst q; rw [upd_same]; exact fun z => by cases z
    · rw [upd_ne q]; exact h
  · rw [upd_ne (ne_of_none e gp)]; exact k.same a o e
  · by_cases q : a = p
    · subst q; rw [upd_same]; exact fun z => by cases z
    · rw [upd_ne q]; exact k.fh a h
  · have hd := r.dr
    show drP K (cset cs p c') G _ d
    cases d with
    | off => trivial
    | on a b =>
      have na : a ≠ p := fun z => hd.2 _ hm z.symm
      refine ⟨hd.1.mono (Same.refl G) (upd_ne na), fun e he => ?_⟩
      rcases cset_mem r.nd he with rfl | ⟨he, _⟩
      · exact Ne.symm na
      · exact hd.2 e he
  · rcases cset_mem r.nd he with rfl | ⟨he, ne⟩
    · exact h
    · have z := r.cs e he
      refine z.mono (Same.refl G) (upd_ne ne) fun q hq => upd_ne fun y => ?_
      have := z.own hq
      rw [y, hp] at this
      exact no2 _ (Option.some.inj this)
  · have z := r.tb q hq
    refine z.mono (Same.refl G) (upd_ne fun y => ?_)
    obtain ⟨ps, h1, _⟩ := z
    rw [y, hp] at h1
    exact no1 _ (Option.some.inj h1)
theorem Ok.cnew {c : Cel} {o : HO} (k : Ok (theT Ts) K τ G F H) (n : H p = none) (ow : ∀ q, ¬ c.own q) (hc : CelR K G (upd H p o) p c) (nt : ∀ ps, o ≠ .tbl ps := by intro _ z; cases z) (nx : ∀ φ, o ≠ .ext φ := by intro _ z; cases z) : p ∉ τ.cs.map (·.1) ∧
    Step G F H G (tF Ts ⟨τ.dr, (p, c) :: τ.cs⟩) (upd H p o) ∧ Ok (theT Ts) K ⟨τ.dr, (p, c) :: τ.cs⟩ G (tF Ts ⟨τ.dr, (p, c) :: τ.cs⟩) (upd H p o) := by
  have r : TR Ts K τ G F H := k.r
  have nF : ¬ F p := fun z => k.fh p z n
  have nc : p ∉ τ.cs.map (·.1) := fun z => by
    obtain ⟨e, he, q⟩ := List.mem_map.mp z
    exact nF ((r.f p).mpr (.inr (.inl ⟨e, he, .inl q⟩)))
  have ne : ∀ a, F a → a ≠ p := fun a h z => by subst z; exact nF h
  have up : ∀ a, F a → (upd H p o) a = H a := fun a h => upd_ne (ne a h)
  have gp : G p = none := by
    cases q : G p with
    | none => rfl
    | some o => rw [k.same p o q] at n; cases n
  have inF : ∀ a, tF Ts τ a → F a := fun a => (r.f a).mpr
  have spl : ∀ a, tF Ts ⟨τ.dr, (p, c) :: τ.cs⟩ a → F a ∨ a = p := fun a h => by
    rcases h with h | ⟨e, he, q⟩ | h
    · exact .inl (inF a (.inl h))
    · rcases List.mem_cons.mp he with rfl | he
      · rcases q with q | q
        · exact .inr q.symm
        · exact (ow _ q).elim
      · exact .inl (inF a (.inr (.inl ⟨e, he, q⟩)))
    · exact .inl (inF a (.inr (.inr h)))
  have wid : ∀ a, F a → tF Ts ⟨τ.dr, (p, c) :: τ.cs⟩ a := fun a h => by
    rcases (r.f a).mp h with h | ⟨e, he, q⟩ | h
    · exact .inl h
    · exact .inr (.inl ⟨e, List.mem_cons_of_mem _ he, q⟩)
    · exact .inr (.inr h)
  refine ⟨nc, ⟨Same.refl G, fun a o _ e => by rw [upd_ne (ne_of_none e n)]; exact e, fun a o e => .inl e, fun a h => ?_, wid, fun a h => ?_⟩, ⟨fun a o e => ?_, fun a h => ?_, fun a h => ?_, ⟨fun a => Iff.rfl, ?_, fun e he => ?_, ?_, fun q hq => ?_⟩, k.nt' nt, k.nx' nx⟩⟩
  · rcases spl a h with h | h
    · exact .inl h
    · exact .inr (by rw [h]; exact n)
  · by_cases q : a = p
    · subst q; exact absurd n h
    · rw [upd_ne q]; exact h
  · rw [upd_ne (ne_of_none (k.same a o e) n)]; exact k.same a o e
  · rcases spl a h with h | h
    · exact k.gf a h
    · rw [h]; exact gp
  · rcases spl a h with h | h
    · rw [up a h]; exact k.fh a h
    · rw [h, upd_same]; exact fun z => by cases z
  · have hd := r.dr
    show drP K ((p, c) :: τ.cs) G _ τ.dr
    cases q : τ.dr with
    | off => trivial
    | on a b =>
      rw [q] at hd
      have fa : F a := inF a (.inl (by rw [q]; rfl))
      refine ⟨hd.1.mono (Same.refl G) (up a fa), fun e he => ?_⟩
      rcases List.mem_cons.mp he with rfl | he
      · exact (ne a fa).symm
      · exact hd.2 e he
  · rcases List.mem_cons.mp he with rfl | he
    · exact hc
    · exact (r.cs e he).mono (Same.refl G) (up _ (inF _ (.inr (.inl ⟨e, he, .inl rfl⟩)))) fun q hq => up _ (inF _ (.inr (.inl ⟨e, he, .inr hq⟩)))
  · rw [List.map_cons]; exact List.nodup_cons.mpr ⟨nc, r.nd⟩
  · exact (r.tb q hq).mono (Same.refl G) (up _ (inF _ (.inr (.inr (List.mem_map.mpr ⟨q, hq, rfl⟩)))))
end
/-! ### tables with tuples of ints as keys -/
abbrev PrT (K : PySem.W.Frag) (G : Hp) : List (List Key × V) → List (List Key × D) → Prop := Paired fun (x : List Key × V) (y : List Key × D) => x.1 = y.1 ∧ Rp K G x.2 y.2
def putT (m : List (List Key × D)) (k : List Key) (v : D) : List (List Key × D) := if (m.any fun kv => decide (kv.1 = k)) = true then m.map (fun kv => if kv.1 = k then (kv.1, v) else kv) else m ++ [(k, v)]
section
variable {K : PySem.W.Frag} {G G' : Hp}
theorem PrT.any : ∀ {kvs : List (List Key × V)} {m : List (List Key × D)} (k : List Key), PrT K G kvs m → (kvs.any fun kv => decide (kv.1 = k)) = m.any fun kv => decide (kv.1 = k)
  | _, _, _, .nil => rfl
  | _, _, k, .cons h t => by rw [List.any_cons, List.any_cons, h.1, PrT.any k t]
theorem PrT.repl {v : V} {d : D} (r : Rp K G v d) (k : List Key) : ∀ {kvs : List (List Key × V)} {m : List (List Key × D)}, PrT K G kvs m → PrT K G (kvs.map fun kv => if kv.1 = k then (kv.1, v) else kv) (m.map fun kv => if kv.1 = k then (kv.1, d) else kv)
  | _, _, .nil => .nil
  | _, _, .cons (a := a) (b := b) h t => by
    rw [List.map_cons, List.map_cons]
    refine .cons ?_ (PrT.repl r k t)
    by_cases e : a.1 = k
    · rw [if_pos e, if_pos (by rw [← h.1]; exact e)]
      exact ⟨h.1, r⟩
    · rw [if_neg e, if_neg (by rw [← h.1]; exact e)]
      exact h
theorem PrT.app : ∀ {a b : List (List Key × V)} {m n : List (List Key × D)}, PrT K G a m → PrT K G b n → PrT K G (a ++ b) (m ++ n)
  | _, _, _, _, .nil, s => s
  | _, _, _, _, .cons h t, s => .cons h (PrT.app t s)
theorem PrT.put {kvs : List (List Key × V)} {m : List (List Key × D)} {v : V} {d : D} (h : PrT K G kvs m) (r : Rp K G v d) (k : List Key) : PrT K G (putK kvs k v) (putT m k d) := by
  unfold putK putT
  rw [h.any k]
  split
  · exact h.repl r k
  · exact h.app (.cons ⟨rfl, r⟩ .nil)
theorem PrT.length : ∀ {kvs : List (List Key × V)} {m : List (List Key × D)}, PrT K G kvs m → kvs.length = m.length
  | _, _, .nil => rfl
  | _, _, .cons _ t => congrArg Nat.succ (PrT.length t)
theorem PrK.val : ∀ {kvs : List (Key × V)} {m : List (Key × D)} (k : Key), PrK K G kvs m → (valV kvs k).isSome = m.any fun kv => decide (kv.1 = k)
  | kvs, m, k, h => by rw [← valV_any, h.any k]
end
/-! ### a def that is never called -/
theorem u1 {n : Nat} (h : n + 64 + 1 < cLine) : n + 1 < cLine := by omega
end Z
namespace Z
open PySem PySem.Spec PyProof.Rows L2
/-! ### a table of two tables: {a: {}, b: {}} -/
def kDisp2 (a b : Str) (Q : SV → T2 → Prop) (τ : T2) : Prop := ∀ p p1 p2, p ∉ τ.cs.map (·.1) → p1 ∉ p :: τ.cs.map (·.1) → p2 ∉ p1 :: p :: τ.cs.map (·.1) →
  Q (.raw (.ref p)) ⟨τ.dr, (p2, .dk []) :: (p1, .dt []) :: (p, .dv [(.inr a, .ref p1), (.inr b, .ref p2)]) :: τ.cs⟩
def dDisp2 (a b : Str) : W T2 := fun env τ Q => kDisp2 a b Q τ
theorem dDisp2_k (a b : Str) (env : List SV) (τ : T2) (Q : SV → T2 → Prop) : dDisp2 a b env τ Q = kDisp2 a b Q τ := rfl
/-- repr((e, x)), x an own list -/
def kRep2 (i : Nat) (env : List SV) (Q : SV → T2 → Prop) (r : SV) (τ1 : T2) : Prop := ∃ d xs, r = .d d ∧ env[i]? = some (.ol xs) ∧ reprOk (.tuple [d, .list xs]) ∧ Q (.d (.str (PyData.tuple [d, .list xs]).shown)) τ1
def dRepr2 (te : W T2) (i : Nat) : W T2 := fun env τ Q => te env τ (kRep2 i env Q)
theorem dRepr2_k (te : W T2) (i : Nat) (env : List SV) (τ : T2) (Q : SV → T2 → Prop) : dRepr2 te i env τ Q = te env τ (kRep2 i env Q) := rfl
/-! ### what is never come to -/
/-! ### x in a list of data -/
/-! ### a, b = [], e -/
def dNilE {T : Type} (i j : Nat) (te : W T) : WS T := fun D env τ => te env τ fun r τ1 => opt r.sto fun a => D.nx ((env.set i (.ol [])).set j a) τ1
def kNilE {T : Type} (i j : Nat) (D : DEnds T) (env : List SV) (r : SV) (τ1 : T) : Prop := opt r.sto fun a => D.nx ((env.set i (.ol [])).set j a) τ1
theorem dNilE_k {T : Type} (i j : Nat) (te : W T) (D : DEnds T) (env : List SV) (τ : T) : dNilE i j te D env τ = te env τ (kNilE i j D env) := rfl
theorem kNilE_1 {T : Type} {i j : Nat} {D : DEnds T} {env : List SV} {x : Z.D} {τ : T} : kNilE i j D env (.d x) τ = D.nx ((env.set i (.ol [])).set j (.d x)) τ := rfl
theorem kNilE_2 {T : Type} {i j : Nat} {D : DEnds T} {env : List SV} {x : List Z.D} {τ : T} : kNilE i j D env (.ol x) τ = D.nx ((env.set i (.ol [])).set j (.ol x)) τ := rfl
end Z
/-! DnC: calls by the arguments' names, nothing by position -/
namespace Z
open PySem PySem.Spec PyProof.Rows L2
/-- the values in the parameters' order -/
def kwg (sw : Bool) {α : Type} (l : List α) : List α := if sw then l.reverse else l
def KwB (K : PySem.W.Frag) (fd : FuncData) (ps ks : List Str) (sw : Bool) : Prop := KBinds K fd ps ks (fun us ws => us ++ kwg sw ws) (fun us ws => us ++ kwg sw ws)
structure KnKX (P : Program) (w : World) (K : PySem.W.Frag) (mg : Str → Option Value) (base : Heap) (S : Sto) (x : Str) (ps ks : List Str) (sw : Bool) (k : Nat) (FX : FWX S.T) : Prop where
  ex : ∃ f fd, FnOk P w K mg base (L2.CX P w) k f fd ps (spDX S K FX) ∧ mg x = some (.ref f) ∧ PySem.W.keepIn K (.ref f) = true ∧ KwB K fd ps ks sw
structure FunKX (P : Program) (w : World) (K : PySem.W.Frag) (mg : Str → Option Value) (base : Heap) (S : Sto) (ks : List Str) (sw : Bool) (k : Nat) (f : Addr) (FX : FWX S.T) : Prop where
  ex : ∃ j fd ps, j ≤ k ∧ FnOk P w K mg base (L2.CX P w) j f fd ps (spDX S K FX) ∧ PySem.W.keepIn K (.ref f) = true ∧ KwB K fd ps ks sw
theorem FunKX.of {P : Program} {w : World} {K : PySem.W.Frag} {mg : Str → Option Value} {base : Heap} {S : Sto} {x : Str} {ps ks : List Str} {sw : Bool} {j k : Nat} {f : Addr} {FX : FWX S.T} (h : KnKX P w K mg base S x ps ks sw j FX) (e : mg x = some (.ref f)) (l : j ≤ k) : FunKX P w K mg base S ks sw k f FX := by
  obtain ⟨f', fd, F, hm, hk, hb⟩ := h.ex
  rw [e] at hm
  cases hm
  exact ⟨j, fd, ps, l, F, hk, hb⟩
section
variable {X : Cx} {B : Bk} {e : Expr} {pos p kpos : Pos} {kws : List Keyword} {t : W B.T} {ta tk : WA B.T} {FX : FWX B.S.T} {Ed : Z.D → B.T → Prop} {E : XK} {ps ks : List Str} {k : Nat} {x : Str} {sw : Bool} {nm : Option Str}
theorem ResAll.append {K : PySem.W.Frag} {Ha G : Hp} {F : Addr → Prop} {H : Hp} : ∀ {rs qs : List SV} {vs us : List V}, ResAll K Ha G F H rs vs → ResAll K Ha G F H qs us → ResAll K Ha G F H (rs ++ qs) (vs ++ us)
  | _, _, _, _, .nil, h => h
  | _, _, _, _, .cons a t, h => .cons a (t.append h)
end
end Z
/-! DnD: repr of tuples with {} inside -/
namespace Z
open PySem PySem.Spec PyProof.Rows L2
mutual
/-- no list within, each dict is empty -/
def tdk : Z.D → Bool
  | .list _ => false
  | .dict [] => true
  | .dict (_ :: _) => false
  | .tuple xs => tdkAll xs
  | .none => true
  | .bool _ => true
  | .int _ => true
  | .str _ => true
def tdkAll : List Z.D → Bool
  | [] => true
  | x :: xs => tdk x && tdkAll xs
end
structure reprT (d : Z.D) : Prop where
  tup : ∃ xs, d = .tuple xs
  tk : tdk d = true
  sh : d.showable = true
  dp : d.depth ≤ 64
  sz : d.shown.length ≤ sizeLine
/-! ### what can be told so -/
structure Rt (m w : Nat) (d : Z.D) : Prop where
  tk : tdk d = true
  sh : d.showable = true
  dp : d.depth ≤ m
  st : d.leavesShort 64 = true
  wt : d.weight ≤ w
theorem Rt.le {m w m' w' : Nat} {d : Z.D} (h : Rt m w d) (hm : m ≤ m') (hw : w ≤ w') : Rt m' w' d := ⟨h.tk, h.sh, Nat.le_trans h.dp hm, h.st, Nat.le_trans h.wt hw⟩
theorem Rt.of {m w : Nat} {d : Z.D} (h : Rb m w d) (t : tdk d = true) : Rt m w d := ⟨t, h.sh, h.dp, PyData.leavesShort_of_canLay0 64 d h.lay h.st, h.wt⟩
theorem Rt.emp : Rt 1 0 (.dict []) := ⟨by rfl, by rfl, by decide, by rfl, by decide⟩
theorem Rt.all {m w : Nat} : ∀ {xs : List Z.D}, (∀ x ∈ xs, Rt m w x) → tdkAll xs = true ∧ PyData.showableAll xs = true ∧ PyData.depthAll xs ≤ m ∧ PyData.leavesShortAll 64 xs = true ∧ PyData.weightAll xs ≤ (w + 1) * xs.length
  | [], _ => ⟨rfl, rfl, Nat.zero_le _, rfl, Nat.zero_le _⟩
  | x :: r, h => by
    have hx := h x List.mem_cons_self
    obtain ⟨h1, h2, h3, h4, h5⟩ := Rt.all (xs := r) fun y hy => h y (List.mem_cons_of_mem _ hy)
    have := hx.dp
    have := hx.wt
    refine ⟨by rw [tdkAll, hx.tk, h1]; rfl, by rw [PyData.showableAll, hx.sh, h2]; rfl, by rw [PyData.depthAll]; omega, by rw [PyData.leavesShortAll, hx.st, h4]; rfl, ?_⟩
    rw [PyData.weightAll, List.length_cons, Nat.mul_add, Nat.mul_one]
    omega
theorem Rt.tup {m w n : Nat} {xs : List Z.D} (h : ∀ x ∈ xs, Rt m w x) (hl : xs.length ≤ n) : Rt (m + 1) ((w + 1) * n) (.tuple xs) := by
  obtain ⟨h1, h2, h3, h4, h5⟩ := Rt.all h
  have := Nat.mul_le_mul_left (w + 1) hl
  exact ⟨by rw [tdk]; exact h1, by rw [PyData.showable]; exact h2, by rw [PyData.depth]; omega, by rw [PyData.leavesShort]; exact h4, by rw [PyData.weight]; omega⟩
theorem Rt.rep {m w : Nat} {xs : List Z.D} (h : Rt m w (.tuple xs)) (hm : m ≤ 64) (hw : w ≤ 200000) : reprT (.tuple xs) := by
  refine ⟨⟨xs, rfl⟩, h.tk, h.sh, Nat.le_trans h.dp hm, ?_⟩
  have := PyData.shown_le 64 (by decide) _ h.st
  have := h.wt
  rw [sizeLine_eq]
  omega
end Z
/-! DnE: instances of the program's own classes, as cells -/
namespace Z
open PySem PySem.Spec PyProof.Rows L2
/-! ### fields -/
def putS (f : Str) (v : SV) : List (Str × SV) → List (Str × SV)
  | [] => [(f, v)]
  | (g, x) :: r => if g = f then (g, v) :: r else (g, x) :: putS f v r
abbrev PrI (K : PySem.W.Frag) (G : Hp) : List (Str × V) → List (Str × SV) → Prop := Paired (fun (x : Str × V) (y : Str × SV) => x.1 = y.1 ∧ FvR K G x.2 y.2)
theorem PrI.put {K : PySem.W.Frag} {G : Hp} {f : Str} {v : V} {s : SV} (r : FvR K G v s) : ∀ {fv : List (Str × V)} {fs : List (Str × SV)}, PrI K G fv fs → PrI K G (putF f v fv) (putS f s fs)
  | _, _, .nil => .cons ⟨rfl, r⟩ .nil
  | _, _, .cons (a := a) (b := b) h t => by
    obtain ⟨g, x⟩ := a
    obtain ⟨g', y⟩ := b
    obtain ⟨h1, h2⟩ := h
    have h1 : g = g' := h1
    subst h1
    unfold putF putS
    by_cases e : g = f
    · rw [if_pos e, if_pos e]; exact .cons ⟨rfl, r⟩ t
    · rw [if_neg e, if_neg e]; exact .cons ⟨rfl, h2⟩ (PrI.put r t)
theorem PrI.length {K : PySem.W.Frag} {G : Hp} : ∀ {fv : List (Str × V)} {fs : List (Str × SV)}, PrI K G fv fs → fv.length = fs.length
  | _, _, .nil => rfl
  | _, _, .cons _ t => congrArg Nat.succ (PrI.length t)
theorem PrI.mono {K : PySem.W.Frag} {G G' : Hp} (sm : Same G G') {fv : List (Str × V)} {fs : List (Str × SV)} (h : PrI K G fv fs) : PrI K G' fv fs := Paired.mapP h fun _ _ z => ⟨z.1, z.2.mono sm⟩
/-- o.f -/
def kFld (C : Addr) (f : Str) (Q : SV → T2 → Prop) (τ : T2) (sv : Option SV) : Prop := ∃ p dx fs v, sv = some (.raw (.ref p)) ∧ cget τ.cs p = some (.ins C dx fs) ∧ fs.lookup f = some v ∧ Q v τ
def dFld (i : Nat) (C : Addr) (f : Str) : W T2 := fun env τ Q => kFld C f Q τ env[i]?
theorem dFld_k (i : Nat) (C : Addr) (f : Str) (env : List SV) (τ : T2) (Q : SV → T2 → Prop) : dFld i C f env τ Q = kFld C f Q τ env[i]? := rfl
/-- o.f = e, e plain data -/
def kSetF2 (i : Nat) (C : Addr) (f : Str) (D : DEnds T2) (env : List SV) (r : SV) (τ1 : T2) : Prop := ∃ x p dx fs, r.dat? = some x ∧ env[i]? = some (.raw (.ref p)) ∧ cget τ1.cs p = some (.ins C dx fs) ∧ fs.length < 1000 ∧ D.nx env ⟨τ1.dr, cset τ1.cs p (.ins C dx (putS f (.d x) fs))⟩
def dSetF (i : Nat) (C : Addr) (f : Str) (tv : W T2) : WS T2 := fun D env τ => tv env τ (kSetF2 i C f D env)
theorem dSetF_k (i : Nat) (C : Addr) (f : Str) (tv : W T2) (D : DEnds T2) (env : List SV) (τ : T2) : dSetF i C f tv D env τ = tv env τ (kSetF2 i C f D env) := rfl
/-- X(e, ..) -/
def kMake (C : Addr) (FF : FW T2) (Q : SV → T2 → Prop) (rs : List SV) (τ1 : T2) : Prop := rs.all SV.dr = true ∧ ∀ x dx, x ∉ τ1.cs.map (·.1) → FF (.raw (.ref x) :: rs) ⟨τ1.dr, (x, .ins C dx []) :: τ1.cs⟩ fun r τ2 => r = .d .none ∧ Q (.raw (.ref x)) τ2
def dMake (C : Addr) (FF : FW T2) (ta : WA T2) : W T2 := fun env τ Q => ta env τ (kMake C FF Q)
theorem dMake_k (C : Addr) (FF : FW T2) (ta : WA T2) (env : List SV) (τ : T2) (Q : SV → T2 → Prop) : dMake C FF ta env τ Q = ta env τ (kMake C FF Q) := rfl
/-- o.m(e, ..) -/
def kMeth2 (p : Addr) (FF : FW T2) (Q : SV → T2 → Prop) (rs : List SV) (τ1 : T2) : Prop := rs.all SV.dr = true ∧ FF (.raw (.ref p) :: rs) τ1 Q
def kMeth (C : Addr) (m : Str) (FF : FW T2) (ta : WA T2) (env : List SV) (Q : SV → T2 → Prop) (τ : T2) (sv : Option SV) : Prop := ∃ p dx fs, sv = some (.raw (.ref p)) ∧ cget τ.cs p = some (.ins C dx fs) ∧ fs.lookup m = none ∧ ta env τ (kMeth2 p FF Q)
def dMeth (i : Nat) (C : Addr) (m : Str) (FF : FW T2) (ta : WA T2) : W T2 := fun env τ Q => kMeth C m FF ta env Q τ env[i]?
theorem dMeth_k (i : Nat) (C : Addr) (m : Str) (FF : FW T2) (ta : WA T2) (env : List SV) (τ : T2) (Q : SV → T2 → Prop) : dMeth i C m FF ta env τ Q = kMeth C m FF ta env Q τ env[i]? := rfl
/-! ### cells of its own are forgotten at a def's end -/
theorem FnOk.drop {P : Program} {w : World} {K : PySem.W.Frag} {mg : Str → Option Value} {base : Heap} {Ts : List (Addr × Str)} {k : Nat} {f : Addr} {fd : FuncData} {ps : List Str} {FF : FW T2} (F : FnOk P w K mg base CX0 k f fd ps (spD (theT Ts) K (dropF FF))) : FnOk P w K mg base CX0 k f fd ps (spD (theT Ts) K FF) :=
  ⟨fun vs H Q E h => F.len vs H Q E (spD_drop h), fun A st s H as us vs Q E rg z b v h => F.run A st s H as us vs Q E rg z b v (spD_drop h)⟩
end Z
/-! DnF: fields that hold a list of one's own -/
namespace Z
open PySem PySem.Spec PyProof.Rows L2
/-- o.f = [] , a list that will be appended to -/
def kSetN (C : Addr) (f : Str) (D : DEnds T2) (env : List SV) (τ : T2) (sv : Option SV) : Prop := ∃ p dx fs, sv = some (.raw (.ref p)) ∧ cget τ.cs p = some (.ins C dx fs) ∧ fs.length < 1000 ∧
  ∀ q, q ∉ τ.cs.map (·.1) → D.nx env ⟨τ.dr, (q, .ls []) :: cset τ.cs p (.ins C dx (putS f (.raw (.ref q)) fs))⟩
def dSetN (i : Nat) (C : Addr) (f : Str) : WS T2 := fun D env τ => kSetN C f D env τ env[i]?
theorem dSetN_k (i : Nat) (C : Addr) (f : Str) (D : DEnds T2) (env : List SV) (τ : T2) : dSetN i C f D env τ = kSetN C f D env τ env[i]? := rfl
/-- o.f.append(e) -/
def kAppF2 (q : Addr) (D : DEnds T2) (env : List SV) (r : SV) (τ1 : T2) : Prop := ∃ y xs, r.dat? = some y ∧ cget τ1.cs q = some (.ls xs) ∧ xs.length < sizeLine ∧ D.nx env ⟨τ1.dr, cset τ1.cs q (.ls (xs ++ [y]))⟩
def kAppF (C : Addr) (f : Str) (te : W T2) (D : DEnds T2) (env : List SV) (τ : T2) (sv : Option SV) : Prop := ∃ p dx fs q xs0, sv = some (.raw (.ref p)) ∧ cget τ.cs p = some (.ins C dx fs) ∧ fs.lookup f = some (.raw (.ref q)) ∧ cget τ.cs q = some (.ls xs0) ∧ te env τ (kAppF2 q D env)
def dAppF (i : Nat) (C : Addr) (f : Str) (te : W T2) : WS T2 := fun D env τ => kAppF C f te D env τ env[i]?
theorem dAppF_k (i : Nat) (C : Addr) (f : Str) (te : W T2) (D : DEnds T2) (env : List SV) (τ : T2) : dAppF i C f te D env τ = kAppF C f te D env τ env[i]? := rfl
/-- min(o.f), max(o.f), of ints -/
def kMmF (C : Addr) (f : Str) (lt : Int → Int → Prop) (Q : SV → T2 → Prop) (τ : T2) (sv : Option SV) : Prop := ∃ (p dx : Addr) (fs : List (Str × SV)) (q : Addr) (ns : List Int), sv = some (.raw (.ref p)) ∧ cget τ.cs p = some (.ins C dx fs) ∧ fs.lookup f = some (.raw (.ref q)) ∧ cget τ.cs q = some (.ls (ns.map PyData.int)) ∧ 0 < ns.length ∧
  ∀ m, m ∈ ns → (∀ y, y ∈ ns → lt m y) → Q (.d (.int m)) τ
def dMmF (i : Nat) (C : Addr) (f : Str) (lt : Int → Int → Prop) : W T2 := fun env τ Q => kMmF C f lt Q τ env[i]?
theorem dMmF_k (i : Nat) (C : Addr) (f : Str) (lt : Int → Int → Prop) (env : List SV) (τ : T2) (Q : SV → T2 → Prop) : dMmF i C f lt env τ Q = kMmF C f lt Q τ env[i]? := rfl
end Z
/-! DnG: three comparisons in a row, text.split(sign), {..}[w], X(), o.f == [] -/
namespace Z
open PySem PySem.Spec PyProof.Rows L2
/-! ### a < b < c < d -/
def dChain3 {T : Type} (g g' g'' : SV → SV → (SV → Prop) → Prop) (ta tb tc td : W T) : W T := fun env τ Q => ta env τ fun x τ1 => tb env τ1 fun y τ2 => g x y fun z => ∃ k, z = .d (.bool k) ∧
  (if k = true then tc env τ2 fun w τ3 => g' y w fun z2 => ∃ k2, z2 = .d (.bool k2) ∧ (if k2 = true then td env τ3 fun v τ4 => g'' w v fun u => Q u τ4 else Q (.d (.bool false)) τ3) else Q (.d (.bool false)) τ2)
section
variable {T : Type}
def kD5 (g'' : SV → SV → (SV → Prop) → Prop) (w : SV) (Q : SV → T → Prop) (v : SV) (τ : T) : Prop := g'' w v fun u => Q u τ
def kD4 (td : W T) (env : List SV) (g'' : SV → SV → (SV → Prop) → Prop) (w : SV) (Q : SV → T → Prop) (k2 : Bool) (τ : T) : Prop := if k2 = true then td env τ (kD5 g'' w Q) else Q (.d (.bool false)) τ
def kD3 (td : W T) (env : List SV) (g' g'' : SV → SV → (SV → Prop) → Prop) (y : SV) (Q : SV → T → Prop) (w : SV) (τ : T) : Prop := g' y w fun z2 => ∃ k2, z2 = .d (.bool k2) ∧ kD4 td env g'' w Q k2 τ
def kD2 (tc td : W T) (env : List SV) (g' g'' : SV → SV → (SV → Prop) → Prop) (y : SV) (Q : SV → T → Prop) (k : Bool) (τ : T) : Prop := if k = true then tc env τ (kD3 td env g' g'' y Q) else Q (.d (.bool false)) τ
def kD1 (tc td : W T) (env : List SV) (g g' g'' : SV → SV → (SV → Prop) → Prop) (x : SV) (Q : SV → T → Prop) (y : SV) (τ : T) : Prop := g x y fun z => ∃ k, z = .d (.bool k) ∧ kD2 tc td env g' g'' y Q k τ
def kD0 (tb tc td : W T) (env : List SV) (g g' g'' : SV → SV → (SV → Prop) → Prop) (Q : SV → T → Prop) (x : SV) (τ : T) : Prop := tb env τ (kD1 tc td env g g' g'' x Q)
theorem dChain3_k (g g' g'' : SV → SV → (SV → Prop) → Prop) (ta tb tc td : W T) (env : List SV) (τ : T) (Q : SV → T → Prop) : dChain3 g g' g'' ta tb tc td env τ Q = ta env τ (kD0 tb tc td env g g' g'' Q) := rfl
/-- three comparisons of ints -/
theorem kD1_int {f : Int → Int → Bool} {s : Str → Str → Bool} {tc td : W T} {env : List SV} {g' g'' : SV → SV → (SV → Prop) → Prop} {i j : Int} {Q : SV → T → Prop} {τ : T} : kD1 tc td env (gCmp f s) g' g'' (.d (.int i)) Q (.d (.int j)) τ = kD2 tc td env g' g'' (.d (.int j)) Q (f i j) τ := by
  unfold kD1 gCmp
  exact propext ⟨fun ⟨k, e, h⟩ => by cases e; exact h, fun h => ⟨_, rfl, h⟩⟩
theorem kD3_int {f : Int → Int → Bool} {s : Str → Str → Bool} {td : W T} {env : List SV} {g'' : SV → SV → (SV → Prop) → Prop} {i j : Int} {Q : SV → T → Prop} {τ : T} : kD3 td env (gCmp f s) g'' (.d (.int i)) Q (.d (.int j)) τ = kD4 td env g'' (.d (.int j)) Q (f i j) τ := by
  unfold kD3 gCmp
  exact propext ⟨fun ⟨k, e, h⟩ => by cases e; exact h, fun h => ⟨_, rfl, h⟩⟩
theorem kD5_int {f : Int → Int → Bool} {s : Str → Str → Bool} {i j : Int} {Q : SV → T → Prop} {τ : T} : kD5 (gCmp f s) (.d (.int i)) Q (.d (.int j)) τ = Q (.d (.bool (f i j))) τ := rfl
end
/-! ### text.split(sign) -/
theorem rp_strs {K : PySem.W.Frag} {G : Hp} : ∀ ys : List Str, RpAll K G (ys.map V.str) (ys.map PyData.str)
  | [] => .nil
  | y :: r => .cons (.str y) (rp_strs r)
def kSplit (a b : Str) (Q : SV → Prop) : Prop := (b.length == 0) = false ∧ a.length + 2 ≤ sizeLine ∧ (Txt.split a b).length ≤ sizeLine ∧ Q (.ol ((Txt.split a b).map .str))
def gSplit (x y : SV) (Q : SV → Prop) : Prop := ∃ a b, x = .d (.str a) ∧ y = .d (.str b) ∧ kSplit a b Q
theorem gSplit_k {a b : Str} {Q : SV → Prop} : gSplit (.d (.str a)) (.d (.str b)) Q = kSplit a b Q := propext ⟨fun ⟨_, _, e1, e2, h⟩ => by cases e1; cases e2; exact h, fun h => ⟨_, _, rfl, rfl, h⟩⟩
theorem od_split {B : Bk} : OpD B (fun x y H Q => ∃ a b, x = .str a ∧ [y] = [.str b] ∧ (b.length == 0) = false ∧ a.length + 2 ≤ sizeLine ∧ rNewStrs (Txt.split a b) H Q) gSplit :=
  fun x y vx vy Ha Hb G F H τ Qv Q k rx ry h fin => by
    obtain ⟨a, b, ex, ey, h1, h2, h3, h⟩ := h
    subst ex ey
    exact ⟨a, b, rstr rx, by rw [rstr ry], h1, h2, fun p hp => fin.ol k hp (rp_strs _) h⟩
section
variable {B : Bk} {X : Cx} {o e : Expr} {to te : W B.T} {apos pos : Pos}
theorem de_split (ho : PE X o (lift B to)) (he : PE X e (lift B te)) (h1 : starEach [e] X.env = [(false, eval e X.env)] := by rfl) (h2 : attributeBase o "split" X.env (eval o X.env) = eval o X.env := by rfl) (h3 : (apos.endLine == pos.line) = true := by rfl) :
    PE X (.Call (.Attribute o "split" apos) [e] [] pos) (lift B (dM1 gSplit to te)) := de_m1 (pe_split ho he h1 h2 h3) od_split
end
/-! ### X() -/
section
variable {X : Cx} {Ts : List (Addr × Str)} {K : PySem.W.Frag} {G0 : Hp} {F0 : Addr → Prop} {H0 : Hp} {i k : Nat} {pos p p2 pos2 apos : Pos} {o e value : Expr} {es : List Expr} {x f m : Str} {C : Addr} {tv : W T2} {ta : WA T2} {FF : FW T2} {ps : List Str}
/-! ### o.f == [] -/
def kFldE (C : Addr) (f : Str) (Q : Bool → T2 → Prop) (τ : T2) (sv : Option SV) : Prop := ∃ (p dx : Addr) (fs : List (Str × SV)) (q : Addr) (ns : List Int), sv = some (.raw (.ref p)) ∧ cget τ.cs p = some (.ins C dx fs) ∧ fs.lookup f = some (.raw (.ref q)) ∧ cget τ.cs q = some (.ls (ns.map PyData.int)) ∧ Q ns.isEmpty τ
def dFldE (i : Nat) (C : Addr) (f : Str) : WT T2 := fun env τ Q => kFldE C f Q τ env[i]?
theorem dFldE_k (i : Nat) (C : Addr) (f : Str) (env : List SV) (τ : T2) (Q : Bool → T2 → Prop) : dFldE i C f env τ Q = kFldE C f Q τ env[i]? := rfl
end
theorem kD0_s {T : Type} {tb tc td : W T} {env : List SV} {g g' g'' : SV → SV → (SV → Prop) → Prop} {Q : SV → T → Prop} {x : SV} {τ : T} : kD0 tb tc td env g g' g'' Q x τ = tb env τ (kD1 tc td env g g' g'' x Q) := rfl
/-! ### {k: e, ..}[w] -/
/-- the values, in turn -/
def dVs {T : Type} (ts : List (W T)) : WA T := ts.foldr (fun t r => dCons t r) dNil
theorem dVs_0 {T : Type} : dVs ([] : List (W T)) = dNil := rfl
theorem dVs_c {T : Type} (t : W T) (ts : List (W T)) : dVs (t :: ts) = dCons t (dVs ts) := rfl
def dixL (ks : List Str) (xs : List D) (w : Str) : Option D := ((ks.zip xs).find? fun kv => decide (kv.1 = w)).map (·.2)
/-- what is found: the value of the first key that is w -/
def kDix3 (p : Addr) (ks : List Str) (xs : List D) (Q : SV → T2 → Prop) (r : SV) (τ : T2) : Prop := ∃ w x, r = .d (.str w) ∧ cget τ.cs p = some (.dk ((ks.zip xs).map fun e => (.inr e.1, e.2))) ∧ dixL ks xs w = some x ∧ Q (.d x) τ
def kDix2 (p : Addr) (ks : List Str) (tw : W T2) (env : List SV) (Q : SV → T2 → Prop) (rs : List SV) (τ : T2) : Prop := ∃ xs, allD rs = some xs ∧ cget τ.cs p = some (.dk []) ∧ tw env ⟨τ.dr, cset τ.cs p (.dk ((ks.zip xs).map fun e => (.inr e.1, e.2)))⟩ (kDix3 p ks xs Q)
def kDix1 (ks : List Str) (ts : List (W T2)) (tw : W T2) (env : List SV) (Q : SV → T2 → Prop) (τ : T2) : Prop := ∀ p, p ∉ τ.cs.map (·.1) → dVs ts env ⟨τ.dr, (p, .dk []) :: τ.cs⟩ (kDix2 p ks tw env Q)
def dDix (ks : List Str) (ts : List (W T2)) (tw : W T2) : W T2 := fun env τ Q => kDix1 ks ts tw env Q τ
theorem dDix_k (ks : List Str) (ts : List (W T2)) (tw : W T2) (env : List SV) (τ : T2) (Q : SV → T2 → Prop) : dDix ks ts tw env τ Q = kDix1 ks ts tw env Q τ := rfl
theorem mergeK_nd : ∀ (kvs acc : List (Key × V)), (acc ++ kvs).Pairwise (fun a b => a.1 ≠ b.1) → mergeK acc kvs = acc ++ kvs
  | [], acc, _ => (List.append_nil acc).symm
  | e :: r, acc, h => by
    show mergeK (putK acc e.1 e.2) r = _
    have hn : (acc.any fun kv => decide (kv.1 = e.1)) = false := by
      rw [List.any_eq_false]
      intro x hx
      rw [decide_eq_true_eq]
      exact (List.pairwise_append.mp h).2.2 x hx e List.mem_cons_self
    have ep : putK acc e.1 e.2 = acc ++ [e] := by
      unfold putK
      rw [if_neg (by rw [hn]; decide)]
    rw [ep, mergeK_nd r (acc ++ [e]) (by rw [List.append_assoc]; exact h), List.append_assoc]
    rfl
section
variable {X : Cx} {B : Bk}
/-- pairs of written keys and values -/
theorem pairs_of {QA : List V → Hp → Prop} {ks : List Str} {ts : List (W B.T)} {σ : L2.St} {H : Hp} {Q : List (V × V) → Hp → Prop} (hl : ks.length = ts.length) (h0 : liftA B (dVs ts) σ H QA)
    (h : ∀ vs H', QA vs H' → vs.length = ks.length → Q ((ks.map V.str).zip vs) H') : tPairs ((ks.zip ts).map fun e => (tC (.str e.1), lift B e.2)) σ H Q := by
  induction ks generalizing ts H QA Q with
  | nil =>
    cases ts with
    | nil =>
      obtain ⟨G, F, env, τ, Qd, s, t, k⟩ := h0
      exact h [] H (k [] τ G F H [] s.refl .nil t) rfl
    | cons _ _ => cases hl
  | cons a ks ih =>
    cases ts with
    | nil => cases hl
    | cons t1 ts =>
      obtain ⟨G, F, env, τ, Qd, s, t, k⟩ := h0
      show tC (.str a) σ H fun x H1 => lift B t1 σ H1 fun y H2 => tPairs _ σ H2 fun ps H3 => Q ((x, y) :: ps) H3
      show lift B t1 σ H fun y H2 => tPairs _ σ H2 fun ps H3 => Q ((V.str a, y) :: ps) H3
      refine ⟨G, F, env, τ, _, s, t, fun r τ1 G1 F1 H1 v f1 r1 q0 => ?_⟩
      obtain ⟨a1, e, q⟩ := kCo_of q0
      obtain ⟨G2, f2, sm, r2⟩ := r1.arg f1 e
      refine ih (QA := fun vs H' => QA (v :: vs) H') (by simpa using hl) ⟨G2, F1, env, τ1, _, s.fin f2, q, fun rs τ2 G3 F3 H3 vs f3 r3 q3 => k (a1 :: rs) τ2 G3 F3 H3 (v :: vs) (f2.trans f3) (.cons (r2.step f3.s) (r3.back (dead f2.s.dom))) q3⟩ fun vs H' hq hv => ?_
      exact h (v :: vs) H' hq (by simp [hv])
end
theorem zip_look {K : PySem.W.Frag} {G : Hp} : ∀ {ks : List Str} {vs : List V} {kv : List (Key × V)} {m : List (Key × D)} {w : Str} {x : D}, Paired (fun (x : Key × V) (y : Key × D) => x.1 = y.1 ∧ Rp K G x.2 y.2) kv m → (m.find? fun e => decide (e.1 = .inr w)).map (·.2) = some x → ∃ v, valV kv (.inr w) = some v ∧ Rp K G v x
  | _, _, _, _, _, _, .nil, e => by cases e
  | ks, vs, a :: kv, b :: m, w, x, .cons h t, e => by
    unfold valV
    rw [List.find?_cons] at e ⊢
    rw [h.1]
    by_cases q : b.1 = .inr w
    · rw [decide_eq_true q] at e ⊢
      exact ⟨_, rfl, by cases e; exact h.2⟩
    · rw [decide_eq_false q] at e ⊢
      exact zip_look (ks := ks) (vs := vs) t e
theorem find_key {w : Str} : ∀ l : List (Str × D), ((l.map fun e => ((.inr e.1 : Key), e.2)).find? fun e => decide (e.1 = .inr w)).map (·.2) = (l.find? fun e => decide (e.1 = w)).map (·.2)
  | [] => rfl
  | a :: l => by
    rw [List.map_cons, List.find?_cons, List.find?_cons]
    have e : decide ((.inr a.1 : Key) = .inr w) = decide (a.1 = w) := by rw [decide_eq_decide]; exact ⟨Sum.inr.inj, fun z => by rw [z]⟩
    have e : decide (((Sum.inr a.1 : Key), a.2).1 = Sum.inr w) = decide (a.1 = w) := e
    rw [e]
    cases decide (a.1 = w) with
    | true => rfl
    | false => exact find_key l
section
variable {X : Cx} {Ts : List (Addr × Str)} {K : PySem.W.Frag} {G0 : Hp} {F0 : Addr → Prop} {H0 : Hp} {pos pos2 : Pos} {i : Expr} {ks : List (Option Expr)} {vs : List Expr} {ts : List (W T2)} {tw : W T2} {ws : List Str}
theorem paired_zip {G : Hp} : ∀ {ws : List Str} {vs : List V} {xs : List D}, RpAll K G vs xs → Paired (fun (x : Key × V) (y : Key × D) => x.1 = y.1 ∧ Rp K G x.2 y.2) ((ws.zip vs).map fun e => (.inr e.1, e.2)) ((ws.zip xs).map fun e => (.inr e.1, e.2))
  | [], _, _, _ => .nil
  | _ :: _, _, _, .nil => .nil
  | _ :: ws, _, _, .cons h t => .cons ⟨rfl, h⟩ (paired_zip t)
theorem de_dix (hu : X.A.units + 1 < cLine) (h : PPs X pos ks vs ((ws.zip ts).map fun e => (tC (.str e.1), lift ⟨theT Ts, K, G0, F0, H0⟩ e.2))) (hall : ks.all (·.isSome) = true) (hl : ks.length = vs.length) (h0 : ks ≠ []) (h15 : ks.length ≤ 15) (hlen : ws.length = ts.length) (h15' : ws.length ≤ 15) (hnd : ws.Nodup)
    (hw : PE X i (lift ⟨theT Ts, K, G0, F0, H0⟩ tw)) (hs : NoSl i) : PE X (.Subscript (.Dict ks vs pos) i pos2) (lift ⟨theT Ts, K, G0, F0, H0⟩ (dDix ws ts tw)) :=
  pe_imp (pe_dget hu (pe_disp h hall hl h0 h15) hw hs) fun σ H Q z9 => ex53 z9 fun G F env τ Qd s t fin => fun p hp => by
    obtain ⟨np, st0, k0⟩ := Ok.cnew (c := .dk []) (o := .dK []) s.k hp (fun _ z => z) ⟨[], upd_same, .nil⟩
    have f0 : Fin ⟨theT Ts, K, G0, F0, H0⟩ G F H _ G _ _ := ⟨st0, k0⟩
    refine pairs_of (B := ⟨theT Ts, K, G0, F0, H0⟩) (QA := fun vs H1 => vs.length = ws.length → (H1 p = some (.dK []) ∧ ∃ kvs : List (Key × V), (ws.map V.str).zip vs = kvs.map (fun kv => (L2.kV kv.1, kv.2)) ∧ kvs.length ≤ 15 ∧
      (lift ⟨theT Ts, K, G0, F0, H0⟩ tw) σ (upd H1 p (.dK (mergeK [] kvs))) fun y H2 => ∃ a v, V.ref p = .ref a ∧ DGet H2 a y (some v) ∧ Q v H2)) hlen ⟨G, _, env, _, _, s.fin f0, t p np, fun rs τ1 G1 F1 H1 vs1 f1 r1 q1 => ?_⟩ fun vs1 H1 h1 h2 => h1 h2
    intro hvl
    obtain ⟨xs, ea, ec, q1⟩ := q1
    obtain ⟨dr1, cs1⟩ := τ1
    have a := r1.allD ea
    have s1 := (s.fin f0).fin f1
    obtain ⟨kv0, hq0, pk0⟩ := Ok.celR s1.k ec
    have e0 : kv0 = [] := by cases pk0; rfl
    subst e0
    have hkk : ((ws.zip vs1).map fun e : Str × V => ((.inr e.1 : Key), e.2)).Pairwise fun a b => a.1 ≠ b.1 := by
      rw [List.pairwise_map]
      have : ∀ (ws : List Str) (vs : List V), ws.Nodup → (ws.zip vs).Pairwise fun a b => a.1 ≠ b.1 := by
        intro ws
        induction ws with
        | nil => intro _ _; exact .nil
        | cons w ws ih =>
          intro vs hn
          cases vs with
          | nil => exact .nil
          | cons v vs =>
            rw [List.nodup_cons] at hn
            refine List.pairwise_cons.mpr ⟨fun e he z => hn.1 ?_, ih vs hn.2⟩
            have := (List.of_mem_zip he).1
            have z : w = e.1 := z
            rw [z]
            exact this
      exact (this ws vs1 hnd).imp fun {a b} z e => z (Sum.inr.inj e)
    obtain ⟨st3, k3⟩ := Ok.cput (c := .dk []) (c' := .dk ((ws.zip xs).map fun e => (.inr e.1, e.2))) (o := .dK ((ws.zip vs1).map fun e => (.inr e.1, e.2))) (p := p) s1.k ec (fun _ z => z) (fun _ z => z) ⟨_, upd_same, paired_zip a⟩
    refine ⟨hq0, (ws.zip vs1).map fun e => (.inr e.1, e.2), ?_, ?_, ?_⟩
    · rw [List.map_map]
      have : ∀ (ws : List Str) (vs : List V), (ws.map V.str).zip vs = (ws.zip vs).map ((fun kv : Key × V => (L2.kV kv.1, kv.2)) ∘ fun e => (Sum.inr e.1, e.2)) := by
        intro ws
        induction ws with
        | nil => intro _; rfl
        | cons w ws ih =>
          intro vs
          cases vs with
          | nil => rfl
          | cons v vs => exact congrArg (_ :: ·) (ih vs)
      exact this ws vs1
    · rw [List.length_map, List.length_zip]
      omega
    · rw [mergeK_nd _ [] hkk]
      have s2 := s1.fin ⟨st3, k3⟩
      refine ⟨G1, F1, env, _, _, s2, q1, fun r τ2 G3 F3 H3 y f3 r3 q3 => ?_⟩
      obtain ⟨w, x, rfl, eg, el, q3⟩ := q3
      have s3 := s2.fin f3
      obtain ⟨dr2, cs2⟩ := τ2
      obtain ⟨kv, hk, pk⟩ := Ok.celR s3.k eg
      obtain ⟨v, ev, rv⟩ := zip_look (ks := ws) (vs := vs1) pk ((find_key (ws.zip xs)).trans el)
      refine ⟨p, v, rfl, ?_, ?_⟩
      · rw [rstr r3, ← ev]
        exact DGet.k (k := .inr w) hk
      · exact fin (.d x) _ G3 F3 H3 v (((f0.trans f1).trans ⟨st3, k3⟩).trans f3) rv q3
end
end Z
/-! ### set(xs), xs a list of ints, in an order that is known -/
/-! ### `a if c else b` as a test -/
namespace L2
open PySem PySem.Spec PyProof.Rows
end L2
namespace Z
open PySem PySem.Spec PyProof.Rows L2 LamX
/-! ### try: any statements / except C as n: kept = n -/
theorem SvR.back {K : PySem.W.Frag} {H0 H1 G F H o} (b : ∀ a, H0 a = none → H1 a = none) : ∀ {s : SV}, SvR K H0 G F H s o → SvR K H1 G F H s o
  | .no, _ => trivial
  | .d _, h => h
  | .ol _, ⟨p, e, w⟩ => ⟨p, e, w.at', w.g, w.f, b p w.new⟩
  | .vw _, h => h.elim
  | .raw _, h => h
theorem EnvR.back {K : PySem.W.Frag} {H0 H1 G F H σ env} (b : ∀ a, H0 a = none → H1 a = none) (e : EnvR K H0 G F H σ env) : EnvR K H1 G F H σ env :=
  ⟨e.len, fun i s h => (e.at' i s h).back b, e.sep⟩
end Z
namespace Z
open PySem PySem.Spec PyProof.Rows L2
/-! ### a dict with tuples for keys is walked -/
/-! ### calls by the arguments' names of what lets nothing out: two the other way round, or four as sums_of has them -/
/-! ### what was made within a def that draws is forgotten at its end -/
section
variable {Ts : List (Addr × Str)} {K : PySem.W.Frag} {τ τ' : T2} {G G' H H' : Hp} {F F' : Addr → Prop}
theorem Ok.fewerG (k : Ok (theT Ts) K τ G F H) (s : Step G F H G' F' H') (k' : Ok (theT Ts) K τ' G' F' H') (hd : ∃ a b b', τ.dr = .on a b ∧ τ'.dr = .on a b') (hc : ∃ new, τ'.cs = new ++ τ.cs) : Ok (theT Ts) K ⟨τ'.dr, τ.cs⟩ G' F H' := by
  have r : TR Ts K τ G F H := k.r
  have r' : TR Ts K τ' G' F' H' := k'.r
  obtain ⟨new, hc⟩ := hc
  obtain ⟨a, b, b', d1, d2⟩ := hd
  have mem : ∀ e ∈ τ.cs, e ∈ τ'.cs := fun e he => by rw [hc]; exact List.mem_append_right _ he
  refine ⟨k'.same, fun a h => k'.gf a (s.ff a h), fun a h => k'.fh a (s.ff a h), ⟨fun p => ?_, ?_, fun e he => r'.cs e (mem e he), r.nd, r'.tb⟩, k'.nt, k'.nx⟩
  · rw [r.f p]
    unfold tF
    show _ ↔ drF τ'.dr p ∨ _
    rw [d1, d2]
    exact Iff.rfl
  · have h := r'.dr
    show drP K τ.cs G' H' τ'.dr
    rw [d2] at h ⊢
    exact ⟨h.1, fun e he => h.2 e (mem e he)⟩
def dropG (FF : FW T2) : FW T2 := fun rs τ Q2 => ∃ Q, FF rs τ Q ∧ Q2 = fun r τ' => (∃ a b b', τ.dr = .on a b ∧ τ'.dr = .on a b') ∧ (∃ new, τ'.cs = new ++ τ.cs) ∧ Q r ⟨τ'.dr, τ.cs⟩
theorem spD_dropG {FF : FW T2} {vs : List V} {Q : VK} {E : XK} (h : spD (theT Ts) K FF vs H Q E) : spD (theT Ts) K (dropG FF) vs H Q E := by
  obtain ⟨G, F, τ, rs, Qd, Ha, ok, r, dr, hf, fin⟩ := h
  exact ⟨G, F, τ, rs, _, Ha, ok, r, dr, ⟨Qd, hf, rfl⟩, fun r τ' G' F' H' v st ok' res q => fin r _ G' F H' v st.less (ok.fewerG st ok' q.1 q.2.1) (res.less st.ff) q.2.2⟩
theorem FnG.dropG {P : Program} {w : World} {mg : Str → Option Value} {base : Heap} {k : Nat} {f : Addr} {fd : FuncData} {ps : List Str} {FF : FW T2} (F : FnG P w K mg base k f fd ps (spD (theT Ts) K (dropG FF))) : FnG P w K mg base k f fd ps (spD (theT Ts) K FF) :=
  ⟨fun vs H Q E h => F.len vs H Q E (spD_dropG h), fun A st s H as us vs Q E rg z b v h => F.run A st s H as us vs Q E rg z b v (spD_dropG h)⟩
end
/-! ### the rules for walks over such a dict -/
theorem cget_hd {p : Addr} {c : Cel} {cs : List (Addr × Cel)} : cget ((p, c) :: cs) p = some c := by
  unfold cget
  rw [if_pos rfl]
theorem cset_hd {p : Addr} {c c' : Cel} {cs : List (Addr × Cel)} : cset ((p, c) :: cs) p c' = (p, c') :: cs := by
  unfold cset
  rw [if_pos rfl]
theorem cget_tl {p q : Addr} {c : Cel} {cs : List (Addr × Cel)} (h : q ≠ p) : cget ((q, c) :: cs) p = cget cs p := by
  show (if q = p then some c else cget cs p) = _
  rw [if_neg h]
theorem cset_tl {p q : Addr} {c c' : Cel} {cs : List (Addr × Cel)} (h : q ≠ p) : cset ((q, c) :: cs) p c' = (q, c) :: cset cs p c' := by
  show (if q = p then (q, c') :: cs else (q, c) :: cset cs p c') = _
  rw [if_neg h]
end Z
/-! DnO: exceptions made as values; classes of exceptions with an own __init__; their fields read -/
/-! DnP: xs.pop() -/
namespace Z
open PySem PySem.Spec PyProof.Rows L2
theorem rpAll_snoc {K : PySem.W.Frag} {G : Hp} {y : D} : ∀ {ys : List D} {vs : List V}, RpAll K G vs (ys ++ [y]) → ∃ vs' v, vs = vs' ++ [v] ∧ RpAll K G vs' ys ∧ Rp K G v y
  | [], _, h => by
    cases h with
    | cons r t =>
      cases t
      exact ⟨[], _, rfl, .nil, r⟩
  | a :: ys, _, h => by
    cases h with
    | cons r t =>
      obtain ⟨vs', v, e, h1, h2⟩ := rpAll_snoc t
      exact ⟨_ :: vs', v, by rw [e]; rfl, .cons r h1, h2⟩
theorem snoc_last {α : Type} (l : List α) (x : α) : (l ++ [x])[(l ++ [x]).length - 1]? = some x := by
  rw [List.length_append, List.length_singleton, Nat.add_sub_cancel, List.getElem?_append_right (Nat.le_refl _), Nat.sub_self]
  rfl
/-- t = xs.pop() -/
def kPopA {T : Type} (t : Tg) (i : Nat) (D1 : DEnds T) (env : List SV) (τ : T) : Option SV → Prop
  | some (.ol xs) => ∃ ys y, xs = ys ++ [y] ∧ opt (tgE t y (env.set i (.ol ys))) fun env' => D1.nx env' τ
  | _ => False
def dPopA {T : Type} (t : Tg) (i : Nat) : WS T := fun D1 env τ => kPopA t i D1 env τ env[i]?
theorem dPopA_k {T : Type} (t : Tg) (i : Nat) (D1 : DEnds T) (env : List SV) (τ : T) : dPopA t i D1 env τ = kPopA t i D1 env τ env[i]? := rfl
/-- xs.append(ws.pop()) -/
def kAppP {T : Type} (i j : Nat) (D1 : DEnds T) (env : List SV) (τ : T) : Option SV → Option SV → Prop
  | some (.ol xs), some (.ol ws) => ∃ ys y, ws = ys ++ [y] ∧ xs.length < sizeLine ∧ D1.nx ((env.set j (.ol ys)).set i (.ol (xs ++ [y]))) τ
  | _, _ => False
def dAppP {T : Type} (i j : Nat) : WS T := fun D1 env τ => kAppP i j D1 env τ env[i]? env[j]?
theorem dAppP_k {T : Type} (i j : Nat) (D1 : DEnds T) (env : List SV) (τ : T) : dAppP i j D1 env τ = kAppP i j D1 env τ env[i]? env[j]? := rfl
section
variable {X : Cx} {B : Bk} {tg e : Expr} {pos : Pos} {t : Tg} {i j : Nat}
theorem ds_popA (he : PE X e (tBM0 X.K "list" rPop (tVar i))) (hg : PG X tg (tgH B.K t)) (hs : swapsWithSole [tg] e pos.line X.env = pure false := by rfl) (hw : swappedStores [tg] e X.env = pure none := by rfl)
    (h1 : (assignEach [tg] X.env).map (·.2) = [assign tg X.env] := by rfl) : PS X (.Assign [tg] e pos) (liftS B (dPopA t i)) :=
  ps_imp (ps_asg he hg hs hw h1) fun D1 σ H z9 => ex53 z9 fun G F env τ Dd s z E => by
    have z : kPopA t i Dd env τ env[i]? := z
    cases ee : env[i]? with
    | none => rw [ee] at z; exact z.elim
    | some sv =>
      rw [ee] at z
      cases sv with
      | ol xs =>
        obtain ⟨ys, y, rfl, z⟩ := z
        obtain ⟨env', e2, q⟩ := opt_of z
        obtain ⟨p, e1, w⟩ := at_slot s ee
        obtain ⟨vs, ev, a⟩ := w.at'
        obtain ⟨vs', v, rfl, a1, r1⟩ := rpAll_snoc a
        refine ⟨_, e1, .inl ⟨rfl, _, .of ev⟩, p, _, v, rfl, rfl, ev, snoc_last _ _, ?_⟩
        rw [List.dropLast_concat]
        have s2 := s.mut ee (by rw [e1]; rfl) a1
        exact tg_ok [] t s2 r1 e2 fun σ' s' _ => E.nx G F σ' _ env' τ (Same.refl G) s' q
      | _ => exact z.elim
theorem ds_appP {st : Stmt} (hij : i ≠ j) (h : PS X st (tDrop (tBM X.K "list" rAppend (tVar i) (tCons (tBM0 X.K "list" rPop (tVar j)) tNil)))) : PS X st (liftS B (dAppP i j)) :=
  ps_imp h fun D1 σ H z9 => ex53 z9 fun G F env τ Dd s z E => by
    have z : kAppP i j Dd env τ env[i]? env[j]? := z
    cases ei : env[i]? with
    | none => rw [ei] at z; exact z.elim
    | some si =>
      cases ej : env[j]? with
      | none => rw [ei, ej] at z; cases si <;> exact z.elim
      | some sj =>
        rw [ei, ej] at z
        cases si with
        | ol xs =>
          cases sj with
          | ol ws =>
            obtain ⟨ys, y, rfl, hz, q⟩ := z
            obtain ⟨p, e1, w⟩ := at_slot s ei
            obtain ⟨p2, e12, w2⟩ := at_slot s ej
            obtain ⟨vs2, ev2, a2⟩ := w2.at'
            obtain ⟨vs', v, rfl, a1, r1⟩ := rpAll_snoc a2
            have s2 := s.mut ej (by rw [e12]; rfl) a1
            have ei2 : (env.set j (.ol ys))[i]? = some (.ol xs) := by rw [List.getElem?_set_ne (Ne.symm hij)]; exact ei
            obtain ⟨p3, e3, w3⟩ := at_slot s2 ei2
            have ep : p3 = p := by rw [e1] at e3; cases e3; rfl
            subst ep
            obtain ⟨vs, ev, a⟩ := w.at'
            obtain ⟨vs3, ev3, a3⟩ := w3.at'
            refine ⟨_, e1, .inl ⟨rfl, _, .of ev⟩, _, e12, .inl ⟨rfl, _, .of ev2⟩, p2, _, v, rfl, rfl, ev2, snoc_last _ _, ?_⟩
            rw [List.dropLast_concat]
            have s3 := s2.mut ei2 (by rw [e1]; rfl) (a3.append (.cons r1 .nil))
            exact ⟨p3, vs3, v, rfl, rfl, ev3, by rw [a3.length]; exact hz, E.nx G F σ _ _ τ (Same.refl G) s3 q⟩
          | _ => exact z.elim
        | _ => exact z.elim
end
end Z
/-! DnQ: lists that change later, held in tuples: cells, and their addresses as data; plain data again at a def's end -/
/-! DnR: dicts of one def: dict(pairs), {k: e}, d[k], d[k] = e -/
/-! DnS: len(set(xs)), xs a list of any texts -/
/-! DnT: an instance held in a tuple -/
/-! DnU: is, is not of truths -/
namespace Z
open PySem L2
def gNotB (x y : SV) (Q : SV → Prop) : Prop := ∃ a b : Bool, x = .d (.bool a) ∧ y = .d (.bool b) ∧ Q (.d (.bool (!decide (a = b))))
theorem rblS {K : PySem.W.Frag} {Ha G F H v} {b : Bool} (h : Res K Ha G F H (.d (.bool b)) v) : v = .bl b := by
  have h : Rp K G v (.bool b) := h
  cases h
  rfl
section
variable {T : Type} {B : Bk}
theorem od_notB : OpD B rNotB gNotB := fun x y vx vy Ha Hb G F H τ Qv Q k rx ry h fin => by
  obtain ⟨a, b, rfl, rfl, h⟩ := h
  exact ⟨a, b, rblS rx, rblS ry, fin.d k (.bl _) h⟩
end
end Z
/-! DnV: a list of one's own becomes a cell, to be handed to defs that change it: len, xs[i], xs.pop(), xs[i] = e of such a one -/
namespace Z
open PySem PySem.Spec PyProof.Rows L2
section
variable {Ts : List (Addr × Str)} {K : PySem.W.Frag} {τ : T2} {G H : Hp} {F : Addr → Prop} {p : Addr}
/-- a list that nobody else has becomes one of the store's -/
theorem Ok.cown {c : Cel} (k : Ok (theT Ts) K τ G F H) (nF : ¬ F p) (gp : G p = none) (hp : H p ≠ none) (ow : ∀ q, ¬ c.own q) (hc : CelR K G H p c) :
    p ∉ τ.cs.map (·.1) ∧ Ok (theT Ts) K ⟨τ.dr, (p, c) :: τ.cs⟩ G (tF Ts ⟨τ.dr, (p, c) :: τ.cs⟩) H ∧ ∀ a, tF Ts ⟨τ.dr, (p, c) :: τ.cs⟩ a ↔ (F a ∨ a = p) := by
  have r : TR Ts K τ G F H := k.r
  have nc : p ∉ τ.cs.map (·.1) := fun z => by
    obtain ⟨e, he, q⟩ := List.mem_map.mp z
    exact nF ((r.f p).mpr (.inr (.inl ⟨e, he, .inl q⟩)))
  have inF : ∀ a, tF Ts τ a → F a := fun a => (r.f a).mpr
  have spl : ∀ a, tF Ts ⟨τ.dr, (p, c) :: τ.cs⟩ a → F a ∨ a = p := fun a h => by
    rcases h with h | ⟨e, he, q⟩ | h
    · exact .inl (inF a (.inl h))
    · rcases List.mem_cons.mp he with rfl | he
      · rcases q with q | q
        · exact .inr q.symm
        · exact (ow _ q).elim
      · exact .inl (inF a (.inr (.inl ⟨e, he, q⟩)))
    · exact .inl (inF a (.inr (.inr h)))
  have wid : ∀ a, F a → tF Ts ⟨τ.dr, (p, c) :: τ.cs⟩ a := fun a h => by
    rcases (r.f a).mp h with h | ⟨e, he, q⟩ | h
    · exact .inl h
    · exact .inr (.inl ⟨e, List.mem_cons_of_mem _ he, q⟩)
    · exact .inr (.inr h)
  have iff : ∀ a, tF Ts ⟨τ.dr, (p, c) :: τ.cs⟩ a ↔ (F a ∨ a = p) := fun a => ⟨spl a, fun h => h.elim (wid a) fun e => .inr (.inl ⟨(p, c), List.mem_cons_self, .inl e.symm⟩)⟩
  refine ⟨nc, ⟨k.same, fun a h => ?_, fun a h => ?_, ⟨fun a => Iff.rfl, ?_, fun e he => ?_, ?_, r.tb⟩, k.nt, k.nx⟩, iff⟩
  · rcases spl a h with h | h
    · exact k.gf a h
    · rw [h]; exact gp
  · rcases spl a h with h | h
    · exact k.fh a h
    · rw [h]; exact hp
  · have hd := r.dr
    show drP K ((p, c) :: τ.cs) G _ τ.dr
    cases q : τ.dr with
    | off => trivial
    | on a b =>
      rw [q] at hd
      have fa : F a := inF a (.inl (by rw [q]; rfl))
      refine ⟨hd.1, fun e he => ?_⟩
      rcases List.mem_cons.mp he with rfl | he
      · exact fun z => nF (by rw [show p = a from z]; exact fa)
      · exact hd.2 e he
  · rcases List.mem_cons.mp he with rfl | he
    · exact hc
    · exact r.cs e he
  · rw [List.map_cons]; exact List.nodup_cons.mpr ⟨nc, r.nd⟩
end
/-- what e tells, a list of one's own, as a cell -/
def kCel (Q : SV → T2 → Prop) (r : SV) (τ : T2) : Prop := ∃ xs, r = .ol xs ∧ ∀ p, p ∉ τ.cs.map (·.1) → Q (.raw (.ref p)) ⟨τ.dr, (p, .ls xs) :: τ.cs⟩
def dCel (te : W T2) : W T2 := fun env τ Q => te env τ (kCel Q)
theorem dCel_k (te : W T2) (env : List SV) (τ : T2) (Q : SV → T2 → Prop) : dCel te env τ Q = te env τ (kCel Q) := rfl
theorem kCel_1 {Q : SV → T2 → Prop} {xs : List D} {τ : T2} : kCel Q (.ol xs) τ = ∀ p, p ∉ τ.cs.map (·.1) → Q (.raw (.ref p)) ⟨τ.dr, (p, .ls xs) :: τ.cs⟩ :=
  propext ⟨fun ⟨_, e, h⟩ => by cases e; exact h, fun h => ⟨_, rfl, h⟩⟩
/-- len(e), e a list's cell -/
def kLenC (Q : SV → T2 → Prop) (r : SV) (τ : T2) : Prop := ∃ p xs, r = .raw (.ref p) ∧ cget τ.cs p = some (.ls xs) ∧ Q (.d (.int (xs.length : Nat))) τ
def dLenC (te : W T2) : W T2 := fun env τ Q => te env τ (kLenC Q)
theorem dLenC_k (te : W T2) (env : List SV) (τ : T2) (Q : SV → T2 → Prop) : dLenC te env τ Q = te env τ (kLenC Q) := rfl
/-- xs[j] -/
def kIxC2 (Q : SV → T2 → Prop) (p : Addr) (r : SV) (τ : T2) : Prop := ∃ xs j, r = .d (.int j) ∧ cget τ.cs p = some (.ls xs) ∧ kAt (fun x => Q x τ) (atI xs j)
def kIxC (ti : W T2) (env : List SV) (Q : SV → T2 → Prop) (r : SV) (τ : T2) : Prop := ∃ p, r = .raw (.ref p) ∧ ti env τ (kIxC2 Q p)
def dIxC (te ti : W T2) : W T2 := fun env τ Q => te env τ (kIxC ti env Q)
theorem dIxC_k (te ti : W T2) (env : List SV) (τ : T2) (Q : SV → T2 → Prop) : dIxC te ti env τ Q = te env τ (kIxC ti env Q) := rfl
/-- xs.pop() -/
def kPopC (Q : SV → T2 → Prop) (r : SV) (τ : T2) : Prop := ∃ p ys y, r = .raw (.ref p) ∧ cget τ.cs p = some (.ls (ys ++ [y])) ∧ Q (.d y) ⟨τ.dr, cset τ.cs p (.ls ys)⟩
def dPopC (te : W T2) : W T2 := fun env τ Q => te env τ (kPopC Q)
theorem dPopC_k (te : W T2) (env : List SV) (τ : T2) (Q : SV → T2 → Prop) : dPopC te env τ Q = te env τ (kPopC Q) := rfl
/-- xs[j] = e -/
def kSetC3 (D1 : DEnds T2) (env : List SV) (p : Addr) (y : D) (r : SV) (τ : T2) : Prop := ∃ xs j n, r = .d (.int j) ∧ cget τ.cs p = some (.ls xs) ∧ ixN xs.length j = some n ∧ D1.nx env ⟨τ.dr, cset τ.cs p (.ls (xs.set n y))⟩
def kSetC2 (ti : W T2) (D1 : DEnds T2) (env : List SV) (y : D) (r : SV) (τ : T2) : Prop := ∃ p, r = .raw (.ref p) ∧ ti env τ (kSetC3 D1 env p y)
def kSetC1 (to ti : W T2) (D1 : DEnds T2) (env : List SV) (r : SV) (τ : T2) : Prop := ∃ y, r = .d y ∧ to env τ (kSetC2 ti D1 env y)
def dSetC (to ti te : W T2) : WS T2 := fun D1 env τ => te env τ (kSetC1 to ti D1 env)
theorem dSetC_k (to ti te : W T2) (D1 : DEnds T2) (env : List SV) (τ : T2) : dSetC to ti te D1 env τ = te env τ (kSetC1 to ti D1 env) := rfl
section
variable {X : Cx} {Ts : List (Addr × Str)} {K : PySem.W.Frag} {G0 : Hp} {F0 : Addr → Prop} {H0 : Hp} {e o value : Expr} {to te ti tv : W T2} {i : Nat} {C : Addr} {f : Str} {pos p2 tpos : Pos}
theorem de_cel (h : PE X e (lift ⟨theT Ts, K, G0, F0, H0⟩ te)) : PE X e (lift ⟨theT Ts, K, G0, F0, H0⟩ (dCel te)) :=
  pe_imp h fun σ H Q z9 => ex53 z9 fun G F env τ Qd s t k => ⟨G, F, env, τ, _, s, t, fun r τ' G' F' H' v f res q => by
    obtain ⟨xs, rfl, q⟩ := q
    obtain ⟨p, rfl, w⟩ := res
    obtain ⟨vs, hv, a⟩ := w.at'
    obtain ⟨np, ok, iff⟩ := Ok.cown (c := .ls xs) f.k w.f w.g (by rw [hv]; exact fun z => by cases z) (fun _ z => z) ⟨vs, hv, a⟩
    refine k (.raw (.ref p)) _ G' _ H' _ ⟨⟨f.s.g, f.s.h, f.s.gn, fun b hb => ?_, fun b hb => (iff b).mpr (.inl (f.s.ff b hb)), f.s.dom⟩, ok⟩ rfl (q p np)
    rcases (iff b).mp hb with hb | rfl
    · exact f.s.fn b hb
    · exact .inr w.new⟩
theorem de_lenC (hK : X.K = K) (h : PE X e (tCB (fun xs H Q => ∃ x n, xs = [x] ∧ LenV X.K x H n ∧ Q (.int n) H) (tCons (lift ⟨theT Ts, K, G0, F0, H0⟩ te) tNil))) : PE X e (lift ⟨theT Ts, K, G0, F0, H0⟩ (dLenC te)) :=
  pe_imp h fun σ H Q z9 => ex53 z9 fun G F env τ Qd s t k => ⟨G, F, env, τ, _, s, t, fun r τ' G' F' H' v f1 res q => by
    obtain ⟨p, xs, rfl, hc, q⟩ := q
    obtain ⟨dr, cs⟩ := τ'
    obtain ⟨vs, hv, a⟩ := Ok.celR f1.k hc
    have ev : v = .ref p := res
    subst ev
    exact ⟨_, xs.length, rfl, .inl ⟨vs, .of hv, a.length.symm⟩, k (.d (.int (xs.length : Nat))) _ _ _ _ _ f1 (.int _) q⟩⟩
theorem de_ixC (h : PE X e (tOp (rIxA X.K) (lift ⟨theT Ts, K, G0, F0, H0⟩ te) (lift ⟨theT Ts, K, G0, F0, H0⟩ ti))) : PE X e (lift ⟨theT Ts, K, G0, F0, H0⟩ (dIxC te ti)) :=
  pe_imp h fun σ H Q z9 => ex53 z9 fun G F env τ Qd s t k => ⟨G, F, env, τ, _, s, t, fun r0 τ0 G1 F1 H1 v0 f0 res0 q0 => by
    obtain ⟨p, rfl, t⟩ := q0
    have ev : v0 = .ref p := res0
    subst ev
    refine ⟨G1, F1, env, τ0, _, s.fin f0, t, fun r τ' G' F' H' v f1 res q => ?_⟩
    obtain ⟨xs, j, rfl, hc, q⟩ := q
    obtain ⟨dr, cs⟩ := τ'
    obtain ⟨vs, hv, a⟩ := Ok.celR f1.k hc
    cases ea : atI xs j with
    | none => rw [ea] at q; exact q.elim
    | some y =>
      rw [ea] at q
      obtain ⟨w, ew, rw'⟩ := atI_rp a ea
      exact .inl ⟨p, vs, j, w, rfl, rint res, .of hv, ew, k (.d y) _ _ _ _ _ (f0.trans f1) rw' q⟩⟩
theorem de_popC (h : PE X e (tBM0 X.K "list" rPop (lift ⟨theT Ts, K, G0, F0, H0⟩ te))) : PE X e (lift ⟨theT Ts, K, G0, F0, H0⟩ (dPopC te)) :=
  pe_imp h fun σ H Q z9 => ex53 z9 fun G F env τ Qd s t k => ⟨G, F, env, τ, _, s, t, fun r τ' G' F' H' v0 f0 res q => by
    obtain ⟨p, ys, y, rfl, hc, q⟩ := q
    have ev : v0 = .ref p := res
    subst ev
    obtain ⟨dr, cs⟩ := τ'
    obtain ⟨vs, hv, a⟩ := Ok.celR f0.k hc
    obtain ⟨vs', v, rfl, a1, r1⟩ := rpAll_snoc a
    refine ⟨.inl ⟨rfl, _, .of hv⟩, p, _, v, rfl, rfl, hv, snoc_last _ _, ?_⟩
    rw [List.dropLast_concat]
    obtain ⟨st, ok⟩ := Ok.cput (c' := .ls ys) (o := .lst vs') f0.k hc (fun _ z => z) (fun _ z => z) ⟨vs', upd_same, a1⟩
    exact k (.d y) _ _ _ _ _ (f0.trans ⟨st, ok⟩) r1 q⟩
theorem ds_setC {st : Stmt} (h : PS X st (tAsg (lift ⟨theT Ts, K, G0, F0, H0⟩ te) (gSub (lift ⟨theT Ts, K, G0, F0, H0⟩ to) (lift ⟨theT Ts, K, G0, F0, H0⟩ ti) rSetL))) : PS X st (liftS ⟨theT Ts, K, G0, F0, H0⟩ (dSetC to ti te)) :=
  ps_imp h fun D1 σ H z9 => ex53 z9 fun G F env τ Dd s z E => ⟨G, F, env, τ, _, s, z, fun r τ1 G1 F1 H1 v f1 r1 q => by
    obtain ⟨y, rfl, q⟩ := q
    have s1 := s.fin f1
    refine ⟨G1, F1, env, τ1, _, s1, q, fun r2 τ2 G2 F2 H2 v2 f2 res2 q2 => ?_⟩
    obtain ⟨p, rfl, q2⟩ := q2
    have ev : v2 = .ref p := res2
    subst ev
    have s2 := s1.fin f2
    refine ⟨G2, F2, env, τ2, _, s2, q2, fun z τ3 G3 F3 H3 iv f3 r3 q3 => ?_⟩
    obtain ⟨xs, j, n, rfl, hc, ej, q3⟩ := q3
    obtain ⟨dr, cs⟩ := τ3
    have s3 := s2.fin f3
    obtain ⟨vs, hv, a⟩ := Ok.celR s3.k hc
    have r1 : Rp K G1 v y := r1
    obtain ⟨st4, k4⟩ := Ok.cput (c' := .ls (xs.set n y)) (o := .lst (vs.set n v)) s3.k hc (fun _ z => z) (fun _ z => z) ⟨_, upd_same, a.set (r1.mono (f2.s.g.trans f3.s.g)) n⟩
    exact ⟨p, vs, j, n, rfl, rint r3, hv, by rw [a.length]; exact ej, E.nx G3 F3 σ _ env _ (f1.s.g.trans (f2.s.g.trans f3.s.g)) (s3.step st4 k4) q3⟩⟩
end
/-! ### C.m(self, ..), m a def of the class C -/
end Z
/-! DnW: a, b, c = x, y, z -/
namespace Z
open PySem PySem.Spec PyProof.Rows L2
section
variable {T : Type}
def kPr3 (i j l : Nat) (D : DEnds T) (env : List SV) (rs : List SV) (τ : T) : Prop := ∃ x y z, rs = [.d x, .d y, .d z] ∧ D.nx (((env.set i (.d x)).set j (.d y)).set l (.d z)) τ
def dPar3 (i j l : Nat) (ta : WA T) : WS T := fun D env τ => ta env τ (kPr3 i j l D env)
theorem dPar3_k (i j l : Nat) (ta : WA T) (D : DEnds T) (env : List SV) (τ : T) : dPar3 i j l ta D env τ = ta env τ (kPr3 i j l D env) := rfl
theorem kPr3_1 {i j l : Nat} {D : DEnds T} {env : List SV} {τ : T} {x y z : PyData} : kPr3 i j l D env [.d x, .d y, .d z] τ = D.nx (((env.set i (.d x)).set j (.d y)).set l (.d z)) τ :=
  propext ⟨fun ⟨_, _, _, e, h⟩ => by cases e; exact h, fun h => ⟨_, _, _, rfl, h⟩⟩
end
section
variable {X : Cx} {B : Bk} {i : Nat} {x : Str} {pos : Pos}
theorem ds_par3 {j l : Nat} {y z : Str} {a b c : Expr} {ta : WA B.T} {px py pz pt : Pos} {kt k2 pt2} (hc : X.calm = true) (hN : X.N.Nodup) (hi : X.N[i]? = some x) (hj : X.N[j]? = some y) (hl : X.N[l]? = some z) (hij : i ≠ j) (hil : i ≠ l) (hjl : j ≠ l)
    (hx : X.env.scope.names.lookup x = some .local) (hy : X.env.scope.names.lookup y = some .local) (hz : X.env.scope.names.lookup z = some .local) (ha : PA X [a, b, c] (liftA B ta))
    (hw : swappedStores [.Tuple [.Name x px, .Name y py, .Name z pz] kt pt] (.Tuple [a, b, c] k2 pt2) X.env = pure (some [x, y, z]))
    (hs : swapsWithSole [.Tuple [.Name x px, .Name y py, .Name z pz] kt pt] (.Tuple [a, b, c] k2 pt2) pos.line X.env = pure false := by rfl) :
    PS X (.Assign [.Tuple [.Name x px, .Name y py, .Name z pz] kt pt] (.Tuple [a, b, c] k2 pt2) pos) (liftS B (dPar3 i j l ta)) :=
  ps_imp (ps_par3 hc hN hi hj hl hij hil hjl hx hy hz ha hw hs) fun D σ H z9 => ex53 z9 fun G F env τ Dd s z E => ⟨G, F, env, τ, _, s, z, fun rs τ1 G1 F1 H1 vs f1 r1 q => by
    obtain ⟨x, y, z, rfl, q⟩ := q
    have s1 := s.fin f1
    cases r1 with
    | cons r2 r1 =>
      cases r1 with
      | cons r3 r1 =>
        cases r1 with
        | cons r4 r1 =>
          cases r1
          exact ⟨_, _, _, rfl, E.nx G1 F1 _ H1 _ τ1 f1.s.g ⟨s1.s, s1.k, ((s1.e.setD r2).setD r3).setD r4⟩ q⟩⟩
end
end Z
/-! DnX: a dict of the module, text keys, data for values: d[k], k in d -/
namespace Z
open PySem PySem.Spec PyProof.Rows L2
def lookM (m : List (Str × D)) (z : Str) : Option D := (m.find? fun e => e.1 == z).map (·.2)
structure GDict (mg : Str → Option Value) (K : PySem.W.Frag) (w : World) (x : Str) (m : List (Str × D)) : Prop where
  ex : ∃ d es n, mg x = some (.ref d) ∧ KDict K w d es n ∧ ∀ z : Str, ∃ r, PySem.W.nsIn K d z = some r ∧ match lookM m z with
    | some y => ∃ u v, r = some u ∧ RelV v u ∧ ∀ G, Rp K G v y
    | none => r = none
def kInM (neg : Bool) (m : List (Str × D)) {T : Type} (Q : SV → T → Prop) (r : SV) (τ : T) : Prop := ∃ z, r = .d (.str z) ∧ Q (.d (.bool (neg ^^ (lookM m z).isSome))) τ
def dInM {T : Type} (neg : Bool) (m : List (Str × D)) (te : W T) : W T := fun env τ Q => te env τ (kInM neg m Q)
theorem dInM_k {T : Type} (neg : Bool) (m : List (Str × D)) (te : W T) (env : List SV) (τ : T) (Q : SV → T → Prop) : dInM neg m te env τ Q = te env τ (kInM neg m Q) := rfl
theorem kInM_1 {T : Type} {neg : Bool} {m : List (Str × D)} {Q : SV → T → Prop} {z : Str} {τ : T} : kInM neg m Q (.d (.str z)) τ = Q (.d (.bool (neg ^^ (lookM m z).isSome))) τ :=
  propext ⟨fun ⟨_, e, h⟩ => by cases e; exact h, fun h => ⟨_, rfl, h⟩⟩
def kIxM (m : List (Str × D)) {T : Type} (Q : SV → T → Prop) (r : SV) (τ : T) : Prop := ∃ z y, r = .d (.str z) ∧ lookM m z = some y ∧ Q (.d y) τ
def dIxM {T : Type} (m : List (Str × D)) (te : W T) : W T := fun env τ Q => te env τ (kIxM m Q)
theorem dIxM_k {T : Type} (m : List (Str × D)) (te : W T) (env : List SV) (τ : T) (Q : SV → T → Prop) : dIxM m te env τ Q = te env τ (kIxM m Q) := rfl
section
variable {X : Cx} {B : Bk} {e : Expr} {te : W B.T} {x : Str} {m : List (Str × D)} {p pos : Pos}
theorem dt_inM (hK : X.K = B.K) (g : GDict X.mg X.K X.w x m) (hg : Gl X x) (he : PE X e (lift B te)) (hm : behindInMarks .NotIn (.Name x p) = false := by rfl) (hd : (x == ("__debug__" : Str)) = false := by decide) : PT X (.Compare e [.NotIn] [.Name x p] pos) (liftT B (dT (dInM true m te))) := by
  obtain ⟨d, es, n, hmg, kd, hz⟩ := g.ex
  refine pt_imp (pt_cmpR (op_notIn_kd kd) he (pe_glob (v := .ref d) hg hmg rfl hd) hm) (lift_tst fun σ H Q z9 => ex53 z9 fun G F env τ Qd s t k => ⟨G, F, env, τ, _, s, t, fun r τ1 G1 F1 H1 v f1 r1 q => ?_⟩)
  obtain ⟨z, rfl, q⟩ := q
  obtain ⟨r, hr, h2⟩ := hz z
  have er : (!r.isSome) = (true ^^ (lookM m z).isSome) := by
    rw [Bool.true_xor]
    cases q2 : lookM m z with
    | none => rw [q2] at h2; rw [show r = none from h2]; rfl
    | some y => rw [q2] at h2; obtain ⟨u, _, e, _⟩ := h2; rw [e]; rfl
  exact ⟨z, r, rstr r1, rfl, hr, by rw [er]; exact k (.d (.bool (true ^^ (lookM m z).isSome))) _ _ _ _ _ f1 (.bl _) q⟩
theorem de_ixM (hK : X.K = B.K) (g : GDict X.mg X.K X.w x m) (hg : Gl X x) (he : PE X e (lift B te)) (hs : PlainIx e) (hd : (x == ("__debug__" : Str)) = false := by decide) : PE X (.Subscript (.Name x p) e pos) (lift B (dIxM m te)) := by
  obtain ⟨d, es, n, hmg, kd, hz⟩ := g.ex
  refine pe_imp (pe_ix ix_kdict (pe_glob (v := .ref d) hg hmg rfl hd) he hs) fun σ H Q z9 => ex53 z9 fun G F env τ Qd s t k => ⟨G, F, env, τ, _, s, t, fun r τ1 G1 F1 H1 v f1 r1 q => ?_⟩
  obtain ⟨z, y, rfl, hy, q⟩ := q
  obtain ⟨r, hr, h2⟩ := hz z
  rw [hy] at h2
  obtain ⟨u, v0, rfl, rv, rp⟩ := h2
  rw [hK] at rp
  exact ⟨d, z, v0, rfl, rstr r1, ⟨es, n, u, kd.at_, kd.lit, hr, rv⟩, k (.d y) _ _ _ _ _ f1 (rp _) q⟩
end
/-! ### from the row -/
def EnR (K : PySem.W.Frag) (e : DictEntry) (kv : Str × D) : Prop := (∃ t, e.key = .str kv.1 t) ∧ ∃ v, RelV v e.val ∧ ∀ G, Rp K G v kv.2
theorem en_find {K : PySem.W.Frag} (z : Str) : ∀ {es : List DictEntry} {m : List (Str × D)}, Paired (EnR K) es m → match lookM m z with
    | some y => ∃ u v, es.find? (fun e => e.key.isStr z) = some u ∧ RelV v u.val ∧ ∀ G, Rp K G v y
    | none => es.find? (fun e => e.key.isStr z) = none
  | _, _, .nil => rfl
  | _, _, .cons (a := a) (b := b) h t => by
    obtain ⟨⟨tk, hk⟩, v, rv, rp⟩ := h
    unfold lookM
    rw [List.find?_cons, List.find?_cons, hk]
    cases e : b.1 == z with
    | true =>
      have e2 : Value.isStr (.str b.1 tk) z = true := e
      rw [e2]
      exact ⟨a, v, rfl, rv, rp⟩
    | false =>
      have e2 : Value.isStr (.str b.1 tk) z = false := e
      rw [e2]
      exact en_find z t
theorem en_noref {K : PySem.W.Frag} : ∀ {es : List DictEntry} {m : List (Str × D)}, Paired (EnR K) es m → es.any (·.refKey) = false
  | _, _, .nil => rfl
  | _, _, .cons (a := a) h t => by
    obtain ⟨⟨tk, hk⟩, _⟩ := h
    rw [List.any_cons, en_noref t, DictEntry.refKey, hk]
    rfl
theorem gdict_mk {mg : Str → Option Value} {K : PySem.W.Frag} {w : World} {x : Str} {m : List (Str × D)} {a : Addr} {es : List DictEntry} {n : Nat} (hm : mg x = some (.ref a)) (lk : K.lookup a = some ⟨.type "dict", none, .dict es.toArray n, #[]⟩)
    (lit : PySem.W.KeysLit w.params es) (low : (a == sysModules) = false) (pr : Paired (EnR K) es m) : GDict mg K w x m := by
  refine ⟨a, es.toArray, n, hm, ⟨lk, by simpa using lit, low⟩, fun z => ?_⟩
  unfold PySem.W.nsIn
  rw [lk]
  have h1 := en_find z pr
  have h2 := en_noref pr
  show ∃ r, (match es.toArray.toList.find? (fun e => e.key.isStr z) with
      | some e => some (some e.val)
      | none => if es.toArray.toList.any (·.refKey) then none else some none) = some r ∧ _
  rw [List.toList_toArray]
  cases q : lookM m z with
  | none =>
    rw [q] at h1
    rw [show es.find? (fun e => e.key.isStr z) = none from h1, h2]
    exact ⟨none, rfl, rfl⟩
  | some y =>
    rw [q] at h1
    obtain ⟨u, v, e, rv, rp⟩ := h1
    rw [e]
    exact ⟨some u.val, rfl, u.val, v, rfl, rv, rp⟩
theorem rp_tupK {K : PySem.W.Frag} {a : Addr} {dd : Option Addr} {n : Nat} {sl : Array (Option Value)} {vs : List V} {ds : List D} {us : List Value} (lk : K.lookup a = some ⟨.type "tuple", dd, .seq us.toArray n, sl⟩) (h : Scals vs ds us) (hl : vs.length ≤ sizeLine) (hne : vs ≠ [] := by exact List.cons_ne_nil _ _) : ∀ G, Rp K G (.ref a) (.tuple ds) :=
  fun G => .tup (.inr ⟨_, us.toArray, n, lk, rfl, rfl, by rw [List.size_toArray, ← h.rel.length]; exact hl, by simpa using h.rel, hne⟩) h.rp
end Z
/-! DnY: a list beside [], a tuple beside (): whatever is in them -/
namespace Z
open PySem PySem.Spec PyProof.Rows L2 PySem.SeqAt
def rEq0 (neg : Bool) (K : PySem.W.Frag) : R2 := fun x y H Q => ∃ p xs q, x = .ref p ∧ y = .ref q ∧ ((SqL K H p xs ∧ SqL K H q []) ∨ (SqT K H p xs ∧ SqT K H q [])) ∧ Q (.bl (neg ^^ xs.isEmpty)) H
section
variable {X : Cx}
theorem all0 {n : Nat} (h : n = 0) (e : Nat → Bool) : (List.range n).all e = true := by subst h; rfl
theorem op_eq0 (hu : X.A.units + 64 < cLine) : OpR X (compareOp .Eq) (rEq0 false X.K) := by
  intro pins s σ H x y v u Q I rx ry h
  obtain ⟨p, xs, q, rfl, rfl, h, hq⟩ := h
  obtain rfl : v = Value.ref p := rx
  obtain rfl : u = Value.ref q := ry
  have hu1 : X.A.units < cLine := by omega
  rcases h with ⟨h1, h2⟩ | ⟨h1, h2⟩
  · obtain ⟨its, rv, pl, hz⟩ := I.list h1
    obtain ⟨its2, rv2, pl2, hz2⟩ := I.list h2
    have l1 : xs.length = its.length := by simpa using rv.length
    have l2 : 0 = its2.length := by simpa using rv2.length
    cases xs with
    | nil =>
      have l1 : 0 = its.length := l1
      refine eq_listAt (e := fun _ => true) pl.isList pl2.isList (by simp; omega) hu1 (fun j hj _ => by simp at hj; omega) ?_
      rw [all0 (show its.toArray.size = 0 by rw [List.size_toArray]; omega)]
      exact ⟨.bl _, H, I, rfl, hq⟩
    | cons a t =>
      have l1 : t.length + 1 = its.length := l1
      exact eq_list_lengthsAt pl.isList pl2.isList (by rw [bne_iff_ne]; simp; omega) hu1 ⟨.bl _, H, I, rfl, hq⟩
  · obtain ⟨its, rv, pl, hz⟩ := I.tuple h1
    obtain ⟨its2, rv2, pl2, hz2⟩ := I.tuple h2
    have l1 : xs.length = its.length := by simpa using rv.length
    have l2 : 0 = its2.length := by simpa using rv2.length
    refine eq_tupleAt (e := fun _ => true) pl pl2 hu1 (fun j _ hj => by simp at hj; omega) ?_
    rw [all0 (show min its.toArray.size its2.toArray.size = 0 by rw [List.size_toArray, List.size_toArray]; omega), Bool.true_and, List.size_toArray, List.size_toArray, ← l2, ← l1]
    have e : (xs.length == 0) = (false ^^ xs.isEmpty) := by cases xs <;> rfl
    rw [e]
    exact ⟨.bl _, H, I, rfl, hq⟩
theorem op_ne0 (hu : X.A.units + 64 < cLine) : OpR X (compareOp .NotEq) (rEq0 true X.K) := by
  intro pins s σ H x y v u Q I rx ry h
  obtain ⟨p, xs, q, rfl, rfl, h, hq⟩ := h
  obtain rfl : v = Value.ref p := rx
  obtain rfl : u = Value.ref q := ry
  have hu1 : X.A.units < cLine := by omega
  rcases h with ⟨h1, h2⟩ | ⟨h1, h2⟩
  · obtain ⟨its, rv, pl, hz⟩ := I.list h1
    obtain ⟨its2, rv2, pl2, hz2⟩ := I.list h2
    have l1 : xs.length = its.length := by simpa using rv.length
    have l2 : 0 = its2.length := by simpa using rv2.length
    cases xs with
    | nil =>
      have l1 : 0 = its.length := l1
      refine RcNeAt.lists (e := fun _ => true) pl.isList pl2.isList (by simp; omega) hu1 (fun j hj _ => by simp at hj; omega) X.prog X.w _ _ ?_
      rw [all0 (show its.toArray.size = 0 by rw [List.size_toArray]; omega)]
      exact ⟨.bl _, H, I, rfl, hq⟩
    | cons a t =>
      have l1 : t.length + 1 = its.length := l1
      exact RcNeAt.lists_lengths pl.isList pl2.isList (by rw [bne_iff_ne]; simp; omega) hu1 X.prog X.w _ _ ⟨.bl _, H, I, rfl, hq⟩
  · obtain ⟨its, rv, pl, hz⟩ := I.tuple h1
    obtain ⟨its2, rv2, pl2, hz2⟩ := I.tuple h2
    have l1 : xs.length = its.length := by simpa using rv.length
    have l2 : 0 = its2.length := by simpa using rv2.length
    refine RcNeAt.tuples (e := fun _ => true) pl pl2 hu1 (fun j _ hj => by simp at hj; omega) X.prog X.w _ _ ?_
    rw [all0 (show min its.toArray.size its2.toArray.size = 0 by rw [List.size_toArray, List.size_toArray]; omega), Bool.true_and, List.size_toArray, List.size_toArray, ← l2, ← l1]
    have e : (!(xs.length == 0)) = (true ^^ xs.isEmpty) := by cases xs <;> rfl
    rw [e]
    exact ⟨.bl _, H, I, rfl, hq⟩
end
/-- the items of a list, of a tuple -/
def lsts? : SV → Option (List D)
  | .d (.list xs) => some xs
  | .ol xs => some xs
  | .vw xs => some xs
  | _ => none
def tups? : SV → Option (List D)
  | .d (.tuple xs) => some xs
  | _ => none
def gEq0 (neg : Bool) (x y : SV) (Q : SV → Prop) : Prop := ∃ xs, ((lsts? x = some xs ∧ lsts? y = some []) ∨ (tups? x = some xs ∧ tups? y = some [])) ∧ Q (.d (.bool (neg ^^ xs.isEmpty)))
theorem gEq0_t {neg : Bool} {xs : List D} {Q : SV → Prop} : gEq0 neg (.d (.tuple xs)) (.d (.tuple [])) Q = Q (.d (.bool (neg ^^ xs.isEmpty))) :=
  propext ⟨fun ⟨_, h, q⟩ => by rcases h with ⟨h, _⟩ | ⟨h, _⟩ <;> cases h; exact q, fun q => ⟨xs, .inr ⟨rfl, rfl⟩, q⟩⟩
theorem gEq0_l {neg : Bool} {xs : List D} {Q : SV → Prop} : gEq0 neg (.d (.list xs)) (.ol []) Q = Q (.d (.bool (neg ^^ xs.isEmpty))) :=
  propext ⟨fun ⟨_, h, q⟩ => by rcases h with ⟨h, _⟩ | ⟨h, _⟩ <;> cases h; exact q, fun q => ⟨xs, .inl ⟨rfl, rfl⟩, q⟩⟩
theorem gEq0_o {neg : Bool} {xs : List D} {Q : SV → Prop} : gEq0 neg (.ol xs) (.ol []) Q = Q (.d (.bool (neg ^^ xs.isEmpty))) :=
  propext ⟨fun ⟨_, h, q⟩ => by rcases h with ⟨h, _⟩ | ⟨h, _⟩ <;> cases h; exact q, fun q => ⟨xs, .inl ⟨rfl, rfl⟩, q⟩⟩
theorem gEq0_v {neg : Bool} {xs : List D} {Q : SV → Prop} : gEq0 neg (.vw xs) (.ol []) Q = Q (.d (.bool (neg ^^ xs.isEmpty))) :=
  propext ⟨fun ⟨_, h, q⟩ => by rcases h with ⟨h, _⟩ | ⟨h, _⟩ <;> cases h; exact q, fun q => ⟨xs, .inl ⟨rfl, rfl⟩, q⟩⟩
theorem lsts_ok {K : PySem.W.Frag} {Ha G H : Hp} {F : Addr → Prop} {x : SV} {v : V} {xs : List D} (r : Res K Ha G F H x v) (sm : Same G H) (e : lsts? x = some xs) : ∃ p vs, v = .ref p ∧ SqL K H p vs ∧ RpAll K G vs xs := by
  cases x with
  | d d =>
    cases d with
    | list ys =>
      cases e
      have r : Rp K G v (.list xs) := r
      cases r with
      | lst h a => exact ⟨_, _, rfl, (same_sqp sm h).sql, a⟩
    | _ => cases e
  | ol ys =>
    cases e
    obtain ⟨p, e1, w⟩ := r
    obtain ⟨vs, hv, a⟩ := w.at'
    exact ⟨p, vs, e1, .of hv, a⟩
  | vw ys =>
    cases e
    obtain ⟨p, vs, e1, hv, a, _⟩ := r
    exact ⟨p, vs, e1, .of hv, a⟩
  | _ => cases e
theorem tups_ok {K : PySem.W.Frag} {Ha G H : Hp} {F : Addr → Prop} {x : SV} {v : V} {xs : List D} (r : Res K Ha G F H x v) (sm : Same G H) (e : tups? x = some xs) : ∃ p vs, v = .ref p ∧ SqT K H p vs ∧ RpAll K G vs xs := by
  cases x with
  | d d =>
    cases d with
    | tuple ys =>
      cases e
      have r : Rp K G v (.tuple xs) := r
      cases r with
      | tup h a => exact ⟨_, _, rfl, same_seqT sm h, a⟩
    | _ => cases e
  | _ => cases e
section
variable {B : Bk} {X : Cx}
theorem od_eq0 {neg : Bool} (hK : X.K = B.K) : OpD B (rEq0 neg X.K) (gEq0 neg) := fun x y vx vy Ha Hb G F H τ Qv Q k rx ry h fin => by
  rw [hK]
  obtain ⟨xs, h, q⟩ := h
  rcases h with ⟨e1, e2⟩ | ⟨e1, e2⟩
  · obtain ⟨p, vs, rfl, h1, a1⟩ := lsts_ok rx k.same e1
    obtain ⟨p2, vs2, rfl, h2, a2⟩ := lsts_ok ry k.same e2
    cases a2
    have e : vs.isEmpty = xs.isEmpty := by cases a1 <;> rfl
    exact ⟨p, vs, p2, rfl, rfl, .inl ⟨h1, h2⟩, by rw [e]; exact fin.d k (.bl _) q⟩
  · obtain ⟨p, vs, rfl, h1, a1⟩ := tups_ok rx k.same e1
    obtain ⟨p2, vs2, rfl, h2, a2⟩ := tups_ok ry k.same e2
    cases a2
    have e : vs.isEmpty = xs.isEmpty := by cases a1 <;> rfl
    exact ⟨p, vs, p2, rfl, rfl, .inr ⟨h1, h2⟩, by rw [e]; exact fin.d k (.bl _) q⟩
end
end Z
/-! DnZ: a tuple that begins with a text, in a tuple of tuples of one text each: whatever stands behind the text -/
namespace Z
open PySem PySem.Spec PyProof.Rows L2 PySem.SeqAt
def Ones (K : PySem.W.Frag) (H : Hp) : List V → List Str → Prop := Paired fun y z => ∃ r, y = .ref r ∧ SqT K H r [.str z]
def rIn1 (K : PySem.W.Frag) : R2 := fun x y H Q => ∃ p w t q ys ws, x = .ref p ∧ y = .ref q ∧ SqT K H p (.str w :: t) ∧ SqT K H q ys ∧ Ones K H ys ws ∧ Q (.bl (t.isEmpty && ws.any fun z => decide (z = w))) H
section
variable {X : Cx}
theorem one_at (hu : X.A.units + 64 < cLine) {pins : List (Addr × Obj)} {s : Shared} {σ : L2.St} {H : Hp} (I : Inv X pins σ H s) {p r : Addr} {w z : Str} {t : List V} (h1 : SqT X.K H p (.str w :: t)) (h2 : SqT X.K H r [.str z]) : EqAt X.A.in1 s (.ref r) (.ref p) (t.isEmpty && decide (z = w)) := by
  obtain ⟨its, rv, pl, hz⟩ := I.tuple h1
  obtain ⟨its2, rv2, pl2, hz2⟩ := I.tuple h2
  by_cases e : r = p
  · subst e
    have := I.tuple_inj h1 h2
    cases this
    rw [show ((([] : List V)).isEmpty && decide (w = w)) = true by simp]
    exact EqAt.same _
  · cases rv with
    | cons ra ta =>
      cases rv2 with
      | cons rb tb =>
        cases tb
        obtain ⟨k1, rfl⟩ := ra
        obtain ⟨k2, rfl⟩ := rb
        rename_i us
        have hl := ta.length
        have hx : (X.A.in1).units = X.A.units + 1 := rfl
        have h := RcAt.tuples (A := X.A.in1) (e := fun _ => decide (z = w)) pl2 pl (by omega) (fun j j1 j2 => by
          have j0 : j = 0 := by
            have : j < 1 := j1
            omega
          subst j0
          have := (PyProof.Rows.eqGives_str z w k2 k1).at X.A.in1.in1 s
          rw [show (z == w) = decide (z = w) by rw [Bool.eq_iff_iff, beq_iff_eq, decide_eq_true_eq]] at this
          exact this)
        have e2 : ((List.range (min ([Value.str z k2].toArray.size) ((Value.str w k1 :: us).toArray.size))).all (fun _ => decide (z = w)) && [Value.str z k2].toArray.size == (Value.str w k1 :: us).toArray.size) = (t.isEmpty && decide (z = w)) := by
          rw [List.size_toArray, List.size_toArray, List.length_singleton, List.length_cons, ← hl]
          rw [show min 1 (t.length + 1) = 1 by omega]
          rw [show List.range 1 = [0] from rfl, List.all_cons, List.all_nil, Bool.and_true, Bool.and_comm]
          refine congrArg (· && _) ?_
          cases t with
          | nil => rfl
          | cons a t =>
            rw [List.length_cons]
            show (1 == t.length + 1 + 1) = false
            rw [beq_eq_false_iff_ne]
            omega
        rw [e2] at h
        exact EqAt.of_refs e h
theorem op_in1 (hu : X.A.units + 64 < cLine) : OpR X (compareOp .In) (rIn1 X.K) := by
  intro pins s σ H x y v u Q I rx ry h
  obtain ⟨p, w, t, q, ys, ws, rfl, rfl, h1, h2, h3, hq⟩ := h
  obtain rfl : v = Value.ref p := rx
  obtain rfl : u = Value.ref q := ry
  obtain ⟨its2, rv2, pl2, hz2⟩ := I.tuple h2
  classical
  have inj : ∀ {r z}, SqT X.K H r [.str z] → decide (t = [] ∧ ∃ r', Value.ref r = .ref r' ∧ SqT X.K H r' [.str w]) = (t.isEmpty && decide (z = w)) := fun {r z} hr => by
    rw [Bool.eq_iff_iff, Bool.and_eq_true, decide_eq_true_eq, decide_eq_true_eq, List.isEmpty_iff]
    refine and_congr_right fun _ => ⟨fun ⟨r', e, h⟩ => ?_, fun e => ⟨r, rfl, e ▸ hr⟩⟩
    cases e
    have := I.tuple_inj hr h
    cases this
    rfl
  have fact : ∀ (ys : List V) (ws : List Str) (us : List Value), Vals ys us → Ones X.K H ys ws → (∀ y ∈ us, EqAt X.A.in1 s y (.ref p) (decide (t = [] ∧ ∃ r, y = .ref r ∧ SqT X.K H r [.str w]))) ∧ (us.any fun y => decide (t = [] ∧ ∃ r, y = .ref r ∧ SqT X.K H r [.str w])) = (t.isEmpty && ws.any fun z => decide (z = w)) := by
    intro ys
    induction ys with
    | nil =>
      intro ws us a b
      cases a
      cases b
      exact ⟨nofun, by rw [List.any_nil, List.any_nil, Bool.and_false]⟩
    | cons y ys ih =>
      intro ws us a b
      cases a with
      | cons a1 a2 =>
        cases b with
        | cons b1 b2 =>
          obtain ⟨r, rfl, hr⟩ := b1
          cases a1
          obtain ⟨i1, i2⟩ := ih _ _ a2 b2
          refine ⟨fun y hy => ?_, ?_⟩
          · rcases List.mem_cons.mp hy with rfl | hy
            · rw [inj hr]
              exact one_at hu I h1 hr
            · exact i1 y hy
          · rw [List.any_cons, List.any_cons, i2, inj hr, Bool.and_or_distrib_left]
  obtain ⟨f1, f2⟩ := fact ys ws its2 rv2 h3
  refine in_tupleAt (A := X.A) (fun y => decide (t = [] ∧ ∃ r, y = .ref r ∧ SqT X.K H r [.str w])) pl2 (fun y hy => f1 y (by simpa using hy)) ?_
  rw [List.any_toArray, f2]
  exact ⟨.bl _, H, I, rfl, hq⟩
end
def gIn1 (x y : SV) (Q : SV → Prop) : Prop := ∃ (w : Str) (t : List D) (ws : List Str), tups? x = some (.str w :: t) ∧ y = .d (.tuple (ws.map fun z => .tuple [.str z])) ∧ Q (.d (.bool (t.isEmpty && ws.any fun z => decide (z = w))))
section
variable {B : Bk} {X : Cx}
theorem od_in1 (hK : X.K = B.K) : OpD B (rIn1 X.K) gIn1 := fun x y vx vy Ha Hb G F H τ Qv Q k rx ry h fin => by
  rw [hK]
  obtain ⟨w, t, ws, e1, rfl, q⟩ := h
  obtain ⟨p, vs, rfl, h1, a1⟩ := tups_ok rx k.same e1
  obtain ⟨p2, vs2, rfl, h2, a2⟩ := tups_ok ry k.same (xs := ws.map fun z => .tuple [.str z]) rfl
  cases a1 with
  | cons r1 t1 =>
    cases r1
    rename_i vt
    have ones : ∀ (ws : List Str) (vs : List V), RpAll B.K G vs (ws.map fun z => .tuple [.str z]) → Ones B.K H vs ws := by
      intro ws
      induction ws with
      | nil => intro vs a; cases a; exact .nil
      | cons z ws ih =>
        intro vs a
        cases a with
        | cons a1 a2 =>
          refine .cons ?_ (ih _ a2)
          cases a1 with
          | tup h a =>
            cases a with
            | cons b1 b2 =>
              cases b1
              cases b2
              exact ⟨_, rfl, same_seqT k.same h⟩
    have e : vt.isEmpty = t.isEmpty := by cases t1 <;> rfl
    exact ⟨p, w, vt, p2, vs2, ws, rfl, rfl, h1, h2, ones ws vs2 a2, by rw [e]; exact fin.d k (.bl _) q⟩
end
end Z
/-! DoA: zip of a list and a tuple -/
namespace Z
open PySem PySem.Spec PyProof.Rows L2
/-- an iterator that stands at its end -/
theorem Draws.lstEnd {prog : Program} {w : World} {A : Around} (hh : A.handled = none) {it l : Addr} (hne : l ≠ it) {items : Array Value} {k : Nat} (hx : items[k]? = none) :
    Draws prog w A it [it, l] k (fun _ _ => True) (fun j h => j = k ∧ h.IsListIter it l j ∧ h.IsList l items) where
  live := fun _ _ st => let ⟨o, ho, _⟩ := st.2.1; ⟨o, ho⟩
  frame := fun _ _ _ st hk => ⟨st.1, st.2.1.at fun o e => hk it (by simp) o e, st.2.2.at fun o e => hk l (by simp) o e⟩
  item := fun i s Q E hi st _ => by have := st.1; omega
  done := fun s Q E st hE => wpAny_nextOf_list_end hh st.2.1 st.2.2 hx hE
theorem Draws.tupEnd {prog : Program} {w : World} {A : Around} (hh : A.handled = none) {it l : Addr} (hne : l ≠ it) {items : Array Value} {k : Nat} (hx : items[k]? = none) :
    Draws prog w A it [it, l] k (fun _ _ => True) (fun j h => j = k ∧ h.IsTupleIter it l j ∧ h.IsTuple l items) where
  live := fun _ _ st => let ⟨o, ho, _⟩ := st.2.1; ⟨o, ho⟩
  frame := fun _ _ _ st hk => ⟨st.1, st.2.1.at fun o e => hk it (by simp) o e, st.2.2.at fun o e => hk l (by simp) o e⟩
  item := fun i s Q E hi st _ => by have := st.1; omega
  done := fun s Q E st hE => wpAny_nextOf_tuple_end hh st.2.1 st.2.2 hx hE
/-- the list at a, the tuple at b, turn by turn, the items in new pairs -/
def ItzM (K : PySem.W.Frag) (a b : Addr) : It :=
  ⟨fun i H => ∃ (xs ys : List V) (x y : V), SqL K H a xs ∧ SqT K H b ys ∧ xs[i]? = some x ∧ ys[i]? = some y,
    fun i H v H' => ∃ T x y, v = .ref T ∧ H T = none ∧ H' = upd H T (.tup [x, y]) ∧ (∀ xs, SqL K H a xs → xs[i]? = some x) ∧ ∀ ys, SqT K H b ys → ys[i]? = some y,
    fun i H => ∃ xs ys : List V, SqL K H a xs ∧ SqT K H b ys ∧ (xs.length ≤ i ∨ ys.length ≤ i)⟩
theorem ZipApart.sep {z TI TO i1 i2 l1 l2 : Addr} (D : ZipApart z TI TO i1 i2 l1 l2) : ZipSep2 z TI TO i1 i2 [i1, l1] [i2, l2] where
  TIz := D.TIz
  TOz := D.TOz
  TITO := D.TITO
  TIi1 := D.TIi1
  mem1 := by simp
  zf1 := by simp [D.i1z.symm, D.l1z.symm]
  Tf1 := by simp [D.TOi1, D.l1TO.symm]
  TIi2 := D.TIi2
  mem2 := by simp
  zf2 := by simp [D.i2z.symm, D.l2z.symm]
  Tf2 := by simp [D.TOi2, D.l2TO.symm]
  sep1_2 := by simp [D.i12, D.l2i1.symm]
  sep2_1 := by simp [D.i12.symm, D.l1i2.symm]
theorem five {z TI TO i1 i2 c : Addr} (h : c ∈ [z, TI, TO, i1, i2]) : c = z ∨ c = TI ∨ c = TO ∨ c = i1 ∨ c = i2 := by simpa using h
theorem turn_zipM {P : Program} {w : World} {K : PySem.W.Frag} {elts : List Expr} {kk : Nat} {tpos : Pos} {a b z TI TO i1 i2 : Addr} (D : ZipApart z TI TO i1 i2 a b) :
    Turn P w K (.Tuple elts kk tpos) (ItzM K a b) [z, TI, TO, i1, i2] z (fun i h => IsZip h z TI TO .none ∧ IsPair h TI (.ref i1) (.ref i2) ∧ (∃ x y, IsPair h TO x y) ∧ h.IsListIter i1 a i ∧ h.IsTupleIter i2 b i) where
  mem := List.mem_cons_self
  obj := fun i h st c hc => by
    obtain ⟨hz, hTI, ⟨x, y, hTO⟩, ⟨o1, e1, _, d1⟩, ⟨o2, e2, _, d2⟩⟩ := st
    rcases five hc with rfl | rfl | rfl | rfl | rfl
    · exact ⟨_, hz, nofun⟩
    · exact ⟨_, hTI, nofun⟩
    · exact ⟨_, hTO, nofun⟩
    · exact ⟨o1, e1, fun v q => by rw [d1] at q; cases q⟩
    · exact ⟨o2, e2, fun v q => by rw [d2] at q; cases q⟩
  keep := fun i h h' st k => by
    obtain ⟨hz, hTI, ⟨x, y, hTO⟩, h1, h2⟩ := st
    exact ⟨k z (by simp) _ hz, k TI (by simp) _ hTI, ⟨x, y, k TO (by simp) _ hTO⟩, h1.at fun o q => k i1 (by simp) o q, h2.at fun o q => k i2 (by simp) o q⟩
  item := by
    intro X hP hw hK hc i pins s σ H E I hf st hg
    subst hP hw hK
    obtain ⟨hz, hTI, ⟨x0, y0, hTO⟩, h1, h2⟩ := st
    obtain ⟨xs, ys, x, y, hqx, hqy, hx, hy⟩ := hg
    obtain ⟨its, rv, p, _⟩ := I.list hqx
    obtain ⟨its2, rv2, p2, _⟩ := I.tuple hqy
    obtain ⟨u, hu, ru⟩ := rv.get hx
    obtain ⟨u2, hu2, ru2⟩ := rv2.get hy
    have lu : i < its.toArray.size := by
      have := (List.getElem?_eq_some_iff.mp hu).1
      simpa using this
    have lu2 : i < its2.toArray.size := by
      have := (List.getElem?_eq_some_iff.mp hu2).1
      simpa using this
    have hzl : z < s.heap.objs.size := Heap.lt_size hz
    have hhd := I.ok.hd hc
    refine wpAny_pyNext_zipD2_item (ZipApart.sep D) (PySem.Draws.list (A := X.A.in1) hhd i1 a D.l1i1 its.toArray) (PySem.Draws.tuple (A := X.A.in1) hhd i2 b D.l2i2 its2.toArray) hz hTI hTO ⟨h1, p.isList⟩ ⟨h2, p2⟩ lu lu2 fun v1 v2 h' tk e1 e2 z' TO' s1' s2' hT hsz hk => ?_
    have e1 : its.toArray[i]? = some v1 := e1
    have e2 : its2.toArray[i]? = some v2 := e2
    rw [List.getElem?_toArray, hu] at e1
    rw [List.getElem?_toArray, hu2] at e2
    cases e1
    cases e2
    refine ⟨_, rfl, wpAny_letOwnedTupleGo_zip (s := { s with heap := h', toks := tk }) z' fun h'' z'' sb => ?_⟩
    have sbne : ∀ c o, c ≠ z → h'.get? c = some o → h''.get? c = some o := fun c o cz e => (sb.2 c cz).trans e
    have hT2 : h''.get? s.heap.objs.size = some { cls := .type "tuple", data := .seq #[u, u2] } := sbne _ _ (Nat.ne_of_gt hzl) hT
    have new : ObjOk X.prog X.w (upd H s.heap.objs.size (.tup [x, y])) h'' s.heap.objs.size (.tup [x, y]) :=
      ⟨by show 2 ≤ sizeLine; decide, [u, u2], .cons ru (.cons ru2 .nil), ⟨_, hT2, rfl, _, rfl⟩⟩
    have all : ∀ c o, c ∉ [z, TI, TO, i1, i2] → s.heap.get? c = some o → h''.get? c = some o := fun c o hb e => by
      simp only [List.mem_cons, List.not_mem_nil, or_false, not_or] at hb
      exact sbne c o hb.1 (hk c o hb.1 hb.2.2.1 hb.2.2.2.1 hb.2.2.2.2 e)
    have I1 : Inv X pins σ (upd H s.heap.objs.size (.tup [x, y])) { s with heap := h'', toks := tk } := I.turnedNew (t' := tk) (ch := [z, TI, TO, i1, i2]) all hf (Nat.le_refl _) new
    refine ⟨.ref s.heap.objs.size, _, I1, rfl, ⟨_, x, y, rfl, I.hok.fresh (Nat.le_refl _), rfl, fun l hl => by rw [I.list_inj hl hqx]; exact hx, fun l hl => by rw [I.tuple_inj hl hqy]; exact hy⟩, ⟨z'', ?_, ⟨u, u2, ?_⟩, ?_, ?_⟩, fun c hcm => ?_⟩
    · exact sbne _ _ D.TIz (hk _ _ D.TIz D.TITO D.TIi1 D.TIi2 hTI)
    · exact sbne _ _ D.TOz TO'
    · exact s1'.1.at fun o q => sbne _ o D.i1z q
    · exact s2'.1.at fun o q => sbne _ o D.i2z q
    · have hlt : c < s.heap.objs.size := by
        rcases five hcm with rfl | rfl | rfl | rfl | rfl
        · exact hzl
        · exact Heap.lt_size hTI
        · exact Heap.lt_size hTO
        · exact Heap.lt_size h1.choose_spec.1
        · exact Heap.lt_size h2.choose_spec.1
      rw [upd_ne (Nat.ne_of_lt hlt)]
      exact (hf c hcm).1
  done := by
    intro X hP hw hK hc i pins s σ H E I hf st hg
    subst hP hw hK
    obtain ⟨hz, hTI, ⟨x0, y0, hTO⟩, h1, h2⟩ := st
    obtain ⟨xs, ys, hqx, hqy, hend⟩ := hg
    obtain ⟨its, rv, p, _⟩ := I.list hqx
    obtain ⟨its2, rv2, p2, _⟩ := I.tuple hqy
    have l1 := rv.length
    have l2 := rv2.length
    have hhd := I.ok.hd hc
    have fin : ∀ (h' : Heap) (tk : Nat), (∀ c o, c ≠ z → c ≠ TO → c ≠ i1 → c ≠ i2 → s.heap.get? c = some o → h'.get? c = some o) → (none : Option Value) = none ∧ Inv X pins σ H { s with heap := h', toks := tk } := fun h' tk hk =>
      ⟨rfl, I.turnedL (t' := tk) (ch := [z, TI, TO, i1, i2]) (fun c o hb q => by
        simp only [List.mem_cons, List.not_mem_nil, or_false, not_or] at hb
        exact hk c o hb.1 hb.2.2.1 hb.2.2.2.1 hb.2.2.2.2 q) hf⟩
    by_cases c1 : its.length ≤ i
    · have e1 : its.toArray[i]? = none := by simp; omega
      by_cases c2 : its2.length ≤ i
      · have e2 : its2.toArray[i]? = none := by simp; omega
        exact wpAny_pyNext_zipD2_end (ZipApart.sep D) (Draws.lstEnd (A := X.A.in1) hhd D.l1i1 e1) (Draws.tupEnd (A := X.A.in1) hhd D.l2i2 e2) hz hTI hTO ⟨rfl, h1, p.isList⟩ ⟨rfl, h2, p2⟩ (Nat.le_refl _) (Nat.le_refl _) (.inl rfl) fin
      · exact wpAny_pyNext_zipD2_end (ZipApart.sep D) (Draws.lstEnd (A := X.A.in1) hhd D.l1i1 e1) (PySem.Draws.tuple (A := X.A.in1) hhd i2 b D.l2i2 its2.toArray) hz hTI hTO ⟨rfl, h1, p.isList⟩ ⟨h2, p2⟩ (Nat.le_refl _) (by simp; omega) (.inl rfl) fin
    · have c2 : its2.length ≤ i := by omega
      have e2 : its2.toArray[i]? = none := by simp; omega
      exact wpAny_pyNext_zipD2_end (ZipApart.sep D) (PySem.Draws.list (A := X.A.in1) hhd i1 a D.l1i1 its.toArray) (Draws.tupEnd (A := X.A.in1) hhd D.l2i2 e2) hz hTI hTO ⟨h1, p.isList⟩ ⟨rfl, h2, p2⟩ (by simp; omega) (Nat.le_refl _) (.inr rfl) fin
  self := fun A i s Q E st h => wpAny_pyIter_zip st.1 h
def iZipM (K : PySem.W.Frag) (ta : TA) : TI := fun σ H R => ta σ H fun vs H1 => ∃ a b xs ys, vs = [.ref a, .ref b] ∧ SqL K H1 a xs ∧ SqT K H1 b ys ∧ R (ItzM K a b) H1
theorem pi_zipM {X : Cx} {e e2 : Expr} {ta : TA} {p pos tpos : Pos} {elts : List Expr} {kk : Nat} (hg : Gl X "zip") (hm : X.mg "zip" = none) (ha : PA X [e, e2] ta)
    (hs : starEach [e, e2] X.env = (false, eval e X.env) :: starEach [e2] X.env := by rfl) (hpl : (backTo pos (starEach [e2] X.env)).any (·.1) = false := by rfl) :
    PI X (.Tuple elts kk tpos) (.Call (.Name "zip" p) [e, e2] [] pos) (iZipM X.K ta) := by
  refine ⟨fun pins s σ H R I h => ?_⟩
  refine Call_ (ld_blt I hg hm PyProof.Rows.boot_zip (PyProof.Rows.callWith_type1 (thn (ha.run pos pins s σ H _ I h) fun us s1 ⟨vs, H1, I1, r1, a, b, xs, ys, ex, hqx, hqy, q⟩ => ?_) hs hpl))
  subst ex
  cases r1 with
  | cons r rr =>
    cases rr with
    | cons r' rr =>
      cases rr
      cases r
      cases r'
      obtain ⟨its, rv, p1, _⟩ := I1.list hqx
      obtain ⟨its2, rv2, p2, _⟩ := I1.tuple hqy
      have lb : b < s1.heap.objs.size := by
        obtain ⟨o2, ho2, _⟩ := id p2
        exact Heap.lt_size ho2
      refine zip_begins2 (begins_list a its.toArray) (begins_tuple b its2.toArray) p1.isList p2 fun h' hz hTI hTO g1 g2 hsz hk => wpAny_pyIter_zip hz ?_
      have I2 : Inv X pins σ H1 { s1 with heap := h' } := I1.kept (t' := s1.toks) hk
      refine ⟨s1.heap.objs.size + 4, [s1.heap.objs.size + 4, s1.heap.objs.size + 2, s1.heap.objs.size + 3, s1.heap.objs.size, s1.heap.objs.size + 1], _, _, H1, rfl, I2, turn_zipM (PySem.W.ktu_apart s1.heap.objs.size a b p1.lt lb), ⟨hz, hTI, ⟨_, _, hTO⟩, ⟨_, g1, rfl, rfl⟩, ⟨_, g2, rfl, rfl⟩⟩, fun c hcm => ?_, q⟩
      have hle : s1.heap.objs.size ≤ c := by
        rcases five hcm with rfl | rfl | rfl | rfl | rfl <;> omega
      exact I1.fpOk hle (I1.hok.fresh hle)
section
variable {X : Cx} {B : Bk} {pos : Pos}
theorem itr_zm {G : Hp} {a b : Addr} {vs ws : List V} {xs ys : List D} (h : SqP B.K G a vs) (r : RpAll B.K G vs xs) (h' : SqTP B.K G b ws) (r' : RpAll B.K G ws ys) : ItR B (ItzM B.K a b) G (zipD xs ys) where
  go := fun G1 H1 F1 τ1 sm k i x e => by
    obtain ⟨y, z, ey, ez, rfl⟩ := zip_get e
    obtain ⟨v, ev, rv⟩ := r.getD ey
    obtain ⟨u, eu, ru⟩ := r'.getD ez
    have hq := (same_sqp (sm.trans k.same) h).sql
    have hq' := same_seqT (sm.trans k.same) h'
    refine ⟨⟨vs, ws, v, u, hq, hq', ev, eu⟩, fun w H2 ⟨T, x', y', e2, hT, e3, hx, hy⟩ => ?_⟩
    have hx := hx vs hq
    have hy := hy ws hq'
    rw [ev] at hx
    rw [eu] at hy
    cases hx
    cases hy
    subst e2 e3
    exact new_pair k hT (rv.mono sm) (ru.mono sm)
  stop := fun G1 H1 F1 τ1 sm k i hi => by
    rw [zip_len] at hi
    have h1 := r.length
    have h2 := r'.length
    exact ⟨vs, ws, (same_sqp (sm.trans k.same) h).sql, same_seqT (sm.trans k.same) h', by omega⟩
def kZm {T : Type} (Q : List D → T → Prop) (rs : List SV) (τ : T) : Prop := ∃ xs ys, rs = [.d (.list xs), .d (.tuple ys)] ∧ Q (zipD xs ys) τ
def dZipM {T : Type} (ta : WA T) : WI T := fun env τ Q => ta env τ (kZm Q)
theorem dZipM_k {T : Type} (ta : WA T) (env : List SV) (τ : T) (Q : List D → T → Prop) : dZipM ta env τ Q = ta env τ (kZm Q) := rfl
theorem kZm_1 {T : Type} {Q : List D → T → Prop} {xs ys : List D} {τ : T} : kZm Q [.d (.list xs), .d (.tuple ys)] τ = Q (zipD xs ys) τ := propext ⟨fun ⟨a, b, e, h⟩ => by cases e; exact h, fun h => ⟨_, _, rfl, h⟩⟩
theorem di_zipM (hK : X.K = B.K) {e e2 : Expr} {ta : WA B.T} {p tpos : Pos} {elts : List Expr} {kk : Nat} (hg : Gl X "zip") (hm : X.mg "zip" = none) (ha : PA X [e, e2] (liftA B ta))
    (hs : starEach [e, e2] X.env = (false, eval e X.env) :: starEach [e2] X.env := by rfl) (hpl : (backTo pos (starEach [e2] X.env)).any (·.1) = false := by rfl) :
    PI X (.Tuple elts kk tpos) (.Call (.Name "zip" p) [e, e2] [] pos) (liftI B (dZipM ta)) :=
  pi_imp (pi_zipM hg hm ha hs hpl) fun σ H R z9 => ex53 z9 fun G F env τ Qd s t k => ⟨G, F, env, τ, _, s, t, fun rs τ1 G1 F1 H1 vs f1 r1 ⟨xs, ys, e, q⟩ => by
    rw [hK]
    subst e
    obtain ⟨v, w, e1, r, r'⟩ := r1.two
    subst e1
    obtain ⟨_, _, e3, h', a'⟩ := rtup r'
    subst e3
    match r with
    | .lst h a => exact ⟨_, _, _, _, rfl, (same_sqp f1.k.same h).sql, same_seqT f1.k.same h', k _ _ _ _ _ _ f1 (itr_zm h a h' a') q⟩⟩
end
end Z
namespace Z
open PySem L2
/-! the simplest steps of a reading -/
/-! the simplest steps of a reading -/
local macro_rules | `(tactic| walk_at "y") => do
  let xs ← ("dFld_k dSetF_k dMake_k dMeth_k dSetN_k dAppF_k dMmF_k dChain3_k kD0_s kD1_int kD3_int kD5_int gSplit_k dFldE_k dDix_k dVs_c dVs_0 dExtT_k kExtT_1 kExT_1 dIsi2_k kIsi2B_k kTy2_s dAsgL_k kUnl_1 kUnl_2 kUnl2_1 dCnt_k kCnt1_1 kCnt1_2 kCnt1_3 dNewD_k dUpdD_k kUpd0_1 dSrtD_k kSrt0_1 dNe0_k kNe0_1 dCallV_k dCallVX_k dRg_k kRgA kRgB_k dNil3_k dRevT_k kRevT_k gSumA_t gSumA_l gSumA_ol gSumA_vw dGIndex_k gAbs_i dMnD_k dCallX_k kCallX dIsX_k dLam_k dRaise_k dLenSet_k kLenSet dRev_k kRev_1 kRev_2 kRev_3 gReprE_e gReprE_s gReprE_i gReprE_b gReprE_n gReprE_l gReprE_t gReprE_ol gReprE_vw gBits_k dRng3_k kAu_i kAug_1 gTupC_k gLstC_k kSe_1 gIn_sf gIn_st gIn_tf gIn_tt flatD_none flatD_int flatD_str flatD_bool List.any_cons List.any_nil Bool.or_false dOwn_k kOw_1 kOw_2 kOw_3 kEx_1 kExt_1 dExt_k kSI4_1 kSI3_1 kSI2_1 kSI1 kSetI_1 dSetI_k kEn_k dEnum_k kEn2_l kEn2_t dEnum2_k kZp_l kZp_u dZip_k gMulA_i gMulA_s dVar_k dC_k dRaw_k dOp_k dT_k kChB_t kChB_f dChain_k dTru_k kAndT_t kAndT_f kOrT_t kOrT_f dAndT_k dOrT_k dNotT_k dAnd_k dOr_k dNot_k kIf_t kIf_f dIf_k dNil_k dCons_k dTup_k dLst_k dCB_k dCall_k dNext_k dSeq_k dBreak_k dCont_k dNever_k dDrop_k dRet_k dRetN_k kIfS_t kIfS_f dIfS_k dSet_k dAsg_k dPar_k kPar_k dApp_k dFrz_k dSeqI_k dRng1_k dRng2_k kR1_k kR2_k dFor_k dLc_k dYes_k kTurn_t kTurn_f dSl_k dNoPart_k dPart_k dUn_k dEmp_k dM1_k kM1_k gI_k gAdd_i gAdd_s gAdd_t gAdd_ll gAdd_lo gAdd_ol gAdd_oo gAdd_vo gAdd_ov gAdd_vv gEq_k gNe_k gCmp_i gCmp_s gIsN_d gNotN_d gIsN_ol gNotN_ol gIsN_vw gNotN_vw gIx_s gIx_t gIx_l gIx_ol gIx_vw gSl_s gSl_t gSl_l gSl_ol gSl_vw gLen_s gLen_t gLen_l gLen_ol gLen_vw gIsi_k gAll_d gAll_ol gAny_d gAny_ol gInt_i gInt_b gInt_s gII_k gNeg_k gJoin_ol gJoin_l gJoin_t gJoin_vw gMul_i gMul_s kG kV_1 kV_2 kV_3 kOp2 kOp1 kTb_1 kTb_2 kT kCh3 kCh4 kCh2 kCh1 kTru kNotT kAndB_1 kAndB_2 kAndB_3 kOrB_1 kOrB_2 kOrB_3 kAnd kOr kNotB_1 kNotB_2 kNot kCo2 kCoB_1 kCoB_2 kCo kTupB_1 kTupB_2 kTup kLstB_1 kLstB_2 kLst kCB kCall kNx kDrop kRet kStB_1 kStB_2 kSet kEnv_1 kEnv_2 kAsB_1 kAsB_2 kAsg kApD_1 kApD_2 kAp kApp_1 kFrz_1 kFrz_2 kSqB_1 kSqB_2 kSq kFor kOl kLc kDt_1 kDt_2 kDat kTgB_1 kTgB_2 kFtB_1 kFtB_2 kSl3 kSl2 kSl1 kPtB_1 kPtB_2 kPt kUn kM2 kEq2_1 kEq2_2 kEq1_1 kEq1_2 kIsB_1 kIsB_2 kAtS_1 kAtS_2 kAt_1 kAt_2 kTy_1 kTy_2 kBls_1 kBls_2 kJn_1 kJn_2 SV.arg SV.dat? SV.sto SV.out SV.dr SV.truth SV.lst? SV.seqd? SV.now? SV.seq? SV.isN SV.size? SV.tyN SV.bl? SV.int? tyNs_none tyNs_bool tyNs_int tyNs_str tyNs_list tyNs_tuple tyNs_dict tyCs isTs szs noC_t eqOks_none_none eqOks_none_int eqOks_int_none eqOks_none_bool eqOks_bool_none eqOks_none_str eqOks_str_none eqOks_int_int eqOks_bool_bool eqOks_str_str eqOks_int_str eqOks_str_int eqOks_bool_str eqOks_str_bool eqv_int eqv_bool eqv_none_none eqv_none_bool eqv_none_int eqv_none_str eqv_none_list eqv_none_tuple eqv_bool_none eqv_bool_str eqv_bool_list eqv_bool_tuple eqv_int_none eqv_int_str eqv_int_list eqv_int_tuple eqv_str_none eqv_str_bool eqv_str_int eqv_str_list eqv_str_tuple eqv_list_none eqv_list_bool eqv_list_int eqv_list_str eqv_list_tuple eqv_tuple_none eqv_tuple_bool eqv_tuple_int eqv_tuple_str eqv_tuple_list allD tgE tgEs wipeE List.map_cons List.map_nil List.getElem?_cons_zero List.getElem?_cons_succ List.set_cons_zero List.set_cons_succ List.all_cons List.all_nil Bool.and_true Bool.and_self Option.map_some Option.bind_some List.cons_append List.nil_append List.length_cons List.length_nil List.replicate Nat.reduceAdd Nat.reduceSub Nat.reduceLeDiff Nat.reduceMul Bool.not_true Bool.not_false Bool.false_xor Bool.true_xor true_and and_true beq_self_eq_true eq_self decide_true Bool.true_and Bool.false_and Nat.zero_le List.isEmpty_cons List.isEmpty_nil".splitOn " ").toArray.mapM fun s => `(Lean.Parser.Tactic.simpLemma| $(Lean.mkIdent s.toName):ident)
  `(tactic| simp only [$xs,*])
/-! the simplest steps of a reading -/
local macro_rules | `(tactic| walk_at "x") => `(tactic| (try walk_at "y"))
local macro_rules | `(tactic| walk_at "i") => `(tactic| (refine kAt_of (by decide) (by simp only [List.length_cons, List.length_nil]; decide) (fun z ez _ => ?_); cases ez; walk_at "x"))
local macro_rules | `(tactic| walk_at "len") => `(tactic| first | (rintro ⟨e, _⟩; rw [e]; rfl) | (rintro ⟨_, h⟩; revert h; walk_at "len"))
local macro_rules | `(tactic| walk_at "v") => `(tactic| (intro rs τ Q; walk_at "len"))
local macro_rules | `(tactic| walk_at "u") => `(tactic| (intro rs τ Q Ed; walk_at "len"))
local macro_rules | `(tactic| walk_at "w") => `(tactic| (rintro rs τ Q ⟨_, h, _⟩; revert h; walk_at "len"))
def plainD : D → Prop
  | .dict (_ :: _) => False
  | _ => True
/-- plain, and if a tuple, of plain things -/
def pl (x : D) : Prop := plainD x ∧ ∀ xs, x = .tuple xs → ∀ y ∈ xs, plainD y
def isWholeD (x : D) (a b : Int) : Bool := match x with
  | .int i => decide (a ≤ i) && decide (i ≤ b)
  | _ => false
def isNumD (x : D) : Bool := isWholeD x (-20) 20
def isBoolD (x : D) : Bool := match x with
  | .bool _ => true
  | _ => false
def isPartD (i : Nat) (x : D) : Bool := if i < 2 then isNumD x else if i < 4 then isWholeD x 0 8 else if i < 7 then isBoolD x else isWholeD x (-160) 160
def partsFrom (i : Nat) : List D → Bool
  | [] => true
  | x :: r => isPartD i x && partsFrom (i + 1) r
theorem parts_zip (xs : List D) : ∀ i, ((xs.zipIdx i).all fun p => isPartD p.2 p.1) = partsFrom i xs := by
  induction xs with
  | nil => exact fun i => rfl
  | cons x r ih => exact fun i => by rw [List.zipIdx_cons, List.all_cons, ih]; rfl
def shD (y : D) : Prop := y.canLay0 = true ∧ y.depth ≤ 60
theorem canAll_mem : ∀ {xs : List D}, PyData.canLayAll0 xs = true → ∀ y ∈ xs, y.canLay0 = true
  | x :: r, h, y, hy => by
    rw [PyData.canLayAll0, Bool.and_eq_true] at h
    rcases List.mem_cons.mp hy with rfl | hy
    · exact h.1
    · exact canAll_mem h.2 y hy
theorem depAll_mem : ∀ {xs : List D}, ∀ y ∈ xs, y.depth ≤ PyData.depthAll xs
  | x :: r, y, hy => by
    rw [PyData.depthAll]
    rcases List.mem_cons.mp hy with rfl | hy
    · exact Nat.le_max_left _ _
    · exact Nat.le_trans (depAll_mem y hy) (Nat.le_max_right _ _)
theorem whole_int {y : D} {a b : Int} (h : isWholeD y a b = true) : ∃ n, y = .int n ∧ a ≤ n ∧ n ≤ b := by
  cases y with
  | int n =>
    simp only [isWholeD, Bool.and_eq_true, decide_eq_true_eq] at h
    exact ⟨n, rfl, h⟩
  | _ => simp [isWholeD] at h
theorem kAndB_and {T : Type} {u : W T} {env : List SV} {Q : SV → T → Prop} {τ : T} {b c : Bool} (h : b = true → ∀ Q' : SV → T → Prop, Q' (.d (.bool c)) τ → u env τ Q') (q : Q (.d (.bool (b && c))) τ) : kAndB u env Q (.d (.bool b)) τ (some b) := by
  cases b with
  | true => exact h rfl Q q
  | false => exact q
theorem mem2 {x a b : D} (h : x ∈ [a, b]) : x = a ∨ x = b := by simpa using h
theorem nine {xs : List D} (h : xs.length = 9) : ∃ x0 x1 x2 x3 x4 x5 x6 x7 x8, xs = [x0, x1, x2, x3, x4, x5, x6, x7, x8] := by
  match xs, h with
  | [x0, x1, x2, x3, x4, x5, x6, x7, x8], _ => exact ⟨x0, x1, x2, x3, x4, x5, x6, x7, x8, rfl⟩
def isKindD (x : D) : Bool := match x with
  | .tuple xs => decide (xs.length = 9) && partsFrom 0 xs
  | _ => false
def FF_is_whole : FW T2 := fun rs τ Q => ∃ x a b, rs = [.d x, .d (.int a), .d (.int b)] ∧ plainD x ∧ Q (.d (.bool (isWholeD x a b))) τ
def FF_is_number : FW T2 := fun rs τ Q => ∃ x, rs = [.d x] ∧ plainD x ∧ Q (.d (.bool (isNumD x))) τ
def FF_is_part : FW T2 := fun rs τ Q => ∃ (i : Nat) (x : D), rs = [.d (.int i), .d x] ∧ i < 9 ∧ plainD x ∧ Q (.d (.bool (isPartD i x))) τ
def FF_is_kind : FW T2 := fun rs τ Q => ∃ x, rs = [.d x] ∧ pl x ∧ Q (.d (.bool (isKindD x))) τ
def tI (ns : List Int) : D := .tuple (ns.map .int)
def kD (lo hi fe ma : Int) (u d n : Bool) (fr to : Int) : D := .tuple [.int lo, .int hi, .int fe, .int ma, .bool u, .bool d, .bool n, .int fr, .int to]
/-- what may be looked at, and told -/
def fineD (x : D) : Prop := pl x ∧ (x = .dict [] ∨ Rb 10 100000 x)
theorem fineD.sh {x : D} (h : fineD x) : ∀ xs, x = .tuple xs → ∀ y ∈ xs, shD y := by
  rintro xs rfl y hy
  rcases h.2 with h | h
  · cases h
  · have h1 := h.lay
    have h2 := h.dp
    rw [PyData.canLay0] at h1
    rw [PyData.depth] at h2
    exact ⟨canAll_mem h1 y hy, by have := depAll_mem y hy; omega⟩
def rbB (m w : Nat) (d : D) : Bool := d.canLay0 && d.showable && decide (d.depth ≤ m) && PyData.intsShort 64 d && decide (d.weight ≤ w)
theorem Rb.dec {m w : Nat} {d : D} (h : rbB m w d = true) : Rb m w d := by
  unfold rbB at h
  rw [Bool.and_eq_true, Bool.and_eq_true, Bool.and_eq_true, Bool.and_eq_true, decide_eq_true_eq, decide_eq_true_eq] at h
  exact ⟨h.1.1.1.1, h.1.1.1.2, h.1.1.2, h.1.2, h.2⟩
/-- a scalar -/
def scD (x : D) : Prop := plainD x ∧ Rb 0 200 x
theorem scD.to {x : D} (h : scD x) : plainD x ∧ Rb 1 300 x := ⟨h.1, h.2.le (by decide) (by decide)⟩
def geB (a b : Int) : Bool := decide (b ≤ a)
def leB (a b : Int) : Bool := decide (a ≤ b)
def neB (a b : Int) : Bool := !decide (a = b)
def hasB (lo hi fe ma : Int) (u d n : Bool) (fr to : Int) (ns : List Int) : Bool :=
  ((decide (fe ≤ (ns.length : Int)) && decide ((ns.length : Int) ≤ ma)) && (decide (fr ≤ ns.sum) && decide (ns.sum ≤ to))) && (ns.all fun x => decide (lo ≤ x) && decide (x ≤ hi)) && ((!n || pairsB neB ns) && ((pairsB leB ns || !u) && (pairsB geB ns || !d)))
/-! ### lots of sums as bits: bit s + 160 of a number stands for the sum s -/
/-- the number b holds the sum s -/
def hasS (b : Int) (s : Int) : Prop := 0 ≤ b ∧ 0 ≤ s + 160 ∧ b.toNat.testBit (s + 160).toNat = true
/-! ### lots of numbers, plain -/
/-- l is a lot of the numbers ns: all alike where lvl, no two alike where unl -/
def IsLot (ns : List Int) (lvl unl : Bool) (l : List Int) : Prop := (∀ x ∈ l, x ∈ ns) ∧ (unl = true → l.Nodup) ∧ (lvl = true → ∀ x ∈ l, ∀ y ∈ l, x = y)
theorem IsLot.nil {ns : List Int} {lvl unl : Bool} : IsLot ns lvl unl [] := ⟨by simp, by simp, by simp⟩
theorem sum_perm {l k : List Int} (h : l.Perm k) : l.sum = k.sum := by
  induction h with
  | nil => rfl
  | cons x _ ih => rw [List.sum_cons, List.sum_cons, ih]
  | swap x y l => simp only [List.sum_cons]; omega
  | trans _ _ a b => rw [a, b]
/-! ### rows of a kind and lots; the least kind of some rows -/
theorem pairs_pw {r : Int → Int → Bool} : ∀ {l : List Int}, pairsB r l = true ↔ l.Pairwise fun a b => r a b = true
  | [] => by simp [pairsB]
  | a :: l => by
    rw [pairsB, Bool.and_eq_true, pairs_pw, List.pairwise_cons, List.all_eq_true]
theorem pairs_ne {l : List Int} : pairsB neB l = true ↔ l.Nodup := by
  rw [pairs_pw]
  unfold neB List.Nodup
  simp
def span (lo hi : Int) : List Int := (List.range (hi + 1 - lo).toNat).map fun (i : Nat) => lo + (i : Int)
theorem mem_span {lo hi x : Int} : x ∈ span lo hi ↔ lo ≤ x ∧ x ≤ hi := by
  unfold span
  rw [List.mem_map]
  constructor
  · rintro ⟨i, hi, rfl⟩
    rw [List.mem_range] at hi
    omega
  · rintro ⟨h1, h2⟩
    exact ⟨(x - lo).toNat, by rw [List.mem_range]; omega, by omega⟩
/-- the rows of a kind -/
def RowOf (lo hi fe ma : Int) (u d n : Bool) (fr to : Int) (r : List Int) : Prop :=
  (fe ≤ (r.length : Int) ∧ (r.length : Int) ≤ ma) ∧ (fr ≤ r.sum ∧ r.sum ≤ to) ∧ (∀ x ∈ r, lo ≤ x ∧ x ≤ hi) ∧ (n = true → r.Nodup) ∧ (u = true → pairsB leB r = true) ∧ (d = true → pairsB geB r = true)
theorem rowOf_has {lo hi fe ma : Int} {u d n : Bool} {fr to : Int} {r : List Int} : hasB lo hi fe ma u d n fr to r = true ↔ RowOf lo hi fe ma u d n fr to r := by
  unfold hasB RowOf
  simp only [Bool.and_eq_true, decide_eq_true_eq, List.all_eq_true, Bool.or_eq_true, Bool.not_eq_true']
  rw [pairs_ne]
  have e : ∀ (b : Bool) (p : Prop), (p ∨ b = false) ↔ (b = true → p) := by
    intro b p
    cases b <;> simp
  have e2 : ∀ (b : Bool) (p : Prop), (b = false ∨ p) ↔ (b = true → p) := by
    intro b p
    cases b <;> simp
  rw [e, e, e2]
  constructor
  · rintro ⟨⟨⟨h1, h2⟩, h3⟩, h4, h5, h6⟩
    exact ⟨h1, h2, h3, h4, h5, h6⟩
  · rintro ⟨h1, h2, h3, h4, h5, h6⟩
    exact ⟨⟨⟨h1, h2⟩, h3⟩, h4, h5, h6⟩
theorem leB_same {l : List Int} (h : ∀ x ∈ l, ∀ y ∈ l, x = y) : pairsB leB l = true := pairs_pw.mpr (List.pairwise_of_forall_mem_list fun x hx y hy => by unfold leB; rw [h x hx y hy]; simp)
theorem geB_same {l : List Int} (h : ∀ x ∈ l, ∀ y ∈ l, x = y) : pairsB geB l = true := pairs_pw.mpr (List.pairwise_of_forall_mem_list fun x hx y hy => by unfold geB; rw [h x hx y hy]; simp)
/-- the rising and the falling row of a lot -/
def up (l : List Int) : List Int := l.mergeSort leB
theorem up_perm (l : List Int) : (up l).Perm l := List.mergeSort_perm l leB
theorem up_le (l : List Int) : pairsB leB (up l) = true := by
  rw [pairs_pw]
  refine List.pairwise_mergeSort (le := leB) (fun a b c h1 h2 => ?_) (fun a b => ?_) l
  · have h1 := of_decide_eq_true h1
    have h2 := of_decide_eq_true h2
    exact decide_eq_true (by omega)
  · unfold leB
    simp only [Bool.or_eq_true, decide_eq_true_eq]
    omega
theorem dn_ge (l : List Int) : pairsB geB (up l).reverse = true := by
  rw [pairs_pw, List.pairwise_reverse]
  exact (pairs_pw.mp (up_le l)).imp fun {a b} z => by
    unfold geB leB at *
    exact z
theorem dn_perm (l : List Int) : ((up l).reverse).Perm l := (List.reverse_perm _).trans (up_perm l)
section
variable {lo hi fe ma : Int} {u d n : Bool} {fr to : Int}
/-- any order of a lot that the words let -/
theorem rowOf_perm {l r : List Int} (hl : IsLot (span lo hi) (u && d) n l) (hp : r.Perm l) (h1 : fe ≤ (l.length : Int) ∧ (l.length : Int) ≤ ma) (h2 : fr ≤ l.sum ∧ l.sum ≤ to)
    (hu : u = true → d = false → pairsB leB r = true) (hd : d = true → u = false → pairsB geB r = true) : RowOf lo hi fe ma u d n fr to r := by
  have hs : (u && d) = true → ∀ x ∈ r, ∀ y ∈ r, x = y := fun e x hx y hy => hl.2.2 e x (hp.mem_iff.mp hx) y (hp.mem_iff.mp hy)
  refine ⟨by rw [hp.length_eq]; exact h1, by rw [sum_perm hp]; exact h2, fun x hx => mem_span.mp (hl.1 x (hp.mem_iff.mp hx)), fun hn => hp.nodup_iff.mpr (hl.2.1 hn), fun e => ?_, fun e => ?_⟩
  · cases ed : d with
    | true => exact leB_same (hs (by rw [e, ed]; rfl))
    | false => exact hu e ed
  · cases eu : u with
    | true => exact geB_same (hs (by rw [e, eu]; rfl))
    | false => exact hd e eu
/-- a lot laid in a row -/
theorem lay {l : List Int} (hl : IsLot (span lo hi) (u && d) n l) (h1 : fe ≤ (l.length : Int) ∧ (l.length : Int) ≤ ma) (h2 : fr ≤ l.sum ∧ l.sum ≤ to) : ∃ r, r.Perm l ∧ RowOf lo hi fe ma u d n fr to r := by
  cases hu : u with
  | true =>
    refine ⟨up l, up_perm l, ?_⟩
    rw [← hu]
    exact rowOf_perm hl (up_perm l) h1 h2 (fun _ _ => up_le l) (fun _ e => by rw [hu] at e; cases e)
  | false =>
    refine ⟨(up l).reverse, dn_perm l, ?_⟩
    rw [← hu]
    exact rowOf_perm hl (dn_perm l) h1 h2 (fun e => by rw [hu] at e; cases e) (fun _ _ => dn_ge l)
end
/-- two numbers, alike or unlike -/
def Two (alike : Bool) (r : List Int) : Prop := if alike = true then ¬ r.Nodup else ∃ x ∈ r, ∃ y ∈ r, x ≠ y
/-! the least kind -/
structure IsLeast (R : List Int → Prop) (lo hi fe ma : Int) (u d n : Bool) (fr to : Int) : Prop where
  lo : ((∀ r, R r → r = []) ∧ lo = 0) ∨ (∃ r, R r ∧ lo ∈ r) ∧ ∀ r, R r → ∀ x ∈ r, lo ≤ x
  hi : ((∀ r, R r → r = []) ∧ hi = 0) ∨ (∃ r, R r ∧ hi ∈ r) ∧ ∀ r, R r → ∀ x ∈ r, x ≤ hi
  fe : (∃ r, R r ∧ (r.length : Int) = fe) ∧ ∀ r, R r → fe ≤ (r.length : Int)
  ma : (∃ r, R r ∧ (r.length : Int) = ma) ∧ ∀ r, R r → (r.length : Int) ≤ ma
  u : u = true ↔ ∀ r, R r → pairsB leB r = true
  d : d = true ↔ ∀ r, R r → pairsB geB r = true
  n : n = true ↔ ∀ r, R r → r.Nodup
  fr : (∃ r, R r ∧ r.sum = fr) ∧ ∀ r, R r → fr ≤ r.sum
  to : (∃ r, R r ∧ r.sum = to) ∧ ∀ r, R r → r.sum ≤ to
def nothingD : D := kD 20 (-20) 8 0 true true true 160 (-160)
def LeastD (R : List Int → Prop) (k : D) : Prop := ((∀ r, ¬ R r) ∧ k = nothingD) ∨ ∃ lo hi fe ma u d n fr to, IsLeast R lo hi fe ma u d n fr to ∧ k = kD lo hi fe ma u d n fr to
/-! ### the narrow form -/
/-! ### the least and the greatest sum that bits tell; what two have in common -/
/-! ### sums of lots of numbers side by side -/
/-! ### texts of kinds: unlike kinds have unlike texts -/
def codes (s : Str) : List Nat := s.cps.toList
theorem codes_inj {a b : Str} (h : codes a = codes b) : a = b := by
  cases a
  cases b
  congr 1
  exact Array.toList_inj.mp h
theorem ixN_at {n j : Nat} (hj : j < n) : ixN n (j : Int) = some j := by
  have h0 : (0 : Int) ≤ (j : Int) := Int.natCast_nonneg j
  have h1 : (j : Int) < (n : Int) := Int.ofNat_lt.mpr hj
  simp [ixN, h0, h1]
theorem atI_lst {α : Type} (xs : List α) (x : α) : atI (xs ++ [x]) (-1) = some x := by
  have e : ixN (xs ++ [x]).length (-1) = some xs.length := by
    unfold ixN
    rw [if_neg (by decide), if_pos (by rw [List.length_append, List.length_singleton]; omega), List.length_append, List.length_singleton]
    congr 1
    omega
  unfold atI
  rw [e]
  show (xs ++ [x])[xs.length]? = _
  rw [List.getElem?_append_right (Nat.le_refl _), Nat.sub_self]
  rfl
/-! the law's own look -/
/-! kinds as they are -/
structure Kd where
  lo : Int
  hi : Int
  fe : Int
  ma : Int
  u : Bool
  d : Bool
  n : Bool
  fr : Int
  to : Int
def Kd.D (k : Kd) : D := kD k.lo k.hi k.fe k.ma k.u k.d k.n k.fr k.to
def Kd.R (k : Kd) : List Int → Prop := RowOf k.lo k.hi k.fe k.ma k.u k.d k.n k.fr k.to
def Kd.B (k : Kd) : List Int → Bool := hasB k.lo k.hi k.fe k.ma k.u k.d k.n k.fr k.to
theorem Kd.rb {k : Kd} {r : List Int} : k.B r = true ↔ k.R r := rowOf_has
theorem str_eqv (a b : Str) : PyData.eqv (.str a) (.str b) = decide (a = b) := by
  rw [eqv_str, decide_eq_decide]
  exact ⟨fun h => codes_inj h, fun h => by rw [h]⟩
structure FormOf (k g : Kd) : Prop where
  kind : isKindD g.D = true
  rows : ∀ r, g.R r ↔ k.R r
  least : LeastD k.R g.D
  parts : (∀ r, ¬ k.R r) ∨ IsLeast k.R g.lo g.hi g.fe g.ma g.u g.d g.n g.fr g.to
theorem Kd.inj {k j : Kd} (h : k.D = j.D) : k = j := by
  cases k
  cases j
  simp only [Kd.D, kD, PyData.tuple.injEq, List.cons.injEq, PyData.int.injEq, PyData.bool.injEq, and_true] at h
  obtain ⟨rfl, rfl, rfl, rfl, rfl, rfl, rfl, rfl, rfl⟩ := h
  rfl
/-! ### whether the rows of a least kind are of another kind -/
/-! ### rows of both kinds, rows of either -/
def noneK : Kd := ⟨20, -20, 8, 0, true, true, true, 160, -160⟩
theorem kAt_at {xs : List D} {k : Nat} {a : D} {Q : SV → Prop} (h : xs[k]? = some a) : kAt Q (atI xs (k : Int)) = Q (.d a) := by
  have hk := (List.getElem?_eq_some_iff.mp h).1
  unfold atI
  rw [ixN_at hk]
  show kAt Q (xs[k]?) = _
  rw [h]
  rfl
section
variable {a0 a1 a2 a3 a4 a5 a6 a7 a8 : D} {t : List D} {Q : SV → Prop}
theorem at_0 : kAt Q (atI (a0 :: t) 0) = Q (.d a0) := kAt_at (k := 0) rfl
theorem at_1 : kAt Q (atI (a0 :: a1 :: t) 1) = Q (.d a1) := kAt_at (k := 1) rfl
theorem at_2 : kAt Q (atI (a0 :: a1 :: a2 :: t) 2) = Q (.d a2) := kAt_at (k := 2) rfl
theorem at_3 : kAt Q (atI (a0 :: a1 :: a2 :: a3 :: t) 3) = Q (.d a3) := kAt_at (k := 3) rfl
theorem at_4 : kAt Q (atI (a0 :: a1 :: a2 :: a3 :: a4 :: t) 4) = Q (.d a4) := kAt_at (k := 4) rfl
theorem at_5 : kAt Q (atI (a0 :: a1 :: a2 :: a3 :: a4 :: a5 :: t) 5) = Q (.d a5) := kAt_at (k := 5) rfl
theorem at_6 : kAt Q (atI (a0 :: a1 :: a2 :: a3 :: a4 :: a5 :: a6 :: t) 6) = Q (.d a6) := kAt_at (k := 6) rfl
theorem at_7 : kAt Q (atI (a0 :: a1 :: a2 :: a3 :: a4 :: a5 :: a6 :: a7 :: t) 7) = Q (.d a7) := kAt_at (k := 7) rfl
theorem at_8 : kAt Q (atI (a0 :: a1 :: a2 :: a3 :: a4 :: a5 :: a6 :: a7 :: a8 :: t) 8) = Q (.d a8) := kAt_at (k := 8) rfl
end
section
variable {g : Kd} {Q : SV → Prop}
theorem kdIx_0 : gIx (.d g.D) (.d (.int 0)) Q = Q (.d (.int g.lo)) := gIx_t.trans at_0
theorem kdIx_1 : gIx (.d g.D) (.d (.int 1)) Q = Q (.d (.int g.hi)) := gIx_t.trans at_1
theorem kdIx_2 : gIx (.d g.D) (.d (.int 2)) Q = Q (.d (.int g.fe)) := gIx_t.trans at_2
theorem kdIx_3 : gIx (.d g.D) (.d (.int 3)) Q = Q (.d (.int g.ma)) := gIx_t.trans at_3
theorem kdIx_4 : gIx (.d g.D) (.d (.int 4)) Q = Q (.d (.bool g.u)) := gIx_t.trans at_4
theorem kdIx_5 : gIx (.d g.D) (.d (.int 5)) Q = Q (.d (.bool g.d)) := gIx_t.trans at_5
theorem kdIx_6 : gIx (.d g.D) (.d (.int 6)) Q = Q (.d (.bool g.n)) := gIx_t.trans at_6
theorem kdIx_7 : gIx (.d g.D) (.d (.int 7)) Q = Q (.d (.int g.fr)) := gIx_t.trans at_7
theorem kdIx_8 : gIx (.d g.D) (.d (.int 8)) Q = Q (.d (.int g.to)) := gIx_t.trans at_8
theorem kdSl_2 : gSl (.d g.D) none (some 2) Q = Q (.d (.tuple [.int g.lo, .int g.hi])) := rfl
end
section
variable {r : List Int} {Q : SV → Prop}
theorem gSumA_tI : gSumA [.d (tI r)] Q = Q (.d (.int r.sum)) := gSumA_t
theorem gLen_tI : gLen [.d (tI r)] Q = Q (.d (.int r.length)) := by rw [tI, gLen_t, List.length_map]
theorem seq_tI : SV.seq? (.d (tI r)) = some (r.map .int) := rfl
theorem seqd_1 {xs : List D} : SV.seqd? (.d (.list xs)) = some xs := rfl
theorem seqd_2 {xs : List D} : SV.seqd? (.d (.tuple xs)) = some xs := rfl
theorem seqd_3 {xs : List D} : SV.seqd? (.ol xs) = some xs := rfl
theorem seqd_4 {xs : List D} : SV.seqd? (.vw xs) = some xs := rfl
theorem seq_1 {xs : List D} : SV.seq? (.d (.list xs)) = some xs := rfl
theorem seq_2 {xs : List D} : SV.seq? (.d (.tuple xs)) = some xs := rfl
theorem seq_3 {z : Str} : SV.seq? (.d (.str z)) = some (z.cps.toList.map sg) := rfl
theorem seq_4 {xs : List D} : SV.seq? (.ol xs) = some xs := rfl
theorem seqd_tI : SV.seqd? (.d (tI r)) = some (r.map .int) := rfl
theorem lenSet_tI {T : Type} {Q : SV → T → Prop} {τ : T} : kLenSet Q (.d (tI r)) τ = (r.length ≤ 4000 ∧ Q (.d (.int ((dis r).length : Nat))) τ) := by
  unfold kLenSet
  have e : tupI? (.d (tI r)) = some r := by
    show ints? (r.map .int) = some r
    exact ints_map r
  rw [e]
  simp only [Option.some.injEq, exists_eq_left']
end
/-! tables of numbers -/
/-! the least kind of the rows of several kinds -/
def allK : Kd := ⟨-20, 20, 0, 8, false, false, false, -160, 160⟩
theorem allK_lit : PyData.tuple [.int (-20), .int 20, .int 0, .int 8, .bool false, .bool false, .bool false, .int (-160), .int 160] = allK.D := rfl
theorem noneK_lit : PyData.tuple [.int 20, .int (-20), .int 8, .int 0, .bool true, .bool true, .bool true, .int 160, .int (-160)] = noneK.D := rfl
theorem kdTo_0 {g : Kd} {Q : SV → Prop} : gSl (.d g.D) none (some 0) Q = Q (.d (.tuple [])) := rfl
theorem kdTo_1 {g : Kd} {Q : SV → Prop} : gSl (.d g.D) none (some 1) Q = Q (.d (.tuple [.int g.lo])) := rfl
theorem kdTo_3 {g : Kd} {Q : SV → Prop} : gSl (.d g.D) none (some 3) Q = Q (.d (.tuple [.int g.lo, .int g.hi, .int g.fe])) := rfl
theorem kdTo_4 {g : Kd} {Q : SV → Prop} : gSl (.d g.D) none (some 4) Q = Q (.d (.tuple [.int g.lo, .int g.hi, .int g.fe, .int g.ma])) := rfl
theorem kdTo_5 {g : Kd} {Q : SV → Prop} : gSl (.d g.D) none (some 5) Q = Q (.d (.tuple [.int g.lo, .int g.hi, .int g.fe, .int g.ma, .bool g.u])) := rfl
theorem kdTo_6 {g : Kd} {Q : SV → Prop} : gSl (.d g.D) none (some 6) Q = Q (.d (.tuple [.int g.lo, .int g.hi, .int g.fe, .int g.ma, .bool g.u, .bool g.d])) := rfl
theorem kdTo_7 {g : Kd} {Q : SV → Prop} : gSl (.d g.D) none (some 7) Q = Q (.d (.tuple [.int g.lo, .int g.hi, .int g.fe, .int g.ma, .bool g.u, .bool g.d, .bool g.n])) := rfl
theorem kdTo_8 {g : Kd} {Q : SV → Prop} : gSl (.d g.D) none (some 8) Q = Q (.d (.tuple [.int g.lo, .int g.hi, .int g.fe, .int g.ma, .bool g.u, .bool g.d, .bool g.n, .int g.fr])) := rfl
theorem kdFr_1 {g : Kd} {Q : SV → Prop} : gSl (.d g.D) (some 1) none Q = Q (.d (.tuple [.int g.hi, .int g.fe, .int g.ma, .bool g.u, .bool g.d, .bool g.n, .int g.fr, .int g.to])) := rfl
theorem kdFr_2 {g : Kd} {Q : SV → Prop} : gSl (.d g.D) (some 2) none Q = Q (.d (.tuple [.int g.fe, .int g.ma, .bool g.u, .bool g.d, .bool g.n, .int g.fr, .int g.to])) := rfl
theorem kdFr_3 {g : Kd} {Q : SV → Prop} : gSl (.d g.D) (some 3) none Q = Q (.d (.tuple [.int g.ma, .bool g.u, .bool g.d, .bool g.n, .int g.fr, .int g.to])) := rfl
theorem kdFr_4 {g : Kd} {Q : SV → Prop} : gSl (.d g.D) (some 4) none Q = Q (.d (.tuple [.bool g.u, .bool g.d, .bool g.n, .int g.fr, .int g.to])) := rfl
theorem kdFr_5 {g : Kd} {Q : SV → Prop} : gSl (.d g.D) (some 5) none Q = Q (.d (.tuple [.bool g.d, .bool g.n, .int g.fr, .int g.to])) := rfl
theorem kdFr_6 {g : Kd} {Q : SV → Prop} : gSl (.d g.D) (some 6) none Q = Q (.d (.tuple [.bool g.n, .int g.fr, .int g.to])) := rfl
theorem kdFr_7 {g : Kd} {Q : SV → Prop} : gSl (.d g.D) (some 7) none Q = Q (.d (.tuple [.int g.fr, .int g.to])) := rfl
theorem kdFr_8 {g : Kd} {Q : SV → Prop} : gSl (.d g.D) (some 8) none Q = Q (.d (.tuple [.int g.to])) := rfl
theorem kdFr_9 {g : Kd} {Q : SV → Prop} : gSl (.d g.D) (some 9) none Q = Q (.d (.tuple [])) := rfl
/-! ### operations of two rows -/
inductive Op2 where
  | join
  | put
  | into
def Op2.S : Op2 → Str
  | .join => "join"
  | .put => "put"
  | .into => "into"
/-! ### a kind's rows by how many numbers, laid together -/
def cellK (k : Kd) (m : Int) : Kd := ⟨k.lo, k.hi, m, m, k.u, k.d, k.n, k.fr, k.to⟩
theorem cellK_R {k : Kd} {m : Int} (h : k.fe ≤ m ∧ m ≤ k.ma) (r : List Int) : (cellK k m).R r ↔ k.R r ∧ (r.length : Int) = m := by
  constructor
  · rintro ⟨h1, h2⟩
    have h1 : m ≤ (r.length : Int) ∧ (r.length : Int) ≤ m := h1
    exact ⟨⟨⟨by omega, by omega⟩, h2⟩, by omega⟩
  · rintro ⟨⟨_, h2⟩, h3⟩
    exact ⟨⟨by show m ≤ _; omega, by show _ ≤ m; omega⟩, h2⟩
/-- the cells of a kind, up to m numbers -/
structure CellsOk (k : Kd) (m : Int) (gs : List Kd) : Prop where
  ok : ∀ g ∈ gs, ∃ n : Int, (k.fe ≤ n ∧ n ≤ k.ma ∧ n ≤ m) ∧ FormOf (cellK k n) g ∧ ∃ r, g.R r
  all : ∀ r, k.R r → (r.length : Int) ≤ m → ∃ g ∈ gs, g.R r
  len : gs.length ≤ 9
theorem CellsOk.rows {k : Kd} {m : Int} {gs : List Kd} (h : CellsOk k m gs) (r : List Int) : (∃ g ∈ gs, g.R r) ↔ k.R r ∧ (r.length : Int) ≤ m := by
  constructor
  · rintro ⟨g, hg, hr⟩
    obtain ⟨n, hn, hf, _⟩ := h.ok g hg
    have := (cellK_R ⟨hn.1, hn.2.1⟩ r).mp ((hf.rows r).mp hr)
    exact ⟨this.1, by omega⟩
  · rintro ⟨h1, h2⟩
    exact h.all r h1 h2
theorem CellsOk.cell {k : Kd} {m : Int} {gs : List Kd} (h : CellsOk k m gs) {g : Kd} (hg : g ∈ gs) : g.fe = g.ma ∧ isKindD g.D = true := by
  obtain ⟨n, hn, hf, r, hr⟩ := h.ok g hg
  have hr' := (hf.rows r).mp hr
  have hp := hf.parts.resolve_left fun z => z r hr'
  obtain ⟨⟨x, x1, x2⟩, _⟩ := hp.fe
  obtain ⟨⟨y, y1, y2⟩, _⟩ := hp.ma
  have e1 := ((cellK_R ⟨hn.1, hn.2.1⟩ x).mp x1).2
  have e2 := ((cellK_R ⟨hn.1, hn.2.1⟩ y).mp y1).2
  exact ⟨by omega, hf.kind⟩
/-! ### operations of one row -/
inductive Op1 where
  | turn | order | first | last | rest | least | most | many | sum
  | plus (n : Int)
  | frm (n : Int)
  | below (n : Int)
  deriving DecidableEq
def Op1.W : Op1 → Str
  | .turn => "turn" | .order => "order" | .first => "first" | .last => "last" | .rest => "rest" | .least => "least" | .most => "most" | .many => "many" | .sum => "sum"
  | .plus _ => "plus" | .frm _ => "from" | .below _ => "below"
def Op1.N : Op1 → List D
  | .plus n => [.int n] | .frm n => [.int n] | .below n => [.int n]
  | _ => []
def Op1.D (o : Op1) : D := .tuple (.str o.W :: o.N)
/-- the number of an operation is one -/
def Op1.In : Op1 → Prop
  | .plus n => -20 ≤ n ∧ n ≤ 20 | .frm n => -20 ≤ n ∧ n ≤ 20 | .below n => -20 ≤ n ∧ n ≤ 20
  | _ => True
/-! ### the other sign -/
/-! ### one number told -/
structure NarK (k : Kd) : Prop where
  kind : isKindD k.D = true
  least : IsLeast k.R k.lo k.hi k.fe k.ma k.u k.d k.n k.fr k.to
/-! ### rows of a narrow kind laid at will -/
theorem NarK.lay {k : Kd} {l r : List Int} (hl : IsLot (span k.lo k.hi) (k.u && k.d) k.n l) (hp : r.Perm l) (h1 : k.fe ≤ (l.length : Int) ∧ (l.length : Int) ≤ k.ma) (h2 : k.fr ≤ l.sum ∧ l.sum ≤ k.to) (hu : k.u = true → pairsB leB r = true) (hd : k.d = true → pairsB geB r = true) : k.R r :=
  rowOf_perm hl hp h1 h2 (fun e _ => hu e) (fun e _ => hd e)
/-! ### rows that are known by their lots -/
structure HullR (C R : List Int → Prop) (u d n : Bool) : Prop where
  perm : ∀ l k : List Int, l.Perm k → C l → C k
  rows : ∀ r, R r ↔ C r ∧ (u = true → pairsB leB r = true) ∧ (d = true → pairsB geB r = true)
  flat : (u && d) = false
  nd : n = true → ∀ l, C l → l.Nodup
structure HullV (C : List Int → Prop) (n : Bool) (sz : List Int) (bits : Int) (two likes : Bool) : Prop where
  sz : ∀ m, m ∈ sz ↔ ∃ l, C l ∧ (l.length : Int) = m
  b0 : 0 ≤ bits
  bits : ∀ s, hasS bits s ↔ ∃ l, C l ∧ l.sum = s
  two : two = true ↔ ∃ l, C l ∧ Two false l
  likes : n = false → (likes = true ↔ ∃ l, C l ∧ Two true l)
theorem HullR.laid {C R : List Int → Prop} {u d n : Bool} (h : HullR C R u d n) {l : List Int} (hl : C l) : ∃ r, R r ∧ r.Perm l := by
  cases hu : u with
  | true =>
    have hd : d = false := by
      have := h.flat
      rw [hu] at this
      exact this
    exact ⟨up l, (h.rows _).mpr ⟨h.perm _ _ (up_perm l).symm hl, fun _ => up_le l, fun e => by rw [hd] at e; cases e⟩, up_perm l⟩
  | false => exact ⟨(up l).reverse, (h.rows _).mpr ⟨h.perm _ _ (dn_perm l).symm hl, (fun e => by rw [hu] at e; cases e), fun _ => dn_ge l⟩, dn_perm l⟩
theorem HullV.nil {n : Bool} : HullV (fun _ => False) n [] 0 false false :=
  ⟨fun m => ⟨fun z => (by cases z), fun ⟨_, z, _⟩ => z.elim⟩, Int.le_refl _, fun s => ⟨fun z => absurd (z.2.2) (by simp), fun ⟨_, z, _⟩ => z.elim⟩, ⟨fun z => (by cases z), fun ⟨_, z, _⟩ => z.elim⟩, fun _ => ⟨fun z => (by cases z), fun ⟨_, z, _⟩ => z.elim⟩⟩
/-! ### all but the first one -/
/-! ### the numbers from one on -/
theorem gIx_tI {q : List Int} {i : Int} {Q : SV → Prop} : gIx (.d (tI q)) (.d (.int i)) Q = gIx (.d (.tuple (q.map .int))) (.d (.int i)) Q := rfl
def Op1.tag : Op1 → Nat
  | .turn => 0 | .order => 1 | .first => 2 | .last => 3 | .rest => 4 | .least => 5 | .most => 6 | .many => 7 | .sum => 8 | .plus _ => 9 | .frm _ => 10 | .below _ => 11
def tagW : Nat → Str
  | 0 => "turn"
  | 1 => "order"
  | 2 => "first"
  | 3 => "last"
  | 4 => "rest"
  | 5 => "least"
  | 6 => "most"
  | 7 => "many"
  | 8 => "sum"
  | 9 => "plus"
  | 10 => "from"
  | _ => "below"
theorem W_tag (o : Op1) : o.W = tagW o.tag := by cases o <;> rfl
theorem tag_lt (o : Op1) : o.tag < 12 := by cases o <;> simp [Op1.tag]
theorem evT_turn : ∀ t, t < 12 → decide (tagW t = Str.ofString "turn") = (t == 0) := by decide
theorem evS_turn : ∀ t, t < 12 → decide (Str.ofString "turn" = tagW t) = (t == 0) := by decide
theorem evW_turn (o : Op1) : PyData.eqv (.str o.W) (.str (Str.ofString "turn")) = (o.tag == 0) := by rw [str_eqv, W_tag]; exact evT_turn _ (tag_lt o)
theorem evV_turn (o : Op1) : PyData.eqv (.str (Str.ofString "turn")) (.str o.W) = (o.tag == 0) := by rw [str_eqv, W_tag]; exact evS_turn _ (tag_lt o)
theorem evT_order : ∀ t, t < 12 → decide (tagW t = Str.ofString "order") = (t == 1) := by decide
theorem evS_order : ∀ t, t < 12 → decide (Str.ofString "order" = tagW t) = (t == 1) := by decide
theorem evW_order (o : Op1) : PyData.eqv (.str o.W) (.str (Str.ofString "order")) = (o.tag == 1) := by rw [str_eqv, W_tag]; exact evT_order _ (tag_lt o)
theorem evV_order (o : Op1) : PyData.eqv (.str (Str.ofString "order")) (.str o.W) = (o.tag == 1) := by rw [str_eqv, W_tag]; exact evS_order _ (tag_lt o)
theorem evT_first : ∀ t, t < 12 → decide (tagW t = Str.ofString "first") = (t == 2) := by decide
theorem evS_first : ∀ t, t < 12 → decide (Str.ofString "first" = tagW t) = (t == 2) := by decide
theorem evW_first (o : Op1) : PyData.eqv (.str o.W) (.str (Str.ofString "first")) = (o.tag == 2) := by rw [str_eqv, W_tag]; exact evT_first _ (tag_lt o)
theorem evV_first (o : Op1) : PyData.eqv (.str (Str.ofString "first")) (.str o.W) = (o.tag == 2) := by rw [str_eqv, W_tag]; exact evS_first _ (tag_lt o)
theorem evT_last : ∀ t, t < 12 → decide (tagW t = Str.ofString "last") = (t == 3) := by decide
theorem evS_last : ∀ t, t < 12 → decide (Str.ofString "last" = tagW t) = (t == 3) := by decide
theorem evW_last (o : Op1) : PyData.eqv (.str o.W) (.str (Str.ofString "last")) = (o.tag == 3) := by rw [str_eqv, W_tag]; exact evT_last _ (tag_lt o)
theorem evV_last (o : Op1) : PyData.eqv (.str (Str.ofString "last")) (.str o.W) = (o.tag == 3) := by rw [str_eqv, W_tag]; exact evS_last _ (tag_lt o)
theorem evT_rest : ∀ t, t < 12 → decide (tagW t = Str.ofString "rest") = (t == 4) := by decide
theorem evS_rest : ∀ t, t < 12 → decide (Str.ofString "rest" = tagW t) = (t == 4) := by decide
theorem evW_rest (o : Op1) : PyData.eqv (.str o.W) (.str (Str.ofString "rest")) = (o.tag == 4) := by rw [str_eqv, W_tag]; exact evT_rest _ (tag_lt o)
theorem evV_rest (o : Op1) : PyData.eqv (.str (Str.ofString "rest")) (.str o.W) = (o.tag == 4) := by rw [str_eqv, W_tag]; exact evS_rest _ (tag_lt o)
theorem evT_least : ∀ t, t < 12 → decide (tagW t = Str.ofString "least") = (t == 5) := by decide
theorem evS_least : ∀ t, t < 12 → decide (Str.ofString "least" = tagW t) = (t == 5) := by decide
theorem evW_least (o : Op1) : PyData.eqv (.str o.W) (.str (Str.ofString "least")) = (o.tag == 5) := by rw [str_eqv, W_tag]; exact evT_least _ (tag_lt o)
theorem evV_least (o : Op1) : PyData.eqv (.str (Str.ofString "least")) (.str o.W) = (o.tag == 5) := by rw [str_eqv, W_tag]; exact evS_least _ (tag_lt o)
theorem evT_most : ∀ t, t < 12 → decide (tagW t = Str.ofString "most") = (t == 6) := by decide
theorem evS_most : ∀ t, t < 12 → decide (Str.ofString "most" = tagW t) = (t == 6) := by decide
theorem evW_most (o : Op1) : PyData.eqv (.str o.W) (.str (Str.ofString "most")) = (o.tag == 6) := by rw [str_eqv, W_tag]; exact evT_most _ (tag_lt o)
theorem evV_most (o : Op1) : PyData.eqv (.str (Str.ofString "most")) (.str o.W) = (o.tag == 6) := by rw [str_eqv, W_tag]; exact evS_most _ (tag_lt o)
theorem evT_many : ∀ t, t < 12 → decide (tagW t = Str.ofString "many") = (t == 7) := by decide
theorem evS_many : ∀ t, t < 12 → decide (Str.ofString "many" = tagW t) = (t == 7) := by decide
theorem evW_many (o : Op1) : PyData.eqv (.str o.W) (.str (Str.ofString "many")) = (o.tag == 7) := by rw [str_eqv, W_tag]; exact evT_many _ (tag_lt o)
theorem evV_many (o : Op1) : PyData.eqv (.str (Str.ofString "many")) (.str o.W) = (o.tag == 7) := by rw [str_eqv, W_tag]; exact evS_many _ (tag_lt o)
theorem evT_sum : ∀ t, t < 12 → decide (tagW t = Str.ofString "sum") = (t == 8) := by decide
theorem evS_sum : ∀ t, t < 12 → decide (Str.ofString "sum" = tagW t) = (t == 8) := by decide
theorem evW_sum (o : Op1) : PyData.eqv (.str o.W) (.str (Str.ofString "sum")) = (o.tag == 8) := by rw [str_eqv, W_tag]; exact evT_sum _ (tag_lt o)
theorem evV_sum (o : Op1) : PyData.eqv (.str (Str.ofString "sum")) (.str o.W) = (o.tag == 8) := by rw [str_eqv, W_tag]; exact evS_sum _ (tag_lt o)
theorem evT_plus : ∀ t, t < 12 → decide (tagW t = Str.ofString "plus") = (t == 9) := by decide
theorem evS_plus : ∀ t, t < 12 → decide (Str.ofString "plus" = tagW t) = (t == 9) := by decide
theorem evW_plus (o : Op1) : PyData.eqv (.str o.W) (.str (Str.ofString "plus")) = (o.tag == 9) := by rw [str_eqv, W_tag]; exact evT_plus _ (tag_lt o)
theorem evV_plus (o : Op1) : PyData.eqv (.str (Str.ofString "plus")) (.str o.W) = (o.tag == 9) := by rw [str_eqv, W_tag]; exact evS_plus _ (tag_lt o)
theorem evT_from : ∀ t, t < 12 → decide (tagW t = Str.ofString "from") = (t == 10) := by decide
theorem evS_from : ∀ t, t < 12 → decide (Str.ofString "from" = tagW t) = (t == 10) := by decide
theorem evW_from (o : Op1) : PyData.eqv (.str o.W) (.str (Str.ofString "from")) = (o.tag == 10) := by rw [str_eqv, W_tag]; exact evT_from _ (tag_lt o)
theorem evV_from (o : Op1) : PyData.eqv (.str (Str.ofString "from")) (.str o.W) = (o.tag == 10) := by rw [str_eqv, W_tag]; exact evS_from _ (tag_lt o)
theorem evT_below : ∀ t, t < 12 → decide (tagW t = Str.ofString "below") = (t == 11) := by decide
theorem evS_below : ∀ t, t < 12 → decide (Str.ofString "below" = tagW t) = (t == 11) := by decide
theorem evW_below (o : Op1) : PyData.eqv (.str o.W) (.str (Str.ofString "below")) = (o.tag == 11) := by rw [str_eqv, W_tag]; exact evT_below _ (tag_lt o)
theorem evV_below (o : Op1) : PyData.eqv (.str (Str.ofString "below")) (.str o.W) = (o.tag == 11) := by rw [str_eqv, W_tag]; exact evS_below _ (tag_lt o)
theorem evT_join : ∀ t, t < 12 → decide (tagW t = Str.ofString "join") = false := by decide
theorem evS_join : ∀ t, t < 12 → decide (Str.ofString "join" = tagW t) = false := by decide
theorem evW_join (o : Op1) : PyData.eqv (.str o.W) (.str (Str.ofString "join")) = false := by rw [str_eqv, W_tag]; exact evT_join _ (tag_lt o)
theorem evV_join (o : Op1) : PyData.eqv (.str (Str.ofString "join")) (.str o.W) = false := by rw [str_eqv, W_tag]; exact evS_join _ (tag_lt o)
theorem evT_put : ∀ t, t < 12 → decide (tagW t = Str.ofString "put") = false := by decide
theorem evS_put : ∀ t, t < 12 → decide (Str.ofString "put" = tagW t) = false := by decide
theorem evW_put (o : Op1) : PyData.eqv (.str o.W) (.str (Str.ofString "put")) = false := by rw [str_eqv, W_tag]; exact evT_put _ (tag_lt o)
theorem evV_put (o : Op1) : PyData.eqv (.str (Str.ofString "put")) (.str o.W) = false := by rw [str_eqv, W_tag]; exact evS_put _ (tag_lt o)
theorem evT_into : ∀ t, t < 12 → decide (tagW t = Str.ofString "into") = false := by decide
theorem evS_into : ∀ t, t < 12 → decide (Str.ofString "into" = tagW t) = false := by decide
theorem evW_into (o : Op1) : PyData.eqv (.str o.W) (.str (Str.ofString "into")) = false := by rw [str_eqv, W_tag]; exact evT_into _ (tag_lt o)
theorem evV_into (o : Op1) : PyData.eqv (.str (Str.ofString "into")) (.str o.W) = false := by rw [str_eqv, W_tag]; exact evS_into _ (tag_lt o)
theorem op_args (o : Op1) (h : o.In) : (o.N = [] ∧ o.tag < 9) ∨ ∃ n, o.N = [.int n] ∧ (-20 ≤ n ∧ n ≤ 20) ∧ 9 ≤ o.tag ∧ o.tag < 12 := by
  cases o <;> first | exact .inl ⟨rfl, by decide⟩ | exact .inr ⟨_, rfl, h, by show 9 ≤ 9; decide, by show 9 < 12; decide⟩ | exact .inr ⟨_, rfl, h, by show 9 ≤ 10; decide, by show 10 < 12; decide⟩ | exact .inr ⟨_, rfl, h, by show 9 ≤ 11; decide, by show 11 < 12; decide⟩
theorem T_first : Op1.first.tag = 2 := rfl
theorem T_last : Op1.last.tag = 3 := rfl
theorem T_least : Op1.least.tag = 5 := rfl
theorem T_most : Op1.most.tag = 6 := rfl
theorem kdSl_27 {g : Kd} {Q : SV → Prop} : gSl (.d g.D) (some 2) (some 7) Q = Q (.d (.tuple [.int g.fe, .int g.ma, .bool g.u, .bool g.d, .bool g.n])) := rfl
def aloneK : Kd := ⟨0, 0, 0, 0, true, true, true, 0, 0⟩
theorem aloneK_lit : PyData.tuple [.int 0, .int 0, .int 0, .int 0, .bool true, .bool true, .bool true, .int 0, .int 0] = aloneK.D := rfl
theorem N_plus {n : Int} : (Op1.plus n).N = [.int n] := rfl
theorem N_frm {n : Int} : (Op1.frm n).N = [.int n] := rfl
theorem N_below {n : Int} : (Op1.below n).N = [.int n] := rfl
theorem ev_rr : PyData.eqv (.str (Str.ofString "row")) (.str (Str.ofString "row")) = true := by rw [str_eqv]; decide
theorem ev_fr : PyData.eqv (.str (Str.ofString "fault")) (.str (Str.ofString "row")) = false := by rw [str_eqv]; decide
def isL : List Int ⊕ Str → Bool
  | .inl _ => true
  | .inr _ => false
/-- the word of the fault that an operation may have -/
def Op1.F : Op1 → Str
  | .plus _ => "far"
  | .sum => "far"
  | _ => "none"
local macro_rules | `(tactic| walk_at "Y") => do
  let xs ← ("allK_lit gSumA_tI gLen_tI seq_tI seqd_tI lenSet_tI Int.reduceEq Int.reduceLT Int.reduceLE Int.reduceAdd Int.reduceSub decide_false Bool.or_true Bool.false_or szl kForN_e kLcY_e kLcN_e lcW_n forW_n at_0 at_1 at_2 at_3 at_4 at_5 at_6 at_7 at_8 kdIx_0 kdIx_1 kdIx_2 kdIx_3 kdIx_4 kdIx_5 kdIx_6 kdIx_7 kdIx_8 kdSl_2 noneK_lit kdTo_0 kdTo_1 kdTo_3 kdTo_4 kdTo_5 kdTo_6 kdTo_7 kdTo_8 kdFr_1 kdFr_2 kdFr_3 kdFr_4 kdFr_5 kdFr_6 kdFr_7 kdFr_8 kdFr_9 dRepr2_k gIx_tI dDisp2_k dNilE_k kNilE_1 kNilE_2 dRg1_k kRg1B_k dFld_k dSetF_k dMake_k dMeth_k dSetN_k dAppF_k dMmF_k dChain3_k kD0_s kD1_int kD3_int kD5_int gSplit_k dFldE_k dDix_k dVs_c dVs_0 dExtT_k kExtT_1 kExT_1 dIsi2_k kIsi2B_k kTy2_s evW_turn evV_turn evW_order evV_order evW_first evV_first evW_last evV_last evW_rest evV_rest evW_least evV_least evW_most evV_most evW_many evV_many evW_sum evV_sum evW_plus evV_plus evW_from evV_from evW_below evV_below evW_join evV_join evW_put evV_put evW_into evV_into ev_rr ev_fr T_first T_last T_least T_most Nat.reduceBEq kdSl_27 aloneK_lit N_plus N_frm N_below ev15_let_let ev15_let_part ev15_let_going ev15_let_tell ev15_part_let ev15_part_part ev15_part_going ev15_part_tell ev15_going_let ev15_going_part ev15_going_going ev15_going_tell ev15_tell_let ev15_tell_part ev15_tell_going ev15_tell_tell c15_2e2 c15_5e5 c15_3e3 c15_2l2 c15_5l2 c15_2e5 c15_3l2 c28_0e0 c28_0e1 c28_0e2 c28_0e3 c28_0e4 c28_0e5 c28_0e6 c28_0e9 c28_1e0 c28_1e1 c28_1e2 c28_1e3 c28_1e4 c28_1e5 c28_1e6 c28_1e9 c28_2e0 c28_2e1 c28_2e3 c28_2e4 c28_2e6 c28_2e9 c28_3e0 c28_3e1 c28_3e2 c28_3e4 c28_3e5 c28_3e6 c28_3e9 c28_4e0 c28_4e1 c28_4e2 c28_4e3 c28_4e4 c28_4e5 c28_4e6 c28_4e9 c28_5e0 c28_5e1 c28_5e2 c28_5e3 c28_5e4 c28_5e6 c28_5e9 c28_6e0 c28_6e1 c28_6e2 c28_6e3 c28_6e4 c28_6e5 c28_6e6 c28_6e9 c28_7e0 c28_7e1 c28_7e2 c28_7e3 c28_7e4 c28_7e5 c28_7e6 c28_7e9 c28_0l2 c28_1l2 dCel_k kCel_1 dLenC_k dIxC_k dPopC_k dSetC_k dPar3_k kPr3_1 dInM_k kInM_1 dIxM_k gEq0_t gEq0_l gEq0_o gEq0_v dZipM_k kZm_1 dPopA_k dAppP_k dAsgL_k kUnl_1 kUnl_2 kUnl2_1 dCnt_k kCnt1_1 kCnt1_2 kCnt1_3 dNewD_k dUpdD_k kUpd0_1 dSrtD_k kSrt0_1 dNe0_k kNe0_1 dCallV_k dCallVX_k dRg_k kRgA kRgB_k dNil3_k dRevT_k kRevT_k gSumA_t gSumA_l gSumA_ol gSumA_vw dGIndex_k gAbs_i dMnD_k dCallX_k kCallX dIsX_k dLam_k dRaise_k dLenSet_k dRev_k kRev_1 kRev_2 kRev_3 gReprE_e gReprE_s gReprE_i gReprE_b gReprE_n gReprE_l gReprE_t gReprE_ol gReprE_vw gBits_k dRng3_k kAu_i kAug_1 gTupC_k gLstC_k kSe_1 gIn_sf gIn_st gIn_tf gIn_tt flatD_none flatD_int flatD_str flatD_bool List.any_cons List.any_nil Bool.or_false dOwn_k kOw_1 kOw_2 kOw_3 kEx_1 kExt_1 dExt_k kSI4_1 kSI3_1 kSI2_1 kSI1 kSetI_1 dSetI_k kEn_k dEnum_k kEn2_l kEn2_t dEnum2_k kZp_l kZp_u dZip_k gMulA_i gMulA_s dVar_k dC_k dRaw_k dOp_k dT_k kChB_t kChB_f dChain_k dTru_k kAndT_t kAndT_f kOrT_t kOrT_f dAndT_k dOrT_k dNotT_k dAnd_k dOr_k dNot_k kIf_t kIf_f dIf_k dNil_k dCons_k dTup_k dLst_k dCB_k dCall_k dNext_k dSeq_k dBreak_k dCont_k dNever_k dDrop_k dRet_k dRetN_k kIfS_t kIfS_f dIfS_k dSet_k dAsg_k dPar_k kPar_k dApp_k dFrz_k dSeqI_k dRng1_k dRng2_k kR1_k kR2_k dFor_k dLc_k dYes_k kTurn_t kTurn_f dSl_k dNoPart_k dPart_k dUn_k dEmp_k dM1_k kM1_k gI_k gAdd_i gAdd_s gAdd_t gAdd_ll gAdd_lo gAdd_ol gAdd_oo gAdd_vo gAdd_ov gAdd_vv gEq_k gNe_k gCmp_i gCmp_s gIsN_d gNotN_d gIsN_ol gNotN_ol gIsN_vw gNotN_vw gIx_s gIx_t gIx_l gIx_ol gIx_vw gSl_s gSl_t gSl_l gSl_ol gSl_vw gLen_s gLen_t gLen_l gLen_ol gLen_vw gIsi_k gAll_d gAll_ol gAny_d gAny_ol gInt_i gInt_b gInt_s gII_k gNeg_k gJoin_ol gJoin_l gJoin_t gJoin_vw gMul_i gMul_s kG kV_1 kV_2 kV_3 kOp2 kOp1 kTb_1 kTb_2 kT kCh3 kCh4 kCh2 kCh1 kTru kNotT kAndB_1 kAndB_2 kAndB_3 kOrB_1 kOrB_2 kOrB_3 kAnd kOr kNotB_1 kNotB_2 kNot kCo2 kCoB_1 kCoB_2 kCo kTupB_1 kTupB_2 kTup kLstB_1 kLstB_2 kLst kCB kCall kNx kDrop kRet kStB_1 kStB_2 kSet kEnv_1 kEnv_2 kAsB_1 kAsB_2 kAsg kApD_1 kApD_2 kAp kApp_1 kFrz_1 kFrz_2 kSqB_1 kSqB_2 kSq kFor kOl kLc kDt_1 kDt_2 kDat kTgB_1 kTgB_2 kFtB_1 kFtB_2 kSl3 kSl2 kSl1 kPtB_1 kPtB_2 kPt kUn kM2 kEq2_1 kEq2_2 kEq1_1 kEq1_2 kIsB_1 kIsB_2 kAtS_1 kAtS_2 kAt_1 kAt_2 kTy_1 kTy_2 kBls_1 kBls_2 kJn_1 kJn_2 SV.arg SV.dat? SV.sto SV.out SV.dr SV.truth SV.lst? seqd_1 seqd_2 seqd_3 seqd_4 SV.now? seq_1 seq_2 seq_3 seq_4 SV.isN SV.size? SV.tyN SV.bl? SV.int? tyNs_none tyNs_bool tyNs_int tyNs_str tyNs_list tyNs_tuple tyNs_dict tyCs isTs szs noC_t eqOks_none_none eqOks_none_int eqOks_int_none eqOks_none_bool eqOks_bool_none eqOks_none_str eqOks_str_none eqOks_int_int eqOks_bool_bool eqOks_str_str eqOks_int_str eqOks_str_int eqOks_bool_str eqOks_str_bool eqv_int eqv_bool eqv_none_none eqv_none_bool eqv_none_int eqv_none_str eqv_none_list eqv_none_tuple eqv_bool_none eqv_bool_str eqv_bool_list eqv_bool_tuple eqv_int_none eqv_int_str eqv_int_list eqv_int_tuple eqv_str_none eqv_str_bool eqv_str_int eqv_str_list eqv_str_tuple eqv_list_none eqv_list_bool eqv_list_int eqv_list_str eqv_list_tuple eqv_tuple_none eqv_tuple_bool eqv_tuple_int eqv_tuple_str eqv_tuple_list allD tgE tgEs wipeE List.map_cons List.map_nil List.getElem?_cons_zero List.getElem?_cons_succ List.set_cons_zero List.set_cons_succ List.all_cons List.all_nil Bool.and_true Bool.and_self Option.map_some Option.bind_some List.cons_append List.nil_append List.length_cons List.length_nil List.replicate Nat.reduceAdd Nat.reduceSub Nat.reduceLeDiff Nat.reduceMul Bool.not_true Bool.not_false Bool.false_xor Bool.true_xor true_and and_true beq_self_eq_true eq_self decide_true Bool.true_and Bool.false_and Nat.zero_le List.isEmpty_cons List.isEmpty_nil".splitOn " ").toArray.mapM fun s => `(Lean.Parser.Tactic.simpLemma| $(Lean.mkIdent s.toName):ident)
  `(tactic| simp only [$xs,*])
/-! the simplest steps of a reading -/
local macro_rules | `(tactic| walk_at "X") => `(tactic| (try walk_at "Y"))
local macro_rules | `(tactic| walk_at "I") => `(tactic| (refine kAt_of (by decide) (by simp only [List.length_cons, List.length_nil]; decide) (fun z ez _ => ?_); cases ez; walk_at "X"))
def top (i : Nat) : Stmt := PySem.Challenge.pw_rowkinds_k28_programs_by_form.main.body.getD i (.Pass ⟨0, 0, 0, 0⟩)
abbrev s_is_whole : Stmt := top 3
theorem sc_is_whole : FnScope ["thing", "least", "most"] ["thing", "least", "most"] (defScope s_is_whole) :=
  ⟨rfl, rfl, rfl, by decide +kernel, rfl, by decide +kernel, by decide +kernel⟩
abbrev s_is_name : Stmt := top 4
theorem sc_is_name : FnScope ["thing", "letter"] ["thing"] (defScope s_is_name) :=
  ⟨rfl, rfl, rfl, by decide +kernel, rfl, by decide +kernel, by decide +kernel⟩
abbrev s_is_number : Stmt := top 8
theorem sc_is_number : FnScope ["thing"] ["thing"] (defScope s_is_number) :=
  ⟨rfl, rfl, rfl, by decide +kernel, rfl, by decide +kernel, by decide +kernel⟩
abbrev s_is_deed : Stmt := top 13
theorem sc_is_deed : FnScope ["thing", "many"] ["thing", "many"] (defScope s_is_deed) :=
  ⟨rfl, rfl, rfl, by decide +kernel, rfl, by decide +kernel, by decide +kernel⟩
abbrev s_is_part_kinds : Stmt := top 17
theorem sc_is_part_kinds : FnScope ["at", "thing"] ["at", "thing"] (defScope s_is_part_kinds) :=
  ⟨rfl, rfl, rfl, by decide +kernel, rfl, by decide +kernel, by decide +kernel⟩
abbrev s_is_kind : Stmt := top 19
theorem sc_is_kind : FnScope ["thing", "at", "part"] ["thing"] (defScope s_is_kind) :=
  ⟨rfl, rfl, rfl, by decide +kernel, rfl, by decide +kernel, by decide +kernel⟩
abbrev s_are_names : Stmt := top 27
theorem sc_are_names : FnScope ["thing", "many", "one"] ["thing", "many"] (defScope s_are_names) :=
  ⟨rfl, rfl, rfl, by decide +kernel, rfl, by decide +kernel, by decide +kernel⟩
abbrev s_is_let : Stmt := top 28
theorem sc_is_let : FnScope ["thing", "many"] ["thing"] (defScope s_is_let) :=
  ⟨rfl, rfl, rfl, by decide +kernel, rfl, by decide +kernel, by decide +kernel⟩
abbrev s_is_part_terms : Stmt := top 29
theorem sc_is_part_terms : FnScope ["thing", "least", "most"] ["thing"] (defScope s_is_part_terms) :=
  ⟨rfl, rfl, rfl, by decide +kernel, rfl, by decide +kernel, by decide +kernel⟩
abbrev s_is_going : Stmt := top 31
theorem sc_is_going : FnScope ["thing"] ["thing"] (defScope s_is_going) :=
  ⟨rfl, rfl, rfl, by decide +kernel, rfl, by decide +kernel, by decide +kernel⟩
abbrev s_has_form : Stmt := top 32
theorem sc_has_form : FnScope ["thing"] ["thing"] (defScope s_has_form) :=
  ⟨rfl, rfl, rfl, by decide +kernel, rfl, by decide +kernel, by decide +kernel⟩
abbrev s_terms_of : Stmt := top 33
theorem sc_terms_of : FnScope ["term"] ["term"] (defScope s_terms_of) :=
  ⟨rfl, rfl, rfl, by decide +kernel, rfl, by decide +kernel, by decide +kernel⟩
abbrev s_places_of : Stmt := top 34
theorem sc_places_of : FnScope ["term", "found", "waiting"] ["term"] (defScope s_places_of) :=
  ⟨rfl, rfl, rfl, by decide +kernel, rfl, by decide +kernel, by decide +kernel⟩
abbrev s_is_whole_term : Stmt := top 35
theorem sc_is_whole_term : FnScope ["thing", "many", "waiting", "one", "deep", "goings", "part"] ["thing"] (defScope s_is_whole_term) :=
  ⟨rfl, rfl, rfl, by decide +kernel, rfl, by decide +kernel, by decide +kernel⟩
abbrev s_is_param : Stmt := top 36
theorem sc_is_param : FnScope ["thing"] ["thing"] (defScope s_is_param) :=
  ⟨rfl, rfl, rfl, by decide +kernel, rfl, by decide +kernel, by decide +kernel⟩
abbrev s_is_program : Stmt := top 37
theorem sc_is_program : FnScope ["thing", "pair"] ["thing"] (defScope s_is_program) :=
  ⟨rfl, rfl, rfl, by decide +kernel, rfl, by decide +kernel, by decide +kernel⟩
abbrev s__law_begin : Stmt := top 39
theorem sc__law_begin : FnScope ["_law_script"] ["_law_script"] (defScope s__law_begin) :=
  ⟨rfl, rfl, rfl, by decide +kernel, rfl, by decide +kernel, by decide +kernel⟩
abbrev s__law_mixed : Stmt := top 40
theorem sc__law_mixed : FnScope ["_law_cell", "_law_k", "_law_number"] ["_law_cell", "_law_k"] (defScope s__law_mixed) :=
  ⟨rfl, rfl, rfl, by decide +kernel, rfl, by decide +kernel, by decide +kernel⟩
abbrev s__law_next : Stmt := top 41
theorem sc__law_next : FnScope ["_law_draw", "_law_many_here", "_law_found", "_law_cells", "_law_cell"] ["_law_draw", "_law_many_here"] (defScope s__law_next) :=
  ⟨rfl, rfl, rfl, by decide +kernel, rfl, by decide +kernel, by decide +kernel⟩
abbrev s__law_deed : Stmt := top 42
theorem sc__law_deed : FnScope ["_law_draw", "_law_many_here", "_law_words", "_law_word"] ["_law_draw", "_law_many_here"] (defScope s__law_deed) :=
  ⟨rfl, rfl, rfl, by decide +kernel, rfl, by decide +kernel, by decide +kernel⟩
abbrev s__law_kind : Stmt := top 43
theorem sc__law_kind : FnScope ["_law_draw", "_law_usual", "_law_found", "_law_k", "_law_at", "_law_one_here"] ["_law_draw"] (defScope s__law_kind) :=
  ⟨rfl, rfl, rfl, by decide +kernel, rfl, by decide +kernel, by decide +kernel⟩
abbrev s__law_names : Stmt := top 44
theorem sc__law_names : FnScope ["_law_draw", "_law_many_here", "_law_letters", "_law_some", "_law_found", "_law_word", "_law_size", "_law_left", "_law_k", "_law_one_here"] ["_law_draw", "_law_many_here"] (defScope s__law_names) :=
  ⟨rfl, rfl, rfl, by decide +kernel, rfl, by decide +kernel, by decide +kernel⟩
abbrev s__law_one : Stmt := top 45
theorem sc__law_one : FnScope ["_law_draw", "_law_known", "_law_many_here"] ["_law_draw", "_law_known"] (defScope s__law_one) :=
  ⟨rfl, rfl, rfl, by decide +kernel, rfl, by decide +kernel, by decide +kernel⟩
abbrev s__law_term : Stmt := top 46
theorem sc__law_term : FnScope ["_law_draw", "_law_room", "_law_deep", "_law_known", "_law_fresh", "_law_is_inner", "_law_way", "_law_name", "_law_number", "_law_held", "_law_row", "_law_first", "_law_inner_here", "_law_rest", "_law_test", "_law_one_here", "_law_many_here", "_law_names_here", "_law_k"] ["_law_draw", "_law_room", "_law_deep", "_law_known", "_law_fresh", "_law_is_inner"] (defScope s__law_term) :=
  ⟨rfl, rfl, rfl, by decide +kernel, rfl, by decide +kernel, by decide +kernel⟩
abbrev s__law_within : Stmt := top 47
theorem sc__law_within : FnScope ["_law_term_here"] ["_law_term_here"] (defScope s__law_within) :=
  ⟨rfl, rfl, rfl, by decide +kernel, rfl, by decide +kernel, by decide +kernel⟩
abbrev s__law_places : Stmt := top 48
theorem sc__law_places : FnScope ["_law_term_here", "_law_found", "_law_part"] ["_law_term_here"] (defScope s__law_places) :=
  ⟨rfl, rfl, rfl, by decide +kernel, rfl, by decide +kernel, by decide +kernel⟩
abbrev s__law_program : Stmt := top 49
theorem sc__law_program : FnScope ["_law_draw", "_law_fresh", "_law_params", "_law_found", "_law_k", "_law_name"] ["_law_draw"] (defScope s__law_program) :=
  ⟨rfl, rfl, rfl, by decide +kernel, rfl, by decide +kernel, by decide +kernel⟩
abbrev s__law_is : Stmt := top 50
theorem sc__law_is : FnScope ["_law_sort", "_law_thing", "_law_bounds_here", "_law_a"] ["_law_sort", "_law_thing"] (defScope s__law_is) :=
  ⟨rfl, rfl, rfl, by decide +kernel, rfl, by decide +kernel, by decide +kernel⟩
abbrev s__law_are : Stmt := top 51
theorem sc__law_are : FnScope ["_law_sorts", "_law_thing", "_law_sort", "_law_part"] ["_law_sorts", "_law_thing"] (defScope s__law_are) :=
  ⟨rfl, rfl, rfl, by decide +kernel, rfl, by decide +kernel, by decide +kernel⟩
abbrev s__law_is_kind : Stmt := top 52
theorem sc__law_is_kind : FnScope ["_law_thing"] ["_law_thing"] (defScope s__law_is_kind) :=
  ⟨rfl, rfl, rfl, by decide +kernel, rfl, by decide +kernel, by decide +kernel⟩
abbrev s__law_is_deed : Stmt := top 53
theorem sc__law_is_deed : FnScope ["_law_thing", "_law_many_here"] ["_law_thing", "_law_many_here"] (defScope s__law_is_deed) :=
  ⟨rfl, rfl, rfl, by decide +kernel, rfl, by decide +kernel, by decide +kernel⟩
abbrev s__law_inner : Stmt := top 54
theorem sc__law_inner : FnScope ["_law_thing", "_law_many_here"] ["_law_thing"] (defScope s__law_inner) :=
  ⟨rfl, rfl, rfl, by decide +kernel, rfl, by decide +kernel, by decide +kernel⟩
abbrev s__law_many : Stmt := top 55
theorem sc__law_many : FnScope ["_law_thing", "_law_deep", "_law_is_inside", "_law_inner_here", "_law_found", "_law_at", "_law_part", "_law_is_below", "_law_many_here"] ["_law_thing", "_law_deep", "_law_is_inside"] (defScope s__law_many) :=
  ⟨rfl, rfl, rfl, by decide +kernel, rfl, by decide +kernel, by decide +kernel⟩
abbrev s__law_is_told : Stmt := top 56
theorem sc__law_is_told : FnScope ["_law_thing", "_law_pair"] ["_law_thing"] (defScope s__law_is_told) :=
  ⟨rfl, rfl, rfl, by decide +kernel, rfl, by decide +kernel, by decide +kernel⟩
abbrev s__law_right : Stmt := top 57
theorem sc__law_right : FnScope ["_law_thing", "_law_found"] ["_law_thing"] (defScope s__law_right) :=
  ⟨rfl, rfl, rfl, by decide +kernel, rfl, by decide +kernel, by decide +kernel⟩
abbrev s__law_bent : Stmt := top 58
theorem sc__law_bent : FnScope ["_law_draw", "_law_thing", "_law_at", "_law_some"] ["_law_draw", "_law_thing"] (defScope s__law_bent) :=
  ⟨rfl, rfl, rfl, by decide +kernel, rfl, by decide +kernel, by decide +kernel⟩
abbrev s__law_wide : Stmt := top 59
theorem sc__law_wide : FnScope ["_law_many_here", "_law_half"] ["_law_many_here"] (defScope s__law_wide) :=
  ⟨rfl, rfl, rfl, by decide +kernel, rfl, by decide +kernel, by decide +kernel⟩
abbrev s__law_long : Stmt := top 60
theorem sc__law_long : FnScope ["_law_deep", "_law_many_here", "_law_found", "_law_k"] ["_law_deep", "_law_many_here"] (defScope s__law_long) :=
  ⟨rfl, rfl, rfl, by decide +kernel, rfl, by decide +kernel, by decide +kernel⟩
abbrev s__law_bounds : Stmt := top 61
theorem sc__law_bounds : FnScope ["_law_draw", "_law_usual", "_law_leaf", "_law_terms", "_law_going", "_law_inner_here", "_law_found", "_law_term_here"] ["_law_draw"] (defScope s__law_bounds) :=
  ⟨rfl, rfl, rfl, by decide +kernel, rfl, by decide +kernel, by decide +kernel⟩
abbrev s__law_far_right : Stmt := top 62
theorem sc__law_far_right : FnScope ["_law_usual", "_law_deep", "_law_wide_here", "_law_turn", "_law_some", "_law_term_here"] [] (defScope s__law_far_right) :=
  ⟨rfl, rfl, rfl, by decide +kernel, rfl, by decide +kernel, by decide +kernel⟩
abbrev s_law : Stmt := top 63
theorem sc_law : FnScope ["_law_script", "_law_draw", "_law_turn", "_law_program_here", "_law_kept", "_law_k", "_law_bent_here", "_law_odd", "_law_one_here", "_law_thing"] ["_law_script"] (defScope s_law) :=
  ⟨rfl, rfl, rfl, by decide +kernel, rfl, by decide +kernel, by decide +kernel⟩
/-- where the classes stand, the code objects and the tables of defs that make lambdas -/
structure Cas where
  nil : Unit := ()
abbrev tn (ca : Cas) : List TN := []
abbrev Ts (ca : Cas) : List (Addr × Str) := tsOf (tn ca)
/-! what the top has for the defs -/
structure Txt (K : PySem.W.Frag) (mg : Str → Option Value) (ca : Cas) : Prop where
  nil : True := trivial
  b_isinstance : mg "isinstance" = none
  b_bool : mg "bool" = none
  b_int : mg "int" = none
  b_len : mg "len" = none
  b_str : mg "str" = none
  b_all : mg "all" = none
  b_tuple : mg "tuple" = none
  b_enumerate : mg "enumerate" = none
  b_range : mg "range" = none
  b_min : mg "min" = none
  b_list : mg "list" = none
  b_zip : mg "zip" = none
  b_repr : mg "repr" = none
  c_MOST_LETTERS : ∃ t, mg "MOST_LETTERS" = some (.int (8) t)
  c_SMALL : ∃ t, mg "SMALL" = some (.str "abcdefghijklmnopqrstuvwxyz" t)
  c_MOST_NUMBER : ∃ t, mg "MOST_NUMBER" = some (.int (20) t)
  c_BY_NUMBER : GData mg K "BY_NUMBER" (.tuple [.str "plus", .str "from", .str "below"])
  c_OF_ONE : GData mg K "OF_ONE" (.tuple [.str "turn", .str "order", .str "first", .str "last", .str "rest", .str "least", .str "most", .str "many", .str "sum"])
  c_OF_TWO : GData mg K "OF_TWO" (.tuple [.str "join", .str "put", .str "into"])
  c_MOST_LONG : ∃ t, mg "MOST_LONG" = some (.int (8) t)
  c_MOST_SUM : ∃ t, mg "MOST_SUM" = some (.int (160) t)
  c_PARTS : GData mg K "PARTS" (.tuple [.str "low", .str "high", .str "few", .str "many", .str "up", .str "down", .str "unlike", .str "from", .str "to"])
  c_MOST_DEEP : ∃ t, mg "MOST_DEEP" = some (.int (20) t)
  c_MOST_TERMS : ∃ t, mg "MOST_TERMS" = some (.int (40) t)
  c_MOST_GOINGS : ∃ t, mg "MOST_GOINGS" = some (.int (1) t)
  c_MOST_INNER : ∃ t, mg "MOST_INNER" = some (.int (16) t)
  c_MOST_PARAMS : ∃ t, mg "MOST_PARAMS" = some (.int (4) t)
theorem c28_1l2 : decide (((1 : Nat) : Int) < 2) = true := by decide
theorem c28_0l2 : decide (((0 : Nat) : Int) < 2) = true := by decide
theorem c28_0e0 : decide (((0 : Nat) : Int) = 0) = true := by decide
theorem c28_0e1 : decide (((0 : Nat) : Int) = 1) = false := by decide
theorem c28_0e2 : decide (((0 : Nat) : Int) = 2) = false := by decide
theorem c28_0e3 : decide (((0 : Nat) : Int) = 3) = false := by decide
theorem c28_0e4 : decide (((0 : Nat) : Int) = 4) = false := by decide
theorem c28_0e5 : decide (((0 : Nat) : Int) = 5) = false := by decide
theorem c28_0e6 : decide (((0 : Nat) : Int) = 6) = false := by decide
theorem c28_0e9 : decide (((0 : Nat) : Int) = 9) = false := by decide
theorem c28_1e0 : decide (((1 : Nat) : Int) = 0) = false := by decide
theorem c28_1e1 : decide (((1 : Nat) : Int) = 1) = true := by decide
theorem c28_1e2 : decide (((1 : Nat) : Int) = 2) = false := by decide
theorem c28_1e3 : decide (((1 : Nat) : Int) = 3) = false := by decide
theorem c28_1e4 : decide (((1 : Nat) : Int) = 4) = false := by decide
theorem c28_1e5 : decide (((1 : Nat) : Int) = 5) = false := by decide
theorem c28_1e6 : decide (((1 : Nat) : Int) = 6) = false := by decide
theorem c28_1e9 : decide (((1 : Nat) : Int) = 9) = false := by decide
theorem c28_2e0 : decide (((2 : Nat) : Int) = 0) = false := by decide
theorem c28_2e1 : decide (((2 : Nat) : Int) = 1) = false := by decide
theorem c28_2e3 : decide (((2 : Nat) : Int) = 3) = false := by decide
theorem c28_2e4 : decide (((2 : Nat) : Int) = 4) = false := by decide
theorem c28_2e6 : decide (((2 : Nat) : Int) = 6) = false := by decide
theorem c28_2e9 : decide (((2 : Nat) : Int) = 9) = false := by decide
theorem c28_3e0 : decide (((3 : Nat) : Int) = 0) = false := by decide
theorem c28_3e1 : decide (((3 : Nat) : Int) = 1) = false := by decide
theorem c28_3e2 : decide (((3 : Nat) : Int) = 2) = false := by decide
theorem c28_3e4 : decide (((3 : Nat) : Int) = 4) = false := by decide
theorem c28_3e5 : decide (((3 : Nat) : Int) = 5) = false := by decide
theorem c28_3e6 : decide (((3 : Nat) : Int) = 6) = false := by decide
theorem c28_3e9 : decide (((3 : Nat) : Int) = 9) = false := by decide
theorem c28_4e0 : decide (((4 : Nat) : Int) = 0) = false := by decide
theorem c28_4e1 : decide (((4 : Nat) : Int) = 1) = false := by decide
theorem c28_4e2 : decide (((4 : Nat) : Int) = 2) = false := by decide
theorem c28_4e3 : decide (((4 : Nat) : Int) = 3) = false := by decide
theorem c28_4e4 : decide (((4 : Nat) : Int) = 4) = true := by decide
theorem c28_4e5 : decide (((4 : Nat) : Int) = 5) = false := by decide
theorem c28_4e6 : decide (((4 : Nat) : Int) = 6) = false := by decide
theorem c28_4e9 : decide (((4 : Nat) : Int) = 9) = false := by decide
theorem c28_5e0 : decide (((5 : Nat) : Int) = 0) = false := by decide
theorem c28_5e1 : decide (((5 : Nat) : Int) = 1) = false := by decide
theorem c28_5e2 : decide (((5 : Nat) : Int) = 2) = false := by decide
theorem c28_5e3 : decide (((5 : Nat) : Int) = 3) = false := by decide
theorem c28_5e4 : decide (((5 : Nat) : Int) = 4) = false := by decide
theorem c28_5e6 : decide (((5 : Nat) : Int) = 6) = false := by decide
theorem c28_5e9 : decide (((5 : Nat) : Int) = 9) = false := by decide
theorem c28_6e0 : decide (((6 : Nat) : Int) = 0) = false := by decide
theorem c28_6e1 : decide (((6 : Nat) : Int) = 1) = false := by decide
theorem c28_6e2 : decide (((6 : Nat) : Int) = 2) = false := by decide
theorem c28_6e3 : decide (((6 : Nat) : Int) = 3) = false := by decide
theorem c28_6e4 : decide (((6 : Nat) : Int) = 4) = false := by decide
theorem c28_6e5 : decide (((6 : Nat) : Int) = 5) = false := by decide
theorem c28_6e6 : decide (((6 : Nat) : Int) = 6) = true := by decide
theorem c28_6e9 : decide (((6 : Nat) : Int) = 9) = false := by decide
theorem c28_7e0 : decide (((7 : Nat) : Int) = 0) = false := by decide
theorem c28_7e1 : decide (((7 : Nat) : Int) = 1) = false := by decide
theorem c28_7e2 : decide (((7 : Nat) : Int) = 2) = false := by decide
theorem c28_7e3 : decide (((7 : Nat) : Int) = 3) = false := by decide
theorem c28_7e4 : decide (((7 : Nat) : Int) = 4) = false := by decide
theorem c28_7e5 : decide (((7 : Nat) : Int) = 5) = false := by decide
theorem c28_7e6 : decide (((7 : Nat) : Int) = 6) = false := by decide
theorem c28_7e9 : decide (((7 : Nat) : Int) = 9) = false := by decide
def FF_is_part_kinds : FW T2 := FF_is_part
theorem ev15_let_let : PyData.eqv (.str "let") (.str "let") = true := by rw [str_eqv]; decide
theorem ev15_let_part : PyData.eqv (.str "let") (.str "part") = false := by rw [str_eqv]; decide
theorem ev15_let_going : PyData.eqv (.str "let") (.str "going") = false := by rw [str_eqv]; decide
theorem ev15_let_tell : PyData.eqv (.str "let") (.str "tell") = false := by rw [str_eqv]; decide
theorem ev15_part_let : PyData.eqv (.str "part") (.str "let") = false := by rw [str_eqv]; decide
theorem ev15_part_part : PyData.eqv (.str "part") (.str "part") = true := by rw [str_eqv]; decide
theorem ev15_part_going : PyData.eqv (.str "part") (.str "going") = false := by rw [str_eqv]; decide
theorem ev15_part_tell : PyData.eqv (.str "part") (.str "tell") = false := by rw [str_eqv]; decide
theorem ev15_going_let : PyData.eqv (.str "going") (.str "let") = false := by rw [str_eqv]; decide
theorem ev15_going_part : PyData.eqv (.str "going") (.str "part") = false := by rw [str_eqv]; decide
theorem ev15_going_going : PyData.eqv (.str "going") (.str "going") = true := by rw [str_eqv]; decide
theorem ev15_going_tell : PyData.eqv (.str "going") (.str "tell") = false := by rw [str_eqv]; decide
theorem ev15_tell_let : PyData.eqv (.str "tell") (.str "let") = false := by rw [str_eqv]; decide
theorem ev15_tell_part : PyData.eqv (.str "tell") (.str "part") = false := by rw [str_eqv]; decide
theorem ev15_tell_going : PyData.eqv (.str "tell") (.str "going") = false := by rw [str_eqv]; decide
theorem ev15_tell_tell : PyData.eqv (.str "tell") (.str "tell") = true := by rw [str_eqv]; decide
theorem c15_2e2 : decide (((2 : Nat) : Int) = 2) = true := by decide
theorem c15_5e5 : decide (((5 : Nat) : Int) = 5) = true := by decide
theorem c15_3e3 : decide (((3 : Nat) : Int) = 3) = true := by decide
theorem c15_2l2 : decide (((2 : Nat) : Int) < 2) = false := by decide
theorem c15_5l2 : decide (((5 : Nat) : Int) < 2) = false := by decide
theorem c15_2e5 : decide (((2 : Nat) : Int) = 5) = false := by decide
theorem c15_3l2 : decide (((3 : Nat) : Int) < 2) = false := by decide
/-- a small letter -/
def smallC (c : Nat) : Bool := decide (97 ≤ c) && decide (c ≤ 122)
theorem small_in (c : Nat) : decide (c ∈ (Str.ofString "abcdefghijklmnopqrstuvwxyz").cps.toList) = smallC c := by
  have e : (Str.ofString "abcdefghijklmnopqrstuvwxyz").cps.toList = [97, 98, 99, 100, 101, 102, 103, 104, 105, 106, 107, 108, 109, 110, 111, 112, 113, 114, 115, 116, 117, 118, 119, 120, 121, 122] := by decide +kernel
  rw [e]
  unfold smallC
  rw [← Bool.decide_and, decide_eq_decide]
  simp
  omega
theorem strLt_a (c : Nat) : strLt ⟨#[c]⟩ (Str.ofString "a") = decide (c < 97) := by
  have e : (Str.ofString "a").cps.toList = [97] := by decide +kernel
  unfold strLt
  rw [e]
  show decide ([c] < [97]) = _
  rw [decide_eq_decide]
  constructor
  · intro h
    cases h with
    | rel h => exact h
    | cons h => cases h
  · exact fun h => .rel h
theorem strLt_z (c : Nat) : strLt (Str.ofString "z") ⟨#[c]⟩ = decide (122 < c) := by
  have e : (Str.ofString "z").cps.toList = [122] := by decide +kernel
  unfold strLt
  rw [e]
  show decide ([122] < [c]) = _
  rw [decide_eq_decide]
  constructor
  · intro h
    cases h with
    | rel h => exact h
    | cons h => cases h
  · exact fun h => .rel h
def ofOne : List Str := ["turn", "order", "first", "last", "rest", "least", "most", "many", "sum"]
def byNum : List Str := ["plus", "from", "below"]
def ofTwo : List Str := ["join", "put", "into"]
def isDeedD (x : D) (m : Int) : Bool := match x with
  | .tuple [.str w] => if m = 1 then ofOne.any (fun z => (PyData.str z).eqv (.str w)) else ofTwo.any (fun z => (PyData.str z).eqv (.str w))
  | .tuple [.str w, y] => decide (m = 1) && (byNum.any (fun z => (PyData.str z).eqv (.str w)) && isNumD y)
  | _ => false
def isNameS (s : Str) : Bool := (decide (1 ≤ s.length) && decide (s.length ≤ 8)) && (cs s).all smallC
def isNameD (x : D) : Bool := match x with
  | .str s => isNameS s
  | _ => false
/-- things of any kind, none of them made by a program -/
inductive PlA : D → Prop
  | non : PlA .none
  | bl (b : Bool) : PlA (.bool b)
  | int (i : Int) : PlA (.int i)
  | str (s : Str) (h : okS s) : PlA (.str s)
  | emp : PlA (.dict [])
  | lst (xs : List D) (h : ∀ x ∈ xs, PlA x) : PlA (.list xs)
  | tup (xs : List D) (h : ∀ x ∈ xs, PlA x) : PlA (.tuple xs)
theorem PlA.plain {x : D} (h : PlA x) : plainD x := by cases h <;> trivial
theorem PlA.items {xs : List D} (h : PlA (.tuple xs)) : ∀ x ∈ xs, PlA x := by cases h; assumption
theorem PlA.pl {x : D} (h : PlA x) : pl x := ⟨h.plain, fun xs e y hy => by subst e; exact (h.items y hy).plain⟩
def areNamesD (x : D) (m : Nat) : Bool := match x with
  | .tuple xs => decide (xs.length = m) && xs.all isNameD
  | _ => false
def ltD (a b : D) : Bool := match b with
  | .tuple ns => (decide (1 ≤ ns.length) && decide (ns.length ≤ 2)) && (isDeedD a ns.length && areNamesD b ns.length)
  | _ => false
def ptD (a b : D) : Bool := match a with
  | .str w => if w = "many" then isWholeD b 0 7 else if w = "sum" then isWholeD b (-160) 159 else false
  | _ => false
def goD (a : D) : Bool := match a with
  | .tuple [n1, n2, n3, n4, _] => isNameD n1 && (isNameD n2 && (isNameD n3 && isNameD n4))
  | _ => false
def letF (xs : List D) : Bool := match xs with | [_, _, a, b, _] => ltD a b | _ => false
def partF (xs : List D) : Bool := match xs with | [_, _, a, b, _, _] => ptD a b | _ => false
def goF (xs : List D) : Bool := match xs with | [_, _, a, _] => goD a | _ => false
/-- a term's own form -/
def formT (w : Str) (t : List D) : Bool := match t with
  | [] => decide (w = "tell")
  | [a, _] => decide (w = "going") && goD a
  | [a, b, _] => decide (w = "let") && ltD a b
  | [a, b, _, _] => decide (w = "part") && ptD a b
  | _ => false
def formD (x : D) : Bool := match x with
  | .tuple (.str w :: n :: t) => isNameD n && formT w t
  | _ => false
/-- the terms straight within -/
def fifthL (ys : List D) (u : D) : List D := match ys with
  | [_, _, _, _, t] => [t, u]
  | _ => []
def fifthD (a u : D) : List D := match a with
  | .tuple ys => fifthL ys u
  | _ => []
def kidsL (xs : List D) : List D := match xs with
  | [_, _, a, u] => fifthD a u
  | [_, _, _, _, t] => [t]
  | [_, _, _, _, t, u] => [t, u]
  | _ => []
def kidsD (x : D) : List D := match x with
  | .tuple xs => kidsL xs
  | _ => []
def FF_is_deed : FW T2 := fun rs τ Q => ∃ (x : D) (m : Int), rs = [.d x, .d (.int m)] ∧ pl x ∧ (m = 1 ∨ m = 2) ∧ Q (.d (.bool (isDeedD x m))) τ
def FF_is_name : FW T2 := fun rs τ Q => ∃ x, rs = [.d x] ∧ PlA x ∧ Q (.d (.bool (isNameD x))) τ
def FF_are_names : FW T2 := fun rs τ Q => ∃ (x : D) (m : Nat), rs = [.d x, .d (.int (m : Nat))] ∧ PlA x ∧ m ≤ 8 ∧ Q (.d (.bool (areNamesD x m))) τ
def FF_is_let : FW T2 := fun rs τ Q => ∃ xs : List D, rs = [.d (.tuple xs)] ∧ PlA (.tuple xs) ∧ 2 ≤ xs.length ∧ Q (.d (.bool (letF xs))) τ
def FF_is_part_terms : FW T2 := fun rs τ Q => ∃ xs : List D, rs = [.d (.tuple xs)] ∧ PlA (.tuple xs) ∧ 2 ≤ xs.length ∧ Q (.d (.bool (partF xs))) τ
def FF_is_going : FW T2 := fun rs τ Q => ∃ xs : List D, rs = [.d (.tuple xs)] ∧ PlA (.tuple xs) ∧ 2 ≤ xs.length ∧ Q (.d (.bool (goF xs))) τ
def FF_has_form : FW T2 := fun rs τ Q => ∃ x, rs = [.d x] ∧ PlA x ∧ Q (.d (.bool (formD x))) τ
theorem goD_eq (ns : List D) : (decide (ns.length = 5) && areNamesD (.tuple (ns.take 4)) 4) = goD (.tuple ns) := by
  match ns with
  | [] => rfl
  | [_] => rfl
  | [_, _] => rfl
  | [_, _, _] => rfl
  | [_, _, _, _] => rfl
  | [a, b, c, d, e] => simp [areNamesD, goD]
  | a :: b :: c :: d :: e :: f :: t => simp [goD]
theorem bnd_many : lookM [(Str.ofString "many", PyData.tuple [PyData.int 0, PyData.int 7]), (Str.ofString "sum", PyData.tuple [PyData.int (-160), PyData.int 159])] (Str.ofString "many") = some (.tuple [.int 0, .int 7]) := by kernel_rfl
theorem bnd_sum : lookM [(Str.ofString "many", PyData.tuple [PyData.int 0, PyData.int 7]), (Str.ofString "sum", PyData.tuple [PyData.int (-160), PyData.int 159])] (Str.ofString "sum") = some (.tuple [.int (-160), .int 159]) := by kernel_rfl
theorem bnd_none {w : Str} (h1 : w ≠ "many") (h2 : w ≠ "sum") : lookM [(Str.ofString "many", PyData.tuple [PyData.int 0, PyData.int 7]), (Str.ofString "sum", PyData.tuple [PyData.int (-160), PyData.int 159])] w = none := by
  unfold lookM
  rw [List.find?_cons_of_neg (by simpa using Ne.symm h1), List.find?_cons_of_neg (by simpa using Ne.symm h2)]
  rfl
theorem form_let (n : D) (t : List D) : formT "let" t = letF (.str "let" :: n :: t) := by
  match t with
  | [] => rfl
  | [_] => rfl
  | [_, _] => simp [formT, letF]; intro h; exact absurd h (by decide)
  | [_, _, _] => simp [formT, letF]
  | [_, _, _, _] => simp [formT, letF]; intro h; exact absurd h (by decide)
  | _ :: _ :: _ :: _ :: _ :: _ => rfl
theorem form_part (n : D) (t : List D) : formT "part" t = partF (.str "part" :: n :: t) := by
  match t with
  | [] => rfl
  | [_] => rfl
  | [_, _] => simp [formT, partF]; intro h; exact absurd h (by decide)
  | [_, _, _] => simp [formT, partF]; intro h; exact absurd h (by decide)
  | [_, _, _, _] => simp [formT, partF]
  | _ :: _ :: _ :: _ :: _ :: _ => rfl
theorem form_going (n : D) (t : List D) : formT "going" t = goF (.str "going" :: n :: t) := by
  match t with
  | [] => rfl
  | [_] => rfl
  | [_, _] => simp [formT, goF]
  | [_, _, _] => simp [formT, goF]; intro h; exact absurd h (by decide)
  | [_, _, _, _] => simp [formT, goF]; intro h; exact absurd h (by decide)
  | _ :: _ :: _ :: _ :: _ :: _ => rfl
theorem form_other {w : Str} (h1 : w ≠ "let") (h2 : w ≠ "part") (h3 : w ≠ "going") (t : List D) : formT w t = (decide (w = "tell") && decide (t.length = 0)) := by
  match t with
  | [] => simp [formT]
  | [_] => simp [formT]
  | [_, _] => simp [formT, h3]
  | [_, _, _] => simp [formT, h1]
  | [_, _, _, _] => simp [formT, h2]
  | _ :: _ :: _ :: _ :: _ :: _ => simp [formT]
theorem form_nstr {a n : D} {t : List D} (h : ∀ w, a ≠ .str w) : formD (.tuple (a :: n :: t)) = false := by
  unfold formD
  split
  · rename_i e
    cases e
    exact absurd rfl (h _)
  · rfl
theorem form_inv {x : D} (h : formD x = true) : (∃ n, x = .tuple [.str "tell", n]) ∨ (∃ n n1 n2 n3 n4 t u, x = .tuple [.str "going", n, .tuple [n1, n2, n3, n4, t], u]) ∨ (∃ n a b t, x = .tuple [.str "let", n, a, b, t]) ∨ ∃ n a b t u, x = .tuple [.str "part", n, a, b, t, u] := by
  unfold formD at h
  split at h
  · rename_i w n t
    rw [Bool.and_eq_true] at h
    have h := h.2
    unfold formT at h
    split at h
    · exact .inl ⟨n, by rw [of_decide_eq_true h]⟩
    · rename_i a u
      rw [Bool.and_eq_true] at h
      obtain ⟨h1, h2⟩ := h
      have h1 := of_decide_eq_true h1
      subst h1
      unfold goD at h2
      split at h2
      · exact .inr (.inl ⟨_, _, _, _, _, _, _, rfl⟩)
      · cases h2
    · rename_i a b u
      rw [Bool.and_eq_true] at h
      have h1 := of_decide_eq_true h.1
      subst h1
      exact .inr (.inr (.inl ⟨_, _, _, _, rfl⟩))
    · rename_i a b u v
      rw [Bool.and_eq_true] at h
      have h1 := of_decide_eq_true h.1
      subst h1
      exact .inr (.inr (.inr ⟨_, _, _, _, _, rfl⟩))
    · cases h
  · cases h
def isGoD (x : D) : Bool := match x with
  | .tuple (.str w :: _) => decide (w = "going")
  | _ => false
theorem PlA.kid {x : D} (h : PlA x) : ∀ y ∈ kidsD x, PlA y := by
  intro y hy
  cases h with
  | tup xs h =>
    have hy : y ∈ kidsL xs := hy
    unfold kidsL at hy
    split at hy
    · rename_i a u hy0
      have ha := h a (by simp)
      have hu := h u (by simp)
      have hy : y ∈ fifthD a u := hy
      cases ha with
      | tup ys hys =>
        have hy : y ∈ fifthL ys u := hy
        unfold fifthL at hy
        split at hy
        · rcases List.mem_cons.mp hy with rfl | hy
          · exact hys y (by simp)
          · rw [List.mem_singleton.mp hy]; exact hu
        · cases hy
      | _ => cases hy
    · rw [List.mem_singleton.mp hy]; exact h _ (by simp)
    · rcases List.mem_cons.mp hy with rfl | hy
      · exact h _ (by simp)
      · rw [List.mem_singleton.mp hy]; exact h _ (by simp)
    · cases hy
  | _ => cases hy
/-- what a term counts: 100 for a fault; n: how many levels more there may be; g: within a going -/
def costD : Nat → Bool → D → Nat
  | 0, _, _ => 100
  | n + 1, g, x => if (!formD x || (isGoD x && g)) = true then 100 else 1 + match kidsD x with
    | [] => 0
    | [t] => costD n g t
    | t :: u :: _ => costD n (g || isGoD x) t + costD n g u
/-- all places, itself ahead -/
def placesD : Nat → D → List D
  | 0, x => [x]
  | n + 1, x => x :: (kidsD x).flatMap (placesD n)
/-- the penalties: a going's inner term has more than sixteen terms -/
def fatD (n : Nat) (x : D) : Bool := (placesD n x).any fun y => isGoD y && match kidsD y with
  | t :: _ => decide (16 < (placesD 20 t).length)
  | _ => false
def wholeD (x : D) : Bool := decide (costD 20 false x ≤ 40) && !fatD 20 x
def paramD (x : D) : Bool := match x with
  | .tuple [n, k] => isNameD n && isKindD k
  | _ => false
def progF (p k t : D) : Bool := match p with
  | .tuple ps => (decide (ps.length ≤ 4) && ps.all paramD) && (isKindD k && wholeD t)
  | _ => false
def progL (xs : List D) : Bool := match xs with
  | [p, k, t] => progF p k t
  | _ => false
def isProgD (x : D) : Bool := match x with
  | .tuple xs => progL xs
  | _ => false
def FF_terms_of : FW T2 := fun rs τ Q => ∃ x, rs = [.d x] ∧ formD x = true ∧ Q (.ol (kidsD x)) τ
def FF_is_whole_term : FW T2 := fun rs τ Q => ∃ x, rs = [.d x] ∧ PlA x ∧ Q (.d (.bool (wholeD x))) τ
def FF_is_param : FW T2 := fun rs τ Q => ∃ x, rs = [.d x] ∧ PlA x ∧ Q (.d (.bool (paramD x))) τ
def FF_is_program : FW T2 := fun rs τ Q => ∃ x, rs = [.d x] ∧ PlA x ∧ Q (.d (.bool (isProgD x))) τ
theorem while_inv {c : WT T2} {tb : WS T2} {Dn : DEnds T2} (P : Nat → List SV → T2 → Prop)
    (h : ∀ n env τ, P n env τ → ∀ W : List SV → T2 → Prop, (∀ env' τ', (∃ m, n = m + 1 ∧ P m env' τ') → W env' τ') → c env τ fun k τ1 => if k = true then tb { Dn with nx := W, ct := W, bk := Dn.nx } env τ1 else Dn.nx env τ1) :
    ∀ n env τ, P n env τ → whileW c tb Dn (n + 1) env τ := by
  intro n
  induction n with
  | zero => exact fun env τ p => h 0 env τ p (whileW c tb Dn 0) fun _ _ ⟨m, e, _⟩ => nomatch e
  | succ n ih =>
    exact fun env τ p => h (n + 1) env τ p (whileW c tb Dn (n + 1)) fun env' τ' ⟨m, e, pm⟩ => ih _ _ (by cases e; exact pm)
/-- formed all the way, n levels deep at most -/
def goodD : Nat → D → Bool
  | 0, _ => false
  | n + 1, x => formD x && (kidsD x).all (goodD n)
def placesW (W : List (Nat × D)) : List D := W.flatMap fun w => placesD w.1 w.2
theorem places_pos (n : Nat) (x : D) : 1 ≤ (placesD n x).length := by cases n <;> simp [placesD]
theorem W_len (W : List (Nat × D)) : W.length ≤ (placesW W).length := by
  unfold placesW
  induction W with
  | nil => exact Nat.zero_le _
  | cons a t ih =>
    rw [List.flatMap_cons, List.length_append, List.length_cons]
    have := places_pos a.1 a.2
    omega
def FF_places_of : FW T2 := fun rs τ Q => ∃ (n : Nat) (x : D), rs = [.d x] ∧ goodD n x = true ∧ (placesD n x).length ≤ 1000 ∧ Q (.ol (placesD n x)) τ
theorem placesW_kids (m : Nat) (y : D) (W : List (Nat × D)) : placesW (((kidsD y).map fun z => (m, z)) ++ W) = (kidsD y).flatMap (placesD m) ++ placesW W := by
  unfold placesW
  rw [List.flatMap_append, List.flatMap_map]
theorem placesW_cons (m : Nat) (y : D) (W : List (Nat × D)) : placesW ((m + 1, y) :: W) = y :: ((kidsD y).flatMap (placesD m) ++ placesW W) := by
  unfold placesW
  rw [List.flatMap_cons]
  rfl
def costW (W : List (Nat × Bool × D)) : Nat := (W.map fun w => costD w.1 w.2.1 w.2.2).sum
def toT (w : Nat × Bool × D) : D := .tuple [w.2.2, .int (21 - (w.1 : Int)), .int (if w.2.1 = true then 1 else 0)]
def pushW (n : Nat) (g : Bool) (y : D) : List (Nat × Bool × D) := match kidsD y with
  | [] => []
  | [t] => [(n, g, t)]
  | t :: u :: _ => [(n, g, u), (n, g || isGoD y, t)]
theorem cost_bad {n : Nat} {g : Bool} {x : D} (h : (!formD x || (isGoD x && g)) = true) : costD n g x = 100 := by
  cases n with
  | zero => rfl
  | succ n =>
    unfold costD
    rw [if_pos h]
theorem cost_ok {n : Nat} {g : Bool} {x : D} (h : (!formD x || (isGoD x && g)) = false) : costD (n + 1) g x = 1 + costW (pushW n g x) := by
  show (if (!formD x || (isGoD x && g)) = true then 100 else 1 + match kidsD x with
    | [] => 0
    | [t] => costD n g t
    | t :: u :: _ => costD n (g || isGoD x) t + costD n g u) = _
  rw [if_neg (by rw [h]; decide)]
  unfold pushW costW
  match kidsD x with
  | [] => rfl
  | [t] => simp
  | t :: u :: r => simp; omega
theorem cost_pos (n : Nat) (g : Bool) (x : D) : 1 ≤ costD n g x := by
  cases n with
  | zero => show 1 ≤ 100; decide
  | succ n =>
    cases e : (!formD x || (isGoD x && g)) with
    | true => rw [cost_bad e]; decide
    | false => rw [cost_ok e]; omega
theorem costW_cons (w : Nat × Bool × D) (W : List (Nat × Bool × D)) : costW (w :: W) = costD w.1 w.2.1 w.2.2 + costW W := by
  unfold costW
  rw [List.map_cons, List.sum_cons]
theorem costW_app (V W : List (Nat × Bool × D)) : costW (V ++ W) = costW V + costW W := by
  unfold costW
  rw [List.map_append, List.sum_append]
theorem go_going (xs : List D) : isGoD (.tuple (.str "going" :: xs)) = true := by
  show decide (Str.ofString "going" = Str.ofString "going") = true
  exact decide_eq_true rfl
theorem go_let (xs : List D) : isGoD (.tuple (.str "let" :: xs)) = false := by
  show decide (Str.ofString "let" = Str.ofString "going") = false
  decide
theorem go_part (xs : List D) : isGoD (.tuple (.str "part" :: xs)) = false := by
  show decide (Str.ofString "part" = Str.ofString "going") = false
  decide
theorem go_tell (xs : List D) : isGoD (.tuple (.str "tell" :: xs)) = false := by
  show decide (Str.ofString "tell" = Str.ofString "going") = false
  decide
theorem fm_cong {α β : Type} {f g : α → List β} : ∀ {l : List α}, (∀ x ∈ l, f x = g x) → l.flatMap f = l.flatMap g
  | [], _ => rfl
  | a :: t, h => by
    rw [List.flatMap_cons, List.flatMap_cons, h a List.mem_cons_self, fm_cong fun x hx => h x (List.mem_cons_of_mem _ hx)]
theorem good_succ {n : Nat} {x : D} : goodD (n + 1) x = true ↔ formD x = true ∧ ∀ y ∈ kidsD x, goodD n y = true := by
  show (formD x && (kidsD x).all (goodD n)) = true ↔ _
  rw [Bool.and_eq_true, List.all_eq_true]
theorem good_mono : ∀ {n : Nat} {x : D}, goodD n x = true → goodD (n + 1) x = true
  | 0, _, h => by cases h
  | n + 1, x, h => by
    obtain ⟨h1, h2⟩ := good_succ.mp h
    exact good_succ.mpr ⟨h1, fun y hy => good_mono (h2 y hy)⟩
theorem good_le {n m : Nat} {x : D} (h : goodD n x = true) (hm : n ≤ m) : goodD m x = true := by
  induction m with
  | zero => rw [Nat.le_zero_eq] at hm; rw [← hm]; exact h
  | succ m ih =>
    by_cases e : n = m + 1
    · rw [← e]; exact h
    · exact good_mono (ih (by omega))
theorem places_mono : ∀ {n : Nat} {x : D}, goodD n x = true → placesD (n + 1) x = placesD n x
  | 0, _, h => by cases h
  | n + 1, x, h => by
    obtain ⟨_, h2⟩ := good_succ.mp h
    show x :: (kidsD x).flatMap (placesD (n + 1)) = x :: (kidsD x).flatMap (placesD n)
    rw [fm_cong fun y hy => places_mono (h2 y hy)]
theorem places_le {n m : Nat} {x : D} (h : goodD n x = true) (hm : n ≤ m) : placesD m x = placesD n x := by
  induction m with
  | zero => rw [Nat.le_zero_eq] at hm; rw [← hm]
  | succ m ih =>
    by_cases e : n = m + 1
    · rw [← e]
    · rw [places_mono (good_le h (by omega : n ≤ m)), ih (by omega)]
theorem fm_mem_len {α β : Type} {f : α → List β} {a : α} : ∀ {l : List α}, a ∈ l → (f a).length ≤ (l.flatMap f).length
  | b :: t, h => by
    rw [List.flatMap_cons, List.length_append]
    rcases List.mem_cons.mp h with rfl | h
    · omega
    · have := fm_mem_len (f := f) h
      omega
theorem mem_good : ∀ {n : Nat} {x y : D}, goodD n x = true → y ∈ placesD n x → ∃ m, m ≤ n ∧ goodD m y = true ∧ (placesD m y).length ≤ (placesD n x).length
  | 0, _, _, h, _ => by cases h
  | n + 1, x, y, h, hy => by
    have hy : y ∈ x :: (kidsD x).flatMap (placesD n) := hy
    rcases List.mem_cons.mp hy with rfl | hy
    · exact ⟨n + 1, Nat.le_refl _, h, Nat.le_refl _⟩
    · obtain ⟨z, hz, hy⟩ := List.mem_flatMap.mp hy
      obtain ⟨m, h1, h2, h3⟩ := mem_good ((good_succ.mp h).2 z hz) hy
      refine ⟨m, by omega, h2, Nat.le_trans h3 ?_⟩
      show _ ≤ (x :: (kidsD x).flatMap (placesD n)).length
      rw [List.length_cons]
      have := fm_mem_len (f := placesD n) hz
      omega
theorem cost_good : ∀ {n : Nat} {g : Bool} {x : D}, costD n g x ≤ 40 → goodD n x = true ∧ (placesD n x).length = costD n g x
  | 0, _, _, h => by
    have h : 100 ≤ 40 := h
    exact absurd h (by decide)
  | n + 1, g, x, h => by
    cases e : (!formD x || (isGoD x && g)) with
    | true =>
      rw [cost_bad e] at h
      exact absurd h (by decide)
    | false =>
      have hf : formD x = true := by
        rw [Bool.or_eq_false_iff, Bool.not_eq_false'] at e
        exact e.1
      rw [cost_ok e] at h ⊢
      show goodD (n + 1) x = true ∧ (x :: (kidsD x).flatMap (placesD n)).length = _
      rw [good_succ, List.length_cons]
      have hk : kidsD x = [] ∨ (∃ t, kidsD x = [t]) ∨ ∃ t u, kidsD x = [t, u] := by
        rcases form_inv hf with ⟨n, rfl⟩ | ⟨n, n1, n2, n3, n4, t, u, rfl⟩ | ⟨n, a, b, t, rfl⟩ | ⟨n, a, b, t, u, rfl⟩
        · exact .inl rfl
        · exact .inr (.inr ⟨t, u, rfl⟩)
        · exact .inr (.inl ⟨t, rfl⟩)
        · exact .inr (.inr ⟨t, u, rfl⟩)
      unfold pushW at h ⊢
      rcases hk with hk | ⟨t, hk⟩ | ⟨t, u, hk⟩
      · rw [hk] at h ⊢
        exact ⟨⟨hf, nofun⟩, by simp [costW]⟩
      · rw [hk] at h ⊢
        simp only [costW, List.map_cons, List.map_nil, List.sum_cons, List.sum_nil] at h ⊢
        obtain ⟨g1, g2⟩ := cost_good (n := n) (g := g) (x := t) (by omega)
        refine ⟨⟨hf, fun y hy => by rw [List.mem_singleton.mp hy]; exact g1⟩, ?_⟩
        simp only [List.flatMap_cons, List.flatMap_nil, List.append_nil]
        omega
      · rw [hk] at h ⊢
        simp only [costW, List.map_cons, List.map_nil, List.sum_cons, List.sum_nil] at h ⊢
        obtain ⟨g1, g2⟩ := cost_good (n := n) (g := g || isGoD x) (x := t) (by omega)
        obtain ⟨g3, g4⟩ := cost_good (n := n) (g := g) (x := u) (by omega)
        refine ⟨⟨hf, fun y hy => ?_⟩, ?_⟩
        · rcases List.mem_cons.mp hy with rfl | hy
          · exact g1
          · rw [List.mem_singleton.mp hy]; exact g3
        · simp only [List.flatMap_cons, List.flatMap_nil, List.append_nil, List.length_append]
          omega
def innerL (x : D) : Nat := match kidsD x with
  | t :: _ => (placesD 20 t).length
  | _ => 0
theorem fat_eq (n : Nat) (x : D) : fatD n x = ((placesD n x).filter isGoD).any fun y => decide (16 < innerL y) := by
  rw [List.any_filter]
  unfold fatD
  refine congrArg (fun f => List.any (placesD n x) f) (funext fun y => ?_)
  unfold innerL
  cases kidsD y with
  | nil => rfl
  | cons t r => rfl
theorem slim_eq (l : List D) : (l.map fun y => decide (innerL y ≤ 16)).all id = !l.any fun y => decide (16 < innerL y) := by
  induction l with
  | nil => rfl
  | cons a t ih =>
    rw [List.map_cons, List.all_cons, List.any_cons, ih, Bool.not_or]
    have : id (decide (innerL a ≤ 16)) = !decide (16 < innerL a) := by
      show decide (innerL a ≤ 16) = !decide (16 < innerL a)
      rw [Bool.eq_iff_iff, Bool.not_eq_true', decide_eq_true_eq, decide_eq_false_iff_not]
      omega
    rw [this]
def sortW : List Str := ["name", "truth", "number", "size", "sum", "many", "below"]
def sortB (w : Str) (x : D) : Bool := if w = "name" then isNameD x else if w = "truth" then isBoolD x else if w = "number" then isWholeD x (-20) 20 else if w = "size" then isWholeD x 0 8 else if w = "sum" then isWholeD x (-160) 160 else if w = "many" then isWholeD x 0 7 else isWholeD x (-160) 159
def areD (ws : List Str) (x : D) : Bool := match x with
  | .tuple xs => decide (xs.length = ws.length) && (ws.zip xs).all fun p => sortB p.1 p.2
  | _ => false
def FF__law_is : FW T2 := fun rs τ Q => ∃ (w : Str) (x : D), rs = [.d (.str w), .d x] ∧ PlA x ∧ w ∈ sortW ∧ Q (.d (.bool (sortB w x))) τ
def FF__law_are : FW T2 := fun rs τ Q => ∃ (ws : List Str) (x : D), rs = [.d (.list (ws.map .str)), .d x] ∧ PlA x ∧ (∀ w ∈ ws, w ∈ sortW) ∧ ws.length ≤ 20 ∧ Q (.d (.bool (areD ws x))) τ
def FF__law_is_kind : FW T2 := fun rs τ Q => ∃ x, rs = [.d x] ∧ PlA x ∧ Q (.d (.bool (isKindD x))) τ
def FF__law_is_deed : FW T2 := fun rs τ Q => ∃ (x : D) (m : Nat), rs = [.d x, .d (.int (m : Nat))] ∧ PlA x ∧ (m = 1 ∨ m = 2) ∧ Q (.d (.bool (isDeedD x (m : Nat)))) τ
inductive Tw where
  | join | put | into
def Tw.W : Tw → Str
  | .join => "join" | .put => "put" | .into => "into"
inductive Dd where
  | one (o : Op1)
  | two (w : Tw)
def Dd.D : Dd → PyData
  | .one o => o.D
  | .two w => .tuple [.str w.W]
def Dd.In : Dd → Prop
  | .one o => o.In
  | .two _ => True
def Dd.n : Dd → Nat
  | .one _ => 1
  | .two _ => 2
def FF__law_deed : FW T2 := fun rs τ Q => ∃ (a : Addr) (b : Nat) (cs : List (Addr × Cel)) (m : Int), rs = [.raw (.ref a), .d (.int m)] ∧ τ = ⟨.on a b, cs⟩ ∧ 5 ≤ b ∧ (m = 1 ∨ m = 2) ∧ ∀ (d : Dd) (b' : Nat), b ≤ b' + 5 → d.In → m = (d.n : Nat) → Q (.d d.D) ⟨.on a b', cs⟩
theorem dn_le (d : Dd) : 1 ≤ d.n ∧ d.n ≤ 2 := by
  cases d
  · show 1 ≤ 1 ∧ 1 ≤ 2
    decide
  · show 1 ≤ 2 ∧ 2 ≤ 2
    decide
theorem kIfS_cast {ts te : WS T2} {Dd : DEnds T2} {env : List SV} {b c : Bool} {τ : T2} (e : b = c) (h : kIfS ts te Dd env c τ) : kIfS ts te Dd env b τ := e ▸ h
theorem fat_succ (n : Nat) (x : D) : fatD (n + 1) x = ((isGoD x && decide (16 < innerL x)) || (kidsD x).any (fatD n)) := by
  rw [fat_eq]
  show (List.filter isGoD (x :: (kidsD x).flatMap (placesD n))).any _ = _
  rw [List.any_filter, List.any_cons]
  refine congrArg (fun z => (isGoD x && decide (16 < innerL x)) || z) ?_
  rw [List.any_flatMap]
  congr 1
  funext y
  rw [fat_eq, List.any_filter]
def manyD : Nat → Bool → D → Nat
  | 0, _, _ => 100
  | n + 1, g, x => if (!formD x || (isGoD x && g)) = true then 100 else match kidsD x with
    | [] => 1
    | [t] => 1 + manyD n g t
    | t :: u :: _ => 1 + manyD n (g || isGoD x) t + (if isGoD x = true ∧ 16 < manyD n (g || isGoD x) t then 100 else 0) + manyD n g u
theorem kids_form {x : D} (h : formD x = true) : (isGoD x = false ∧ kidsD x = []) ∨ (isGoD x = false ∧ ∃ t, kidsD x = [t]) ∨ (∃ t u, kidsD x = [t, u]) := by
  rcases form_inv h with ⟨n, rfl⟩ | ⟨n, n1, n2, n3, n4, t, u, rfl⟩ | ⟨n, a, b, t, rfl⟩ | ⟨n, a, b, t, u, rfl⟩
  · exact .inl ⟨go_tell _, rfl⟩
  · exact .inr (.inr ⟨t, u, rfl⟩)
  · exact .inr (.inl ⟨go_let _, t, rfl⟩)
  · exact .inr (.inr ⟨t, u, rfl⟩)
theorem many_bad {n : Nat} {g : Bool} {x : D} (h : (!formD x || (isGoD x && g)) = true) : manyD n g x = 100 := by
  cases n with
  | zero => rfl
  | succ n => unfold manyD; rw [if_pos h]
theorem cost_le_many : ∀ (n : Nat) (g : Bool) (x : D), costD n g x ≤ manyD n g x
  | 0, _, _ => Nat.le_refl _
  | n + 1, g, x => by
    unfold costD manyD
    split
    · exact Nat.le_refl _
    · split
      · exact Nat.le_refl _
      · rename_i t _
        have := cost_le_many n g t
        omega
      · rename_i t u _ _
        have := cost_le_many n (g || isGoD x) t
        have := cost_le_many n g u
        show 1 + (costD n (g || isGoD x) t + costD n g u) ≤ 1 + manyD n (g || isGoD x) t + _ + manyD n g u
        omega
theorem many_spec : ∀ (n : Nat) (g : Bool) (x : D), n ≤ 20 → costD n g x ≤ 40 → (g = true → fatD n x = false) ∧ (fatD n x = false → manyD n g x = costD n g x) ∧ (fatD n x = true → 100 ≤ manyD n g x)
  | 0, _, _, _, h => by
    have h : 100 ≤ 40 := h
    exact absurd h (by decide)
  | n + 1, g, x, hn, h => by
    cases e : (!formD x || (isGoD x && g)) with
    | true =>
      rw [cost_bad e] at h
      exact absurd h (by decide)
    | false =>
      have ec : costD (n + 1) g x = 1 + match kidsD x with
        | [] => 0
        | [t] => costD n g t
        | t :: u :: _ => costD n (g || isGoD x) t + costD n g u := by
        show (if (!formD x || (isGoD x && g)) = true then 100 else _) = _
        rw [if_neg (by rw [e]; decide)]
      have em : manyD (n + 1) g x = match kidsD x with
        | [] => 1
        | [t] => 1 + manyD n g t
        | t :: u :: _ => 1 + manyD n (g || isGoD x) t + (if isGoD x = true ∧ 16 < manyD n (g || isGoD x) t then 100 else 0) + manyD n g u := by
        show (if (!formD x || (isGoD x && g)) = true then 100 else _) = _
        rw [if_neg (by rw [e]; decide)]
      rw [Bool.or_eq_false_iff, Bool.not_eq_false'] at e
      obtain ⟨hf, hg⟩ := e
      rw [ec] at h ⊢
      rw [em, fat_succ]
      rcases kids_form hf with ⟨h1, h2⟩ | ⟨h1, t, h2⟩ | ⟨t, u, h2⟩
      · rw [h1, h2]
        exact ⟨fun _ => rfl, fun _ => rfl, nofun⟩
      · rw [h2] at h ⊢
        rw [h1, Bool.false_and, Bool.false_or, List.any_cons, List.any_nil, Bool.or_false]
        have h : 1 + costD n g t ≤ 40 := h
        obtain ⟨i1, i2, i3⟩ := many_spec n g t (by omega) (by omega)
        refine ⟨i1, fun z => ?_, fun z => ?_⟩
        · have := i2 z
          show 1 + manyD n g t = 1 + costD n g t
          omega
        · have := i3 z
          show 100 ≤ 1 + manyD n g t
          omega
      · have ei : innerL x = (placesD 20 t).length := by unfold innerL; rw [h2]
        rw [h2] at h ⊢
        have h : 1 + (costD n (g || isGoD x) t + costD n g u) ≤ 40 := h
        obtain ⟨i1, i2, i3⟩ := many_spec n (g || isGoD x) t (by omega) (by omega)
        obtain ⟨j1, j2, j3⟩ := many_spec n g u (by omega) (by omega)
        obtain ⟨k1, k2⟩ := cost_good (n := n) (g := g || isGoD x) (x := t) (by omega)
        rw [places_le k1 (by omega : n ≤ 20), k2] at ei
        rw [ei]
        show (g = true → ((isGoD x && decide (16 < costD n (g || isGoD x) t)) || (List.any [t, u] (fatD n))) = false) ∧ (((isGoD x && decide (16 < costD n (g || isGoD x) t)) || (List.any [t, u] (fatD n))) = false → 1 + manyD n (g || isGoD x) t + (if isGoD x = true ∧ 16 < manyD n (g || isGoD x) t then 100 else 0) + manyD n g u = 1 + (costD n (g || isGoD x) t + costD n g u)) ∧ (((isGoD x && decide (16 < costD n (g || isGoD x) t)) || (List.any [t, u] (fatD n))) = true → 100 ≤ 1 + manyD n (g || isGoD x) t + (if isGoD x = true ∧ 16 < manyD n (g || isGoD x) t then 100 else 0) + manyD n g u)
        rw [List.any_cons, List.any_cons, List.any_nil, Bool.or_false]
        cases hx : isGoD x with
        | false =>
          rw [hx, Bool.or_false] at i1 i2 i3
          rw [Bool.false_and, Bool.false_or, Bool.or_false]
          refine ⟨fun z => by rw [i1 z, j1 z]; rfl, fun z => ?_, fun z => ?_⟩
          · rw [Bool.or_eq_false_iff] at z
            have := i2 z.1
            have := j2 z.2
            rw [if_neg (by simp)]
            omega
          · rw [if_neg (by simp)]
            rcases Bool.or_eq_true _ _ ▸ z with z | z
            · have := i3 z
              omega
            · have := j3 z
              omega
        | true =>
          have hg : g = false := by
            rw [hx, Bool.true_and] at hg
            exact hg
          subst hg
          rw [hx, Bool.false_or] at i1 i2 i3
          have q := i1 rfl
          have q2 := i2 q
          rw [Bool.true_and, Bool.false_or, q, Bool.false_or]
          refine ⟨nofun, fun z => ?_, fun z => ?_⟩
          · rw [Bool.or_eq_false_iff, decide_eq_false_iff_not] at z
            have := j2 z.2
            rw [if_neg (by rw [q2]; exact fun w => z.1 w.2)]
            omega
          · rcases Bool.or_eq_true _ _ ▸ z with z | z
            · rw [if_pos ⟨rfl, by rw [q2]; exact of_decide_eq_true z⟩]
              omega
            · have := j3 z
              omega
theorem many_whole (x : D) : decide (manyD 20 false x ≤ 40) = wholeD x := by
  unfold wholeD
  by_cases h : costD 20 false x ≤ 40
  · obtain ⟨_, h2, h3⟩ := many_spec 20 false x (Nat.le_refl _) h
    rw [decide_eq_true h, Bool.true_and]
    cases e : fatD 20 x with
    | true =>
      have := h3 e
      exact decide_eq_false (by omega)
    | false =>
      have := h2 e
      exact decide_eq_true (by omega)
  · have := cost_le_many 20 false x
    rw [decide_eq_false h, Bool.false_and]
    exact decide_eq_false (by omega)
theorem drop_one {α : Type} [DecidableEq α] (w : α) : ∀ {l : List α}, l.Nodup → l.length ≤ (l.filter fun s => decide (s ≠ w)).length + 1
  | [], _ => Nat.zero_le _
  | a :: t, h => by
    obtain ⟨h1, h2⟩ := List.nodup_cons.mp h
    by_cases e : a = w
    · subst e
      have e : t.filter (fun s => decide (s ≠ a)) = t := List.filter_eq_self.mpr fun x hx => decide_eq_true (show x ≠ a from fun z => h1 (by rw [← z]; exact hx))
      rw [List.filter_cons_of_neg (by simp), e]
      exact Nat.le_refl _
    · have e2 : decide (a ≠ w) = true := decide_eq_true e
      rw [List.filter_cons, if_pos e2, List.length_cons, List.length_cons]
      have := drop_one w h2
      omega
theorem left_many {α : Type} [DecidableEq α] : ∀ (found : List α) {l : List α}, l.Nodup → l.length ≤ (l.filter fun s => decide (s ∉ found)).length + found.length
  | [], l, _ => by
    rw [List.filter_eq_self.mpr fun x _ => decide_eq_true (by simp)]
    omega
  | w :: t, l, h => by
    have h1 := drop_one w h
    have h2 := left_many t (h.filter fun s => decide (s ≠ w))
    rw [List.filter_filter] at h2
    have e : (l.filter fun s => decide (s ∉ t) && decide (s ≠ w)) = l.filter fun s => decide (s ∉ w :: t) := by
      refine List.filter_congr fun x _ => ?_
      rw [Bool.eq_iff_iff, Bool.and_eq_true, decide_eq_true_eq, decide_eq_true_eq, decide_eq_true_eq, List.mem_cons, not_or]
      exact And.comm
    rw [e] at h2
    rw [List.length_cons]
    omega
/-- nested at most n deep, tuples of at most L things -/
def nst (L : Nat) : Nat → D → Prop
  | 0, x => ∀ xs, x ≠ .tuple xs
  | n + 1, x => ∀ xs, x = .tuple xs → xs.length ≤ L ∧ ∀ y ∈ xs, nst L n y
theorem nst_succ {L : Nat} : ∀ {n : Nat} {x : D}, nst L n x → nst L (n + 1) x
  | 0, x, h => fun xs e => absurd e (h xs)
  | n + 1, x, h => fun xs e => ⟨(h xs e).1, fun y hy => nst_succ ((h xs e).2 y hy)⟩
theorem nst_le {L n m : Nat} {x : D} (h : nst L n x) (hm : n ≤ m) : nst L m x := by
  induction m with
  | zero => rw [Nat.le_zero_eq] at hm; rw [← hm]; exact h
  | succ m ih =>
    by_cases e : n = m + 1
    · rw [← e]; exact h
    · exact nst_succ (ih (by omega))
theorem nst_wide {L M : Nat} (hL : L ≤ M) : ∀ {n : Nat} {x : D}, nst L n x → nst M n x
  | 0, x, h => h
  | n + 1, x, h => fun xs e => ⟨Nat.le_trans (h xs e).1 hL, fun y hy => nst_wide hL ((h xs e).2 y hy)⟩
theorem nst_str {L n : Nat} (s : Str) : nst L n (.str s) := by
  cases n with
  | zero => exact fun xs => nofun
  | succ n => exact fun xs => nofun
theorem nst_int {L n : Nat} (i : Int) : nst L n (.int i) := by
  cases n with
  | zero => exact fun xs => nofun
  | succ n => exact fun xs => nofun
theorem nst_bool {L n : Nat} (i : Bool) : nst L n (.bool i) := by
  cases n with
  | zero => exact fun xs => nofun
  | succ n => exact fun xs => nofun
theorem nst_tup {L n : Nat} {xs : List D} (hl : xs.length ≤ L) (h : ∀ y ∈ xs, nst L n y) : nst L (n + 1) (.tuple xs) := fun ys e => by
  cases e
  exact ⟨hl, h⟩
structure RbA (m w : Nat) (xs : List D) : Prop where
  lay : PyData.canLayAll0 xs = true
  sh : PyData.showableAll xs = true
  dp : PyData.depthAll xs ≤ m
  st : PyData.intsShortAll 64 xs = true
  wt : PyData.weightAll xs ≤ w
theorem RbA.nil (m : Nat) : RbA m 0 [] := ⟨rfl, rfl, by simp [PyData.depthAll], rfl, by simp [PyData.weightAll]⟩
theorem rb_n {i : Int} (h : -20 ≤ i ∧ i ≤ 20) : Rb 0 200 (.int i) := Rb.int (Nat.lt_of_le_of_lt (show i.natAbs ≤ 20 by omega) (by decide))
theorem rb_dd {d : Dd} (h : d.In) : Rb 1 500 d.D := by
  cases d with
  | two w => cases w <;> exact Rb.dec (by decide +kernel)
  | one o =>
    have hw : Rb 0 200 (.str o.W) := by cases o <;> first | exact Rb.dec (by decide +kernel) | exact (Rb.dec (by decide +kernel) : Rb 0 200 (.str "plus")) | exact (Rb.dec (by decide +kernel) : Rb 0 200 (.str "from")) | exact (Rb.dec (by decide +kernel) : Rb 0 200 (.str "below"))
    show Rb 1 500 (.tuple (.str o.W :: o.N))
    rcases op_args o h with ⟨eN, _⟩ | ⟨n, eN, hn, _⟩
    · rw [eN]
      exact (Rb.tup (m := 0) (w := 200) (n := 1) (fun x hx => by rw [List.mem_singleton.mp hx]; exact hw) (Nat.le_refl _)).le (by decide) (by decide)
    · rw [eN]
      refine (Rb.tup (m := 0) (w := 200) (n := 2) (fun x hx => ?_) (Nat.le_refl _)).le (by decide) (by decide)
      rcases List.mem_cons.mp hx with rfl | hx
      · exact hw
      · rw [List.mem_singleton.mp hx]; exact rb_n hn
theorem RbA.cons {m w v : Nat} {x : D} {xs : List D} (h : Rb m w x) (a : RbA m v xs) : RbA m (w + v + 1) (x :: xs) where
  lay := by rw [PyData.canLayAll0, h.lay, a.lay]; rfl
  sh := by rw [PyData.showableAll, h.sh, a.sh]; rfl
  dp := by rw [PyData.depthAll]; exact Nat.max_le.mpr ⟨h.dp, a.dp⟩
  st := by rw [PyData.intsShortAll, h.st, a.st]; rfl
  wt := by
    rw [PyData.weightAll]
    have := h.wt
    have := a.wt
    omega
theorem RbA.tup {m w : Nat} {xs : List D} (a : RbA m w xs) : Rb (m + 1) w (.tuple xs) :=
  ⟨by rw [PyData.canLay0]; exact a.lay, by rw [PyData.showable]; exact a.sh, by rw [PyData.depth]; have := a.dp; omega, by rw [PyData.intsShort]; exact a.st, by rw [PyData.weight]; exact a.wt⟩
theorem Rb.up {m w : Nat} {x : D} (h : Rb m w x) (k : Nat) (hk : m ≤ k) : Rb k w x := h.le hk (Nat.le_refl _)
theorem nm_ok {s : Str} (h : isNameS s = true) : okN 8 s := by
  unfold isNameS at h
  rw [Bool.and_eq_true, Bool.and_eq_true, decide_eq_true_eq, decide_eq_true_eq, List.all_eq_true] at h
  refine ⟨h.1.2, fun c hc => ?_⟩
  have := h.2 c hc
  unfold smallC at this
  rw [Bool.and_eq_true, decide_eq_true_eq, decide_eq_true_eq] at this
  omega
theorem nm_okS {s : Str} (h : isNameS s = true) : okS s := ⟨by have := (nm_ok h).1; omega, (nm_ok h).2⟩
theorem nm_rb {s : Str} (h : isNameS s = true) : Rb 0 8 (.str s) := Rb.str (nm_ok h)
theorem nm_pla {s : Str} (h : isNameS s = true) : PlA (.str s) := .str s (nm_okS h)
theorem okN_S {n : Nat} {s : Str} (h : okN n s) (hn : n ≤ 100) : okS s := ⟨by have := h.1; omega, h.2⟩
theorem lit_pla {s : Str} (h : okNb 100 s = true) : PlA (.str s) := .str s (okN_S (okN_b h) (Nat.le_refl _))
theorem dd_plA {d : Dd} (h : d.In) : PlA d.D ∧ nst 9 1 d.D ∧ isDeedD d.D (d.n : Nat) = true := by
  cases d with
  | two w => cases w <;> exact ⟨.tup _ fun x hx => by rw [List.mem_singleton.mp hx]; exact lit_pla (by decide +kernel), nst_tup (by decide) fun x hx => by rw [List.mem_singleton.mp hx]; exact nst_str _, by decide +kernel⟩
  | one o =>
    have one : ∀ w : Str, okNb 100 w = true → (ofOne.any fun z => (PyData.str z).eqv (.str w)) = true → PlA (.tuple [.str w]) ∧ nst 9 1 (.tuple [.str w]) ∧ isDeedD (.tuple [.str w]) ((1 : Nat) : Int) = true := fun w h1 h2 => ⟨.tup _ fun x hx => by rw [List.mem_singleton.mp hx]; exact lit_pla h1, nst_tup (by simp) fun x hx => by rw [List.mem_singleton.mp hx]; exact nst_str _, h2⟩
    have num : ∀ (w : Str) (n : Int), -20 ≤ n ∧ n ≤ 20 → okNb 100 w = true → (byNum.any fun z => (PyData.str z).eqv (.str w)) = true → PlA (.tuple [.str w, .int n]) ∧ nst 9 1 (.tuple [.str w, .int n]) ∧ isDeedD (.tuple [.str w, .int n]) ((1 : Nat) : Int) = true := fun w n hn h1 h2 => ⟨.tup _ fun x hx => by
        rcases List.mem_cons.mp hx with rfl | hx
        · exact lit_pla h1
        · rw [List.mem_singleton.mp hx]; exact .int n, nst_tup (by simp) fun x hx => by
        rcases List.mem_cons.mp hx with rfl | hx
        · exact nst_str _
        · rw [List.mem_singleton.mp hx]; exact nst_int _, by
        show (decide (((1 : Nat) : Int) = 1) && ((byNum.any fun z => (PyData.str z).eqv (.str w)) && isNumD (.int n))) = true
        rw [h2]
        show (decide (-20 ≤ n) && decide (n ≤ 20)) = true
        rw [decide_eq_true hn.1, decide_eq_true hn.2]
        rfl⟩
    cases o with
    | plus n => exact num "plus" n h (by decide +kernel) (by decide +kernel)
    | frm n => exact num "from" n h (by decide +kernel) (by decide +kernel)
    | below n => exact num "below" n h (by decide +kernel) (by decide +kernel)
    | _ => exact one _ (by decide +kernel) (by decide +kernel)
/-- drawn terms: n levels there may be, within a going or not, of k terms -/
inductive OkT : Nat → Bool → Nat → D → Prop
  | tell {n : Nat} {g : Bool} {a : Str} (h : isNameS a = true) : OkT (n + 1) g 1 (.tuple [.str "tell", .str a])
  | lt {n k : Nat} {g : Bool} {a : Str} {d : Dd} {ns : List Str} {t : D} (ha : isNameS a = true) (hd : d.In) (hn : ∀ s ∈ ns, isNameS s = true) (hl : ns.length = d.n) (h : OkT n g k t) : OkT (n + 1) g (k + 1) (.tuple [.str "let", .str a, d.D, .tuple (ns.map .str), t])
  | many {n k l : Nat} {g : Bool} {a : Str} {i : Int} {t u : D} (ha : isNameS a = true) (hi : 0 ≤ i ∧ i ≤ 7) (h : OkT n g k t) (h2 : OkT n g l u) : OkT (n + 1) g (k + l + 1) (.tuple [.str "part", .str a, .str "many", .int i, t, u])
  | sum {n k l : Nat} {g : Bool} {a : Str} {i : Int} {t u : D} (ha : isNameS a = true) (hi : -160 ≤ i ∧ i ≤ 159) (h : OkT n g k t) (h2 : OkT n g l u) : OkT (n + 1) g (k + l + 1) (.tuple [.str "part", .str a, .str "sum", .int i, t, u])
  | going {n k l : Nat} {a n1 n2 n3 n4 : Str} {t u : D} (ha : isNameS a = true) (h1 : isNameS n1 = true) (h2 : isNameS n2 = true) (h3 : isNameS n3 = true) (h4 : isNameS n4 = true) (h : OkT n true k t) (hk : k ≤ 16) (hu : OkT n false l u) : OkT (n + 1) false (k + l + 1) (.tuple [.str "going", .str a, .tuple [.str n1, .str n2, .str n3, .str n4, t], u])
theorem okT_form {n k : Nat} {g : Bool} {x : D} (h : OkT n g k x) : formD x = true := by
  cases h with
  | @tell n g a h => show (isNameS _ && decide (Str.ofString "tell" = Str.ofString "tell")) = true; rw [h, decide_eq_true rfl]; rfl
  | @lt n k g a d ns t ha hd hn hl h =>
    show (isNameS _ && (decide (Str.ofString "let" = Str.ofString "let") && ((decide (1 ≤ (ns.map PyData.str).length) && decide ((ns.map PyData.str).length ≤ 2)) && (isDeedD d.D ((ns.map PyData.str).length : Nat) && (decide ((ns.map PyData.str).length = (ns.map PyData.str).length) && (ns.map PyData.str).all isNameD))))) = true
    have h9 := (dd_plA hd).2.2
    have hb := dn_le d
    rw [List.length_map, hl, ha, h9, decide_eq_true hb.1, decide_eq_true hb.2, decide_eq_true rfl, decide_eq_true rfl]
    rw [List.all_eq_true.mpr fun x hx => by
      obtain ⟨s, hs, rfl⟩ := List.mem_map.mp hx
      exact hn s hs]
    rfl
  | @many n k l g a i t u ha hi h h2 =>
    show (isNameS _ && (decide (Str.ofString "part" = Str.ofString "part") && (if (Str.ofString "many") = "many" then isWholeD (.int i) 0 7 else if (Str.ofString "many") = "sum" then isWholeD (.int i) (-160) 159 else false))) = true
    rw [ha, decide_eq_true rfl, if_pos rfl]
    show (decide (0 ≤ i) && decide (i ≤ 7)) = true
    rw [decide_eq_true hi.1, decide_eq_true hi.2]
    rfl
  | @sum n k l g a i t u ha hi h h2 =>
    show (isNameS _ && (decide (Str.ofString "part" = Str.ofString "part") && (if (Str.ofString "sum") = "many" then isWholeD (.int i) 0 7 else if (Str.ofString "sum") = "sum" then isWholeD (.int i) (-160) 159 else false))) = true
    rw [ha, decide_eq_true rfl, if_neg (by decide), if_pos rfl]
    show (decide (-160 ≤ i) && decide (i ≤ 159)) = true
    rw [decide_eq_true hi.1, decide_eq_true hi.2]
    rfl
  | @going n k l a n1 n2 n3 n4 t u ha h1 h2 h3 h4 h hk hu =>
    show (isNameS _ && (decide (Str.ofString "going" = Str.ofString "going") && (isNameS _ && (isNameS _ && (isNameS _ && isNameS _))))) = true
    rw [ha, h1, h2, h3, h4, decide_eq_true rfl]
    rfl
theorem okT_cost : ∀ {n k : Nat} {g : Bool} {x : D}, OkT n g k x → costD n g x = k ∧ goodD n x = true ∧ (placesD n x).length = k
  | _, _, g, _, h => by
    have hf := okT_form h
    cases h with
    | @tell n _ a h =>
      refine ⟨?_, ?_, rfl⟩
      · rw [cost_ok (by rw [hf, go_tell]; rfl)]
        rfl
      · show (formD _ && true) = true
        rw [hf]; rfl
    | @lt n k _ a d ns t ha hd hn hl h =>
      obtain ⟨h1, h2, h3⟩ := okT_cost h
      refine ⟨?_, ?_, ?_⟩
      · rw [cost_ok (by rw [hf, go_let]; rfl)]
        show 1 + (costD n g t + 0) = _
        omega
      · show (formD _ && (goodD n t && true)) = true
        rw [hf, h2]; rfl
      · show (_ :: ([t].flatMap (placesD n))).length = _
        simp [h3]
    | @many n k l _ a i t u ha hi h h' =>
      obtain ⟨h1, h2, h3⟩ := okT_cost h
      obtain ⟨i1, i2, i3⟩ := okT_cost h'
      refine ⟨?_, ?_, ?_⟩
      · rw [cost_ok (by rw [hf, go_part]; rfl)]
        show 1 + (costD n g u + (costD n (g || isGoD _) t + 0)) = _
        rw [go_part, Bool.or_false]
        omega
      · show (formD _ && (goodD n t && (goodD n u && true))) = true
        rw [hf, h2, i2]; rfl
      · show (_ :: ([t, u].flatMap (placesD n))).length = _
        simp [h3, i3]
    | @sum n k l _ a i t u ha hi h h' =>
      obtain ⟨h1, h2, h3⟩ := okT_cost h
      obtain ⟨i1, i2, i3⟩ := okT_cost h'
      refine ⟨?_, ?_, ?_⟩
      · rw [cost_ok (by rw [hf, go_part]; rfl)]
        show 1 + (costD n g u + (costD n (g || isGoD _) t + 0)) = _
        rw [go_part, Bool.or_false]
        omega
      · show (formD _ && (goodD n t && (goodD n u && true))) = true
        rw [hf, h2, i2]; rfl
      · show (_ :: ([t, u].flatMap (placesD n))).length = _
        simp [h3, i3]
    | @going n k l a n1 n2 n3 n4 t u ha h1 h2 h3 h4 h hk hu =>
      obtain ⟨j1, j2, j3⟩ := okT_cost h
      obtain ⟨i1, i2, i3⟩ := okT_cost hu
      refine ⟨?_, ?_, ?_⟩
      · rw [cost_ok (by rw [hf, Bool.and_false]; rfl)]
        show 1 + (costD n false u + (costD n (false || isGoD (.tuple [.str "going", .str a, .tuple [.str n1, .str n2, .str n3, .str n4, t], u])) t + 0)) = k + l + 1
        rw [go_going, Bool.false_or]
        omega
      · show (formD _ && (goodD n t && (goodD n u && true))) = true
        rw [hf, j2, i2]; rfl
      · show (_ :: ([t, u].flatMap (placesD n))).length = _
        simp [j3, i3]
theorem okT_fat : ∀ {n k : Nat} {g : Bool} {x : D}, n ≤ 20 → OkT n g k x → fatD n x = false
  | _, _, _, _, hn, h => by
    cases h with
    | @tell n _ a h => rw [fat_succ, go_tell]; rfl
    | @lt n k _ a d ns t ha hd hn' hl h =>
      rw [fat_succ, go_let]
      show (false || (fatD _ _ || false)) = false
      rw [okT_fat (by omega) h]; rfl
    | @many n k l _ a i t u ha hi h h' =>
      rw [fat_succ, go_part]
      show (false || (fatD _ _ || (fatD _ _ || false))) = false
      rw [okT_fat (by omega) h, okT_fat (by omega) h']; rfl
    | @sum n k l _ a i t u ha hi h h' =>
      rw [fat_succ, go_part]
      show (false || (fatD _ _ || (fatD _ _ || false))) = false
      rw [okT_fat (by omega) h, okT_fat (by omega) h']; rfl
    | @going n k l a n1 n2 n3 n4 t u ha h1 h2 h3 h4 h hk hu =>
      rw [fat_succ]
      obtain ⟨j1, j2, j3⟩ := okT_cost h
      have e : innerL (.tuple [.str "going", .str a, .tuple [.str n1, .str n2, .str n3, .str n4, t], u]) = k := by
        show (placesD 20 t).length = k
        rw [places_le j2 (by omega), j3]
      rw [e, decide_eq_false (by omega), Bool.and_false]
      show (false || (fatD _ _ || (fatD _ _ || false))) = false
      rw [okT_fat (by omega) h, okT_fat (by omega) hu]; rfl
theorem okT_whole {k : Nat} {x : D} (h : OkT 20 false k x) (hk : k ≤ 40) : wholeD x = true := by
  unfold wholeD
  rw [(okT_cost h).1, okT_fat (Nat.le_refl _) h, decide_eq_true hk]
  rfl
theorem five_in {P : D → Prop} {a b c d e : D} (ha : P a) (hb : P b) (hc : P c) (hd : P d) (he : P e) : ∀ x ∈ [a, b, c, d, e], P x := fun x hx => by
  simp only [List.mem_cons, List.not_mem_nil, or_false] at hx
  rcases hx with rfl | rfl | rfl | rfl | rfl <;> assumption
theorem four_in {P : D → Prop} {a b c d : D} (ha : P a) (hb : P b) (hc : P c) (hd : P d) : ∀ x ∈ [a, b, c, d], P x := fun x hx => by
  simp only [List.mem_cons, List.not_mem_nil, or_false] at hx
  rcases hx with rfl | rfl | rfl | rfl <;> assumption
theorem three_in {P : D → Prop} {a b c : D} (ha : P a) (hb : P b) (hc : P c) : ∀ x ∈ [a, b, c], P x := fun x hx => by
  simp only [List.mem_cons, List.not_mem_nil, or_false] at hx
  rcases hx with rfl | rfl | rfl <;> assumption
theorem two_in {P : D → Prop} {a b : D} (ha : P a) (hb : P b) : ∀ x ∈ [a, b], P x := fun x hx => by
  simp only [List.mem_cons, List.not_mem_nil, or_false] at hx
  rcases hx with rfl | rfl <;> assumption
theorem six_in {P : D → Prop} {a b c d e f : D} (ha : P a) (hb : P b) (hc : P c) (hd : P d) (he : P e) (hf : P f) : ∀ x ∈ [a, b, c, d, e, f], P x := fun x hx => by
  simp only [List.mem_cons, List.not_mem_nil, or_false] at hx
  rcases hx with rfl | rfl | rfl | rfl | rfl | rfl <;> assumption
theorem strs_all {P : D → Prop} {ns : List Str} (h : ∀ s ∈ ns, P (.str s)) : ∀ x ∈ ns.map PyData.str, P x := fun x hx => by
  obtain ⟨s, hs, rfl⟩ := List.mem_map.mp hx
  exact h s hs
theorem okT_pla : ∀ {n k : Nat} {g : Bool} {x : D}, OkT n g k x → PlA x
  | _, _, _, _, .tell h => .tup _ (two_in (lit_pla (by decide +kernel)) (nm_pla h))
  | _, _, _, _, .lt ha hd hn _ h => .tup _ (five_in (lit_pla (by decide +kernel)) (nm_pla ha) (dd_plA hd).1 (.tup _ (strs_all fun s hs => nm_pla (hn s hs))) (okT_pla h))
  | _, _, _, _, .many ha _ h h2 => .tup _ (six_in (lit_pla (by decide +kernel)) (nm_pla ha) (lit_pla (by decide +kernel)) (.int _) (okT_pla h) (okT_pla h2))
  | _, _, _, _, .sum ha _ h h2 => .tup _ (six_in (lit_pla (by decide +kernel)) (nm_pla ha) (lit_pla (by decide +kernel)) (.int _) (okT_pla h) (okT_pla h2))
  | _, _, _, _, .going ha h1 h2 h3 h4 h _ hu => .tup _ (four_in (lit_pla (by decide +kernel)) (nm_pla ha) (.tup _ (five_in (nm_pla h1) (nm_pla h2) (nm_pla h3) (nm_pla h4) (okT_pla h))) (okT_pla hu))
theorem okT_nst : ∀ {n k : Nat} {g : Bool} {x : D}, OkT n g k x → nst 9 (2 * n) x
  | _, _, _, _, .tell h => nst_le (nst_tup (n := 1) (by simp) (two_in (nst_str _) (nst_str _))) (by omega)
  | _, _, _, _, .lt (n := n) (d := d) (ns := ns) ha hd hn hl h => nst_le (nst_tup (n := 2 * n + 1) (by simp) (five_in (nst_str _) (nst_str _) (nst_le (dd_plA hd).2.1 (by omega)) (nst_tup (by rw [List.length_map, hl]; have := dn_le d; omega) (strs_all fun s _ => nst_str _)) (nst_le (okT_nst h) (by omega)))) (by omega)
  | _, _, _, _, .many (n := n) ha _ h h2 => nst_le (nst_tup (n := 2 * n) (by simp) (six_in (nst_str _) (nst_str _) (nst_str _) (nst_int _) (okT_nst h) (okT_nst h2))) (by omega)
  | _, _, _, _, .sum (n := n) ha _ h h2 => nst_le (nst_tup (n := 2 * n) (by simp) (six_in (nst_str _) (nst_str _) (nst_str _) (nst_int _) (okT_nst h) (okT_nst h2))) (by omega)
  | _, _, _, _, .going (n := n) ha h1 h2 h3 h4 h _ hu => nst_le (nst_tup (n := 2 * n + 1) (by simp) (four_in (nst_str _) (nst_str _) (nst_tup (by simp) (five_in (nst_str _) (nst_str _) (nst_str _) (nst_str _) (okT_nst h))) (nst_le (okT_nst hu) (by omega)))) (by omega)
theorem rb_names : ∀ {ns : List Str}, (∀ s ∈ ns, isNameS s = true) → RbA 0 (9 * ns.length) (ns.map .str)
  | [], _ => .nil 0
  | s :: t, h => by
    have a := rb_names (ns := t) fun x hx => h x (List.mem_cons_of_mem _ hx)
    have e := RbA.cons (nm_rb (h s List.mem_cons_self)) a
    rw [List.map_cons, List.length_cons, show 9 * (t.length + 1) = 8 + 9 * t.length + 1 by omega]
    exact e
theorem Rb.wd {m w w' : Nat} {x : D} (h : Rb m w x) (hw : w ≤ w') : Rb m w' x := h.le (Nat.le_refl _) hw
theorem okT_rb : ∀ {n k : Nat} {g : Bool} {x : D}, OkT n g k x → Rb (2 * n) (1000 * k) x
  | _, _, _, _, .tell (n := n) h => ((RbA.cons (m := 2 * n + 1) ((Rb.dec (m := 0) (w := 8) (by decide +kernel)).up _ (by omega)) (.cons ((nm_rb h).up _ (by omega)) (.nil _))).tup.up _ (by omega)).wd (by omega)
  | _, _, _, _, .lt (n := n) (d := d) (ns := ns) ha hd hn hl h => ((RbA.cons (m := 2 * n + 1) ((Rb.dec (m := 0) (w := 8) (by decide +kernel)).up _ (by omega)) (.cons ((nm_rb ha).up _ (by omega)) (.cons ((rb_dd hd).up _ (by omega)) (.cons ((rb_names hn).tup.up _ (by omega)) (.cons ((okT_rb h).up _ (by omega)) (.nil _)))))).tup.up _ (by omega)).wd (by rw [hl]; have := dn_le d; omega)
  | _, _, _, _, .many (n := n) ha hi h h2 => ((RbA.cons (m := 2 * n + 1) ((Rb.dec (m := 0) (w := 8) (by decide +kernel)).up _ (by omega)) (.cons ((nm_rb ha).up _ (by omega)) (.cons ((Rb.dec (m := 0) (w := 8) (by decide +kernel)).up _ (by omega)) (.cons ((Rb.int (Nat.lt_of_le_of_lt (m := 160) (by omega) (by decide))).up _ (by omega)) (.cons ((okT_rb h).up _ (by omega)) (.cons ((okT_rb h2).up _ (by omega)) (.nil _))))))).tup.up _ (by omega)).wd (by omega)
  | _, _, _, _, .sum (n := n) ha hi h h2 => ((RbA.cons (m := 2 * n + 1) ((Rb.dec (m := 0) (w := 8) (by decide +kernel)).up _ (by omega)) (.cons ((nm_rb ha).up _ (by omega)) (.cons ((Rb.dec (m := 0) (w := 8) (by decide +kernel)).up _ (by omega)) (.cons ((Rb.int (Nat.lt_of_le_of_lt (m := 160) (by omega) (by decide))).up _ (by omega)) (.cons ((okT_rb h).up _ (by omega)) (.cons ((okT_rb h2).up _ (by omega)) (.nil _))))))).tup.up _ (by omega)).wd (by omega)
  | _, _, _, _, .going (n := n) ha h1 h2 h3 h4 h _ hu => ((RbA.cons (m := 2 * n + 1) ((Rb.dec (m := 0) (w := 8) (by decide +kernel)).up _ (by omega)) (.cons ((nm_rb ha).up _ (by omega)) (.cons ((RbA.cons (m := 2 * n) ((nm_rb h1).up _ (by omega)) (.cons ((nm_rb h2).up _ (by omega)) (.cons ((nm_rb h3).up _ (by omega)) (.cons ((nm_rb h4).up _ (by omega)) (.cons (okT_rb h) (.nil _)))))).tup) (.cons ((okT_rb hu).up _ (by omega)) (.nil _))))).tup.up _ (by omega)).wd (by omega)
theorem kind_ok {x : D} (h : isKindD x = true) : PlA x ∧ nst 9 1 x ∧ Rb 1 2000 x := by
  cases x with
  | tuple xs =>
    have h : (decide (xs.length = 9) && partsFrom 0 xs) = true := h
    rw [Bool.and_eq_true, decide_eq_true_eq] at h
    obtain ⟨hl, h⟩ := h
    have part : ∀ (i : Nat) (y : D), isPartD i y = true → PlA y ∧ nst 9 0 y ∧ Rb 0 200 y := fun i y hy => by
      have num : ∀ a b : Int, -160 ≤ a → b ≤ 160 → isWholeD y a b = true → PlA y ∧ nst 9 0 y ∧ Rb 0 200 y := fun a b ha hb hy => by
        obtain ⟨n, rfl, h1, h2⟩ := whole_int hy
        exact ⟨.int n, nst_int _, Rb.int (Nat.lt_of_le_of_lt (m := 160) (by omega) (by decide))⟩
      unfold isPartD at hy
      split at hy
      · exact num _ _ (by decide) (by decide) hy
      · split at hy
        · exact num _ _ (by decide) (by decide) hy
        · split at hy
          · cases y with
            | bool b => exact ⟨.bl b, nst_bool _, (Rb.bool b).wd (by decide)⟩
            | _ => cases hy
          · exact num _ _ (by decide) (by decide) hy
    have all : ∀ (xs : List D) (i : Nat), partsFrom i xs = true → ∀ y ∈ xs, PlA y ∧ nst 9 0 y ∧ Rb 0 200 y := fun xs => by
      induction xs with
      | nil => exact fun _ _ => nofun
      | cons a t ih =>
        intro i h y hy
        have h : (isPartD i a && partsFrom (i + 1) t) = true := h
        rw [Bool.and_eq_true] at h
        rcases List.mem_cons.mp hy with rfl | hy
        · exact part i _ h.1
        · exact ih _ h.2 y hy
    have al := all xs 0 h
    exact ⟨.tup xs fun y hy => (al y hy).1, nst_tup (by omega) fun y hy => (al y hy).2.1, (Rb.tup (n := 9) (fun y hy => (al y hy).2.2) (by omega)).wd (by decide)⟩
  | _ => cases h
/-- a drawn program -/
structure DrP (x : D) : Prop where
  is : isProgD x = true
  pl : PlA x
  ns : nst 9 50 x
  rb : Rb 50 60000 x
theorem prog_ok {ps : List (Str × D)} {r t : D} {k : Nat} (hl : ps.length ≤ 4) (hp : ∀ p ∈ ps, isNameS p.1 = true ∧ isKindD p.2 = true) (hr : isKindD r = true) (ht : OkT 20 false k t) (hk : k ≤ 40) : DrP (.tuple [.tuple (ps.map fun p => .tuple [.str p.1, p.2]), r, t]) where
  is := by
    show ((decide ((ps.map fun p : Str × D => PyData.tuple [.str p.1, p.2]).length ≤ 4) && (ps.map fun p : Str × D => PyData.tuple [.str p.1, p.2]).all paramD) && (isKindD r && wholeD t)) = true
    rw [List.length_map, decide_eq_true hl, hr, okT_whole ht hk, List.all_eq_true.mpr fun x hx => by
      obtain ⟨p, hp2, rfl⟩ := List.mem_map.mp hx
      show (isNameS p.1 && isKindD p.2) = true
      rw [(hp p hp2).1, (hp p hp2).2]
      rfl]
    rfl
  pl := .tup _ (three_in (.tup _ fun x hx => by
    obtain ⟨p, hp2, rfl⟩ := List.mem_map.mp hx
    exact .tup _ (two_in (nm_pla (hp p hp2).1) (kind_ok (hp p hp2).2).1)) (kind_ok hr).1 (okT_pla ht))
  ns := nst_tup (by simp) (three_in (nst_le (nst_tup (n := 2) (by rw [List.length_map]; omega) fun x hx => by
    obtain ⟨p, hp2, rfl⟩ := List.mem_map.mp hx
    exact nst_tup (by simp) (two_in (nst_str _) (kind_ok (hp p hp2).2).2.1)) (by decide)) (nst_le (kind_ok hr).2.1 (by decide)) (nst_le (okT_nst ht) (by decide)))
  rb := by
    have h1 : Rb 3 9000 (.tuple (ps.map fun p : Str × D => PyData.tuple [.str p.1, p.2])) := (Rb.tup (m := 2) (w := 2012) (n := 4) (fun x hx => by
      obtain ⟨p, hp2, rfl⟩ := List.mem_map.mp hx
      exact ((RbA.cons (m := 1) ((nm_rb (hp p hp2).1).up _ (by omega)) (.cons (kind_ok (hp p hp2).2).2.2 (.nil _))).tup).wd (by omega)) (by rw [List.length_map]; exact hl)).wd (by omega)
    exact ((RbA.cons (m := 49) (h1.up _ (by omega)) (.cons ((kind_ok hr).2.2.up _ (by omega)) (.cons ((okT_rb ht).up _ (by omega)) (.nil _)))).tup).wd (by omega)
/-- a thousand lets, and parts that share their inner one -/
def letN : Nat → D
  | 0 => .tuple [.str "tell", .str "x"]
  | n + 1 => .tuple [.str "let", .str "y", .tuple [.str "turn"], .tuple [.str "x"], letN n]
theorem letN_pla : ∀ n, PlA (letN n)
  | 0 => .tup _ (two_in (lit_pla (by decide +kernel)) (lit_pla (by decide +kernel)))
  | n + 1 => .tup _ (five_in (lit_pla (by decide +kernel)) (lit_pla (by decide +kernel)) (.tup _ fun x hx => by rw [List.mem_singleton.mp hx]; exact lit_pla (by decide +kernel)) (.tup _ fun x hx => by rw [List.mem_singleton.mp hx]; exact lit_pla (by decide +kernel)) (letN_pla n))
theorem cost_let1 (n : Nat) (g : Bool) (a b c t : D) : costD n g t + 1 ≤ costD (n + 1) g (.tuple [.str "let", a, b, c, t]) ∨ 100 ≤ costD (n + 1) g (.tuple [.str "let", a, b, c, t]) := by
  cases e : (!formD (.tuple [.str "let", a, b, c, t]) || (isGoD (.tuple [.str "let", a, b, c, t]) && g)) with
  | true => right; rw [cost_bad e]; exact Nat.le_refl _
  | false =>
    left
    rw [cost_ok e]
    show _ ≤ 1 + (costD n g t + 0)
    omega
theorem cost_part1 (n : Nat) (g : Bool) (a b c t u : D) : costD n g u + 1 ≤ costD (n + 1) g (.tuple [.str "part", a, b, c, t, u]) ∨ 100 ≤ costD (n + 1) g (.tuple [.str "part", a, b, c, t, u]) := by
  cases e : (!formD (.tuple [.str "part", a, b, c, t, u]) || (isGoD (.tuple [.str "part", a, b, c, t, u]) && g)) with
  | true => right; rw [cost_bad e]; exact Nat.le_refl _
  | false =>
    left
    rw [cost_ok e]
    show _ ≤ 1 + (costD n g u + (costD n (g || isGoD _) t + 0))
    omega
theorem cost_going1 (n : Nat) (g : Bool) (a n1 n2 n3 n4 t u : D) : costD n true t + 1 ≤ costD (n + 1) g (.tuple [.str "going", a, .tuple [n1, n2, n3, n4, t], u]) ∨ 100 ≤ costD (n + 1) g (.tuple [.str "going", a, .tuple [n1, n2, n3, n4, t], u]) := by
  cases e : (!formD (.tuple [.str "going", a, .tuple [n1, n2, n3, n4, t], u]) || (isGoD (.tuple [.str "going", a, .tuple [n1, n2, n3, n4, t], u]) && g)) with
  | true => right; rw [cost_bad e]; exact Nat.le_refl _
  | false =>
    left
    rw [cost_ok e]
    show _ ≤ 1 + (costD n g u + (costD n (g || isGoD _) t + 0))
    rw [go_going, Bool.or_true]
    omega
theorem prog_bad {p k t : D} (h : 100 ≤ costD 20 false t) : isProgD (.tuple [p, k, t]) = false := by
  have hw : wholeD t = false := by
    unfold wholeD
    rw [decide_eq_false (by omega)]
    rfl
  show progF p k t = false
  unfold progF
  split
  · rw [hw, Bool.and_false, Bool.and_false]
  · rfl
def FF__law_inner : FW T2 := fun rs τ Q => ∃ x, rs = [.d x] ∧ PlA x ∧ (formD x = true → Q (.ol (kidsD x)) τ) ∧ (formD x = false → Q (.d .none) τ)
def FF__law_many_ : Nat → FW T2
  | 0 => fun _ _ _ => False
  | k + 1 => fun rs τ Q => ∃ (n : Nat) (g : Bool) (x : D), rs = [.d x, .d (.int (21 - (n : Int))), .d (.bool g)] ∧ PlA x ∧ n ≤ k ∧ n ≤ 20 ∧ Q (.d (.int (manyD n g x : Nat))) τ
abbrev FF__law_many : FW T2 := FF__law_many_ 24
def FF__law_is_told : FW T2 := fun rs τ Q => ∃ x, rs = [.d x] ∧ PlA x ∧ Q (.d (.bool (isProgD x))) τ
def FF__law_right : FW T2 := fun rs τ Q => ∃ x, rs = [.d x] ∧ PlA x ∧ Q (.d (.bool true)) τ
theorem deed_nstr {a : D} {t : List D} {m : Int} (h : ∀ w, a ≠ .str w) : isDeedD (.tuple (a :: t)) m = false := by
  unfold isDeedD
  split
  · rename_i e
    cases e
    exact absurd rfl (h _)
  · rename_i e
    cases e
    exact absurd rfl (h _)
  · rfl
theorem filt_no28 (l : List Nat) : ((l.filter fun c => !smallC c).map sg).isEmpty = l.all smallC := by
  induction l with
  | nil => rfl
  | cons a t ih =>
    rw [List.filter_cons, List.all_cons, ← ih]
    cases smallC a <;> rfl
theorem filt_non {α : Type} (f : α → D) (p : α → Bool) (l : List α) : ((l.filter fun c => !p c).map f).isEmpty = l.all p := by
  induction l with
  | nil => rfl
  | cons a t ih =>
    rw [List.filter_cons, List.all_cons, ← ih]
    cases p a <;> rfl
theorem kDix_at {ks : List Str} {ts : List (W T2)} {tw : W T2} {env : List SV} {Q : SV → T2 → Prop} {τ : T2} (xs : List D) (w : Str) (x : D)
    (h1 : ∀ τ' (R : List SV → T2 → Prop), R (xs.map .d) τ' → dVs ts env τ' R) (h2 : ∀ τ' (R : SV → T2 → Prop), R (.d (.str w)) τ' → tw env τ' R) (h3 : dixL ks xs w = some x) (q : ∀ p, Q (.d x) ⟨τ.dr, (p, .dk ((ks.zip xs).map fun e => (.inr e.1, e.2))) :: τ.cs⟩) : kDix1 ks ts tw env Q τ := by
  intro p hp
  refine h1 _ _ ⟨xs, ?_, cget_hd, ?_⟩
  · clear h1 h2 h3 q
    induction xs with
    | nil => rfl
    | cons a t ih => rw [List.map_cons]; unfold allD; rw [ih]; rfl
  · rw [cset_hd]
    exact h2 _ _ ⟨w, x, rfl, cget_hd, h3, q p⟩
theorem are_kind (x : D) : areD ["number", "number", "size", "size", "truth", "truth", "truth", "sum", "sum"] x = isKindD x := by
  cases x with
  | tuple xs =>
    show (decide (xs.length = 9) && _) = (decide (xs.length = 9) && partsFrom 0 xs)
    by_cases e : xs.length = 9
    · obtain ⟨x0, x1, x2, x3, x4, x5, x6, x7, x8, rfl⟩ := nine e
      refine congrArg (decide _ && ·) ?_
      show (sortB "number" x0 && (sortB "number" x1 && (sortB "size" x2 && (sortB "size" x3 && (sortB "truth" x4 && (sortB "truth" x5 && (sortB "truth" x6 && (sortB "sum" x7 && (sortB "sum" x8 && true))))))))) = (isPartD 0 x0 && (isPartD 1 x1 && (isPartD 2 x2 && (isPartD 3 x3 && (isPartD 4 x4 && (isPartD 5 x5 && (isPartD 6 x6 && (isPartD 7 x7 && (isPartD 8 x8 && true)))))))))
      rfl
    · rw [decide_eq_false e]; rfl
  | _ => rfl
theorem sort_name (x : D) : sortB "name" x = isNameD x := rfl
theorem are_names (m : Nat) (x : D) : areD (List.replicate m "name") x = areNamesD x m := by
  cases x with
  | tuple xs =>
    show (decide (xs.length = (List.replicate m (Str.ofString "name")).length) && _) = (decide (xs.length = m) && xs.all isNameD)
    rw [List.length_replicate]
    by_cases e : xs.length = m
    · refine congrArg (decide _ && ·) ?_
      subst e
      induction xs with
      | nil => rfl
      | cons a t ih =>
        rw [List.length_cons, List.replicate_succ, List.zip_cons_cons, List.all_cons, List.all_cons, ih]
        rfl
    · rw [decide_eq_false e]; rfl
  | _ => rfl
theorem deed_num {w : Str} {t : List D} (e : ((PyData.str (Str.ofString "plus")).eqv (PyData.str w) || ((PyData.str (Str.ofString "from")).eqv (PyData.str w) || (PyData.str (Str.ofString "below")).eqv (PyData.str w))) = true) : isDeedD (.tuple (.str w :: t)) ((1 : Nat) : Int) = areD ["number"] (.tuple t) := by
  have eb : (byNum.any fun z => (PyData.str z).eqv (.str w)) = true := by
    rw [show (byNum.any fun z => (PyData.str z).eqv (.str w)) = ((PyData.str (Str.ofString "plus")).eqv (PyData.str w) || ((PyData.str (Str.ofString "from")).eqv (PyData.str w) || ((PyData.str (Str.ofString "below")).eqv (PyData.str w) || false))) from rfl, Bool.or_false]
    exact e
  match t with
  | [] =>
    have : (ofOne.any fun z => (PyData.str z).eqv (.str w)) = false := by
      simp only [str_eqv, Bool.or_eq_true, decide_eq_true_eq] at e
      rcases e with rfl | rfl | rfl <;> decide +kernel
    exact this
  | [y] =>
    show (decide (((1 : Nat) : Int) = 1) && ((byNum.any fun z => (PyData.str z).eqv (.str w)) && isNumD y)) = (sortB "number" y && true)
    rw [eb, Bool.and_true]
    rfl
  | a :: b :: r => rfl
theorem deed_one28 {w : Str} {t : List D} (e : ((PyData.str (Str.ofString "plus")).eqv (PyData.str w) || ((PyData.str (Str.ofString "from")).eqv (PyData.str w) || (PyData.str (Str.ofString "below")).eqv (PyData.str w))) = false) : isDeedD (.tuple (.str w :: t)) ((1 : Nat) : Int) = (decide (t.length = 0) && ofOne.any fun z => (PyData.str z).eqv (.str w)) := by
  have eb : (byNum.any fun z => (PyData.str z).eqv (.str w)) = false := by
    rw [show (byNum.any fun z => (PyData.str z).eqv (.str w)) = ((PyData.str (Str.ofString "plus")).eqv (PyData.str w) || ((PyData.str (Str.ofString "from")).eqv (PyData.str w) || ((PyData.str (Str.ofString "below")).eqv (PyData.str w) || false))) from rfl, Bool.or_false]
    exact e
  match t with
  | [] => exact (Bool.true_and _).symm
  | [y] =>
    show (decide (((1 : Nat) : Int) = 1) && ((byNum.any fun z => (PyData.str z).eqv (.str w)) && isNumD y)) = (decide (1 = 0) && _)
    rw [eb]
    rfl
  | a :: b :: r => rfl
theorem deed_two28 {w : Str} {t : List D} : isDeedD (.tuple (.str w :: t)) ((2 : Nat) : Int) = (t.isEmpty && (decide (Str.ofString "join" = w) || (decide (Str.ofString "put" = w) || decide (Str.ofString "into" = w)))) := by
  match t with
  | [] =>
    show (ofTwo.any fun z => (PyData.str z).eqv (.str w)) = _
    simp only [ofTwo, List.any_cons, List.any_nil, str_eqv, Bool.or_false]
    rfl
  | [y] => rfl
  | a :: b :: r => rfl
theorem split_nine : Txt.split "turn order first last rest least most many sum" " " = ofOne := by decide +kernel
theorem gIn_strs28 {w : Str} {ws : List Str} {Q : SV → Prop} (h : Q (.d (.bool (ws.any fun z => (PyData.str z).eqv (.str w))))) : gIn false (.d (.str w)) (.ol (ws.map .str)) Q :=
  .inr ⟨.str w, ws.map .str, rfl, rfl, rfl, List.all_eq_true.mpr fun y hy => by
    obtain ⟨z, _, rfl⟩ := List.mem_map.mp hy
    rfl, by rw [List.any_map]; exact h⟩
theorem kAndT_cast {T : Type} {u : WT T} {env : List SV} {Q : Bool → T → Prop} {b c : Bool} {τ : T} (e : b = c) (h : kAndT u env Q c τ) : kAndT u env Q b τ := e ▸ h
theorem kOrT_cast {T : Type} {u : WT T} {env : List SV} {Q : Bool → T → Prop} {b c : Bool} {τ : T} (e : b = c) (h : kOrT u env Q c τ) : kOrT u env Q b τ := e ▸ h
theorem rep_names (m : Nat) : (List.replicate (m : Int).toNat [PyData.str (Str.ofString "name")]).flatten = (List.replicate m (Str.ofString "name")).map .str := by
  rw [Int.toNat_natCast, List.map_replicate]
  induction m with
  | zero => rfl
  | succ m ih => rw [List.replicate_succ, List.replicate_succ, List.flatten_cons, ih]; rfl
theorem many_call {j n : Nat} (h : n + 1 ≤ j) {g : Bool} {x : D} {τ : T2} {Q : SV → T2 → Prop} (hx : PlA x) (h20 : n ≤ 20) (q : Q (.d (.int (manyD n g x : Nat))) τ) : FF__law_many_ j [.d x, .d (.int (21 - (n : Int))), .d (.bool g)] τ Q := by
  cases j with
  | zero => omega
  | succ k => exact ⟨n, g, x, rfl, hx, by omega, h20, q⟩
theorem Qc {Q : Bool → T2 → Prop} {b c : Bool} {τ : T2} (e : b = c) (h : Q c τ) : Q b τ := e ▸ h
theorem many_ok {n : Nat} {g : Bool} {x : D} (h : (!formD x || (isGoD x && g)) = false) : manyD (n + 1) g x = match kidsD x with
    | [] => 1
    | [t] => 1 + manyD n g t
    | t :: u :: _ => 1 + manyD n (g || isGoD x) t + (if isGoD x = true ∧ 16 < manyD n (g || isGoD x) t then 100 else 0) + manyD n g u := by
  show (if (!formD x || (isGoD x && g)) = true then 100 else _) = _
  rw [if_neg (by rw [h]; decide)]
theorem Qi_cast {Q : SV → T2 → Prop} {i j : Int} {τ : T2} (e : i = j) (h : Q (.d (.int j)) τ) : Q (.d (.int i)) τ := e ▸ h
def FF__law_kind : FW T2 := fun rs τ Q => ∃ (a : Addr) (b : Nat) (cs : List (Addr × Cel)), rs = [.raw (.ref a)] ∧ τ = ⟨.on a b, cs⟩ ∧ 30 ≤ b ∧ ∀ (x : D) (b' : Nat), b ≤ b' + 30 → isKindD x = true → Q (.d x) ⟨.on a b', cs⟩
def FF__law_names : FW T2 := fun rs τ Q => ∃ (a : Addr) (b : Nat) (cs : List (Addr × Cel)), rs = [.raw (.ref a), .d (.int 40)] ∧ τ = ⟨.on a b, cs⟩ ∧ 1000 ≤ b ∧ ∀ (ws : List Str) (b' : Nat), b ≤ b' + 1000 → ws.length = 40 → (∀ s ∈ ws, isNameS s = true) → Q (.ol (ws.map .str)) ⟨.on a b', cs⟩
def FF__law_one : FW T2 := fun rs τ Q => ∃ (a : Addr) (b : Nat) (cs : List (Addr × Cel)) (ks : List Str), rs = [.raw (.ref a), .d (.list (ks.map .str))] ∧ τ = ⟨.on a b, cs⟩ ∧ 3 ≤ b ∧ 1 ≤ ks.length ∧ ks.length ≤ 100 ∧ ∀ (s : Str) (b' : Nat), b ≤ b' + 3 → s ∈ ks → Q (.d (.str s)) ⟨.on a b', cs⟩
def FF__law_within : FW T2 := fun rs τ Q => ∃ x, rs = [.d x] ∧ formD x = true ∧ Q (.ol (kidsD x)) τ
def FF__law_places_ : Nat → FW T2
  | 0 => fun _ _ _ => False
  | k + 1 => fun rs τ Q => ∃ (n : Nat) (x : D), rs = [.d x] ∧ goodD n x = true ∧ n ≤ k + 1 ∧ (placesD n x).length ≤ 1000 ∧ Q (.ol (placesD n x)) τ
abbrev FF__law_places : FW T2 := FF__law_places_ 20
def FF__law_wide_ : Nat → FW T2
  | 0 => fun _ _ _ => False
  | k + 1 => fun rs τ Q => ∃ (m : Nat), rs = [.d (.int (m : Nat))] ∧ 1 ≤ m ∧ m < 2 ^ (k + 1) ∧ ∀ x, PlA x → Q (.d x) τ
abbrev FF__law_wide : FW T2 := FF__law_wide_ 8
def FF__law_long : FW T2 := fun rs τ Q => ∃ (d m : Nat), rs = [.d (.int (d : Nat)), .d (.int (m : Nat))] ∧ 1 ≤ d ∧ d ≤ 100 ∧ m ≤ 100 ∧ ∀ x, PlA x → Q (.d x) τ
def FF__law_bounds : FW T2 := fun rs τ Q => ∃ (a : Addr) (b : Nat) (cs : List (Addr × Cel)), rs = [.raw (.ref a)] ∧ τ = ⟨.on a b, cs⟩ ∧ 20 ≤ b ∧ ∀ (xs : List D) (b' : Nat), b ≤ b' + 20 → xs.length ≤ 100 → (∀ x ∈ xs, PlA x) → Q (.ol xs) ⟨.on a b', cs⟩
def FF__law_far_right : FW T2 := fun rs τ Q => rs = [] ∧ Q (.d (.bool true)) τ
theorem fm_take {α β : Type} (f : α → List β) : ∀ (l : List α) (i : Nat), ((l.take i).flatMap f).length ≤ (l.flatMap f).length
  | [], i => by rw [List.take_nil]; exact Nat.le_refl _
  | a :: t, 0 => Nat.zero_le _
  | a :: t, i + 1 => by
    rw [List.take_succ_cons, List.flatMap_cons, List.flatMap_cons, List.length_append, List.length_append]
    have := fm_take f t i
    omega
theorem places_call {j n : Nat} (h : n + 1 ≤ j + 1) {x : D} {τ : T2} {Q : SV → T2 → Prop} (hg : goodD n x = true) (hl : (placesD n x).length ≤ 1000) (q : Q (.ol (placesD n x)) τ) : FF__law_places_ j [.d x] τ Q := by
  cases j with
  | zero =>
    cases n with
    | zero => cases hg
    | succ n => omega
  | succ k => exact ⟨n, x, rfl, hg, by omega, hl, q⟩
theorem wide_call {j m : Nat} (h1 : 1 ≤ m) (h2 : m < 2 ^ j) (hj : 1 ≤ j) {τ : T2} {Q : SV → T2 → Prop} (q : ∀ x, PlA x → Q (.d x) τ) : FF__law_wide_ j [.d (.int (m : Nat))] τ Q := by
  cases j with
  | zero => omega
  | succ k => exact ⟨m, rfl, h1, h2, q⟩
theorem rgI_mem {a : Int} {n : Nat} {x : D} (h : x ∈ rgI a n) : ∃ i : Int, x = .int i := by
  unfold rgI at h
  obtain ⟨i, _, rfl⟩ := List.mem_map.mp h
  exact ⟨_, rfl⟩
/-- i levels deep at least, in each way -/
def deepT (i : Nat) (y : D) : Prop := PlA y ∧ ∀ n g, n ≤ i → 100 ≤ costD n g y
theorem deepT_0 {y : D} (h : PlA y) : deepT 0 y := ⟨h, fun n g hn => by
  rw [Nat.le_zero_eq] at hn
  subst hn
  exact Nat.le_refl _⟩
theorem deepT_let {i : Nat} {y : D} (h : deepT i y) : deepT (i + 1) (.tuple [.str "let", .str "y", .tuple [.str "turn"], .tuple [.str "x"], y]) :=
  ⟨.tup _ (five_in (lit_pla (by decide +kernel)) (lit_pla (by decide +kernel)) (.tup _ fun x hx => by rw [List.mem_singleton.mp hx]; exact lit_pla (by decide +kernel)) (.tup _ fun x hx => by rw [List.mem_singleton.mp hx]; exact lit_pla (by decide +kernel)) h.1), fun n g hn => by
    cases n with
    | zero => exact Nat.le_refl _
    | succ n =>
      have := h.2 n g (by omega)
      rcases cost_let1 n g (.str "y") (.tuple [.str "turn"]) (.tuple [.str "x"]) y with h1 | h1
      · exact Nat.le_trans (by omega) h1
      · exact h1⟩
theorem deepT_part {i : Nat} {y : D} (h : deepT i y) : deepT (i + 1) (.tuple [.str "part", .str "x", .str "many", .int 3, y, y]) :=
  ⟨.tup _ (six_in (lit_pla (by decide +kernel)) (lit_pla (by decide +kernel)) (lit_pla (by decide +kernel)) (.int _) h.1 h.1), fun n g hn => by
    cases n with
    | zero => exact Nat.le_refl _
    | succ n =>
      have := h.2 n g (by omega)
      rcases cost_part1 n g (.str "x") (.str "many") (.int 3) y y with h1 | h1
      · exact Nat.le_trans (by omega) h1
      · exact h1⟩
theorem deepT_going {i : Nat} {y : D} (h : deepT i y) : deepT (i + 1) (.tuple [.str "going", .str "y", .tuple [.str "x", .str "n", .str "a", .str "x", y], .tuple [.str "tell", .str "x"]]) :=
  ⟨.tup _ (four_in (lit_pla (by decide +kernel)) (lit_pla (by decide +kernel)) (.tup _ (five_in (lit_pla (by decide +kernel)) (lit_pla (by decide +kernel)) (lit_pla (by decide +kernel)) (lit_pla (by decide +kernel)) h.1)) (letN_pla 0)), fun n g hn => by
    cases n with
    | zero => exact Nat.le_refl _
    | succ n =>
      have := h.2 n true (by omega)
      rcases cost_going1 n g (.str "y") (.str "x") (.str "n") (.str "a") (.str "x") y (.tuple [.str "tell", .str "x"]) with h1 | h1
      · exact Nat.le_trans (by omega) h1
      · exact h1⟩
theorem usual_pla : PlA allK.D := (kind_ok (by decide +kernel)).1
theorem far_no {i : Nat} {y : D} (h : deepT i y) (hi : 20 ≤ i) : PlA (.tuple [.tuple [.tuple [.str "x", allK.D]], allK.D, y]) ∧ isProgD (.tuple [.tuple [.tuple [.str "x", allK.D]], allK.D, y]) = false :=
  ⟨.tup _ (three_in (.tup _ fun x hx => by rw [List.mem_singleton.mp hx]; exact .tup _ (two_in (lit_pla (by decide +kernel)) usual_pla)) usual_pla h.1), prog_bad (h.2 20 false hi)⟩
theorem nx_seq {T : Type} {A B : WS T} {D : DEnds T} {env : List SV} {τ : T} (P : List SV → T → Prop) (h : ∀ N : List SV → T → Prop, (∀ e τ', P e τ' → N e τ') → A ⟨N, D.rt, D.bk, D.ct⟩ env τ) (q : ∀ e τ', P e τ' → kNx B D e τ') : kNx (dSeq A B) D env τ := h _ q
theorem whole_mk {n a b : Int} (h1 : a ≤ n) (h2 : n ≤ b) : isWholeD (.int n) a b = true := by
  show (decide (a ≤ n) && decide (n ≤ b)) = true
  rw [decide_eq_true h1, decide_eq_true h2]
  rfl
def wordsN : List Str := ["tell", "let", "part", "going", "many", "sum", "kind", "program", "plus", "turn", "join", "low", "up"]
theorem names_ok : ∀ s ∈ wordsN, isNameS s = true := by
  have : (wordsN.all isNameS) = true := by decide +kernel
  exact List.all_eq_true.mp this
theorem gNotB_b {a b : Bool} {Q : SV → Prop} (h : Q (.d (.bool (!decide (a = b))))) : gNotB (.d (.bool a)) (.d (.bool b)) Q := ⟨a, b, rfl, rfl, h⟩
theorem any_strs28 {w : Str} : ∀ ws : List Str, ((ws.map PyData.str).any fun y => PyData.eqv y (.str w)) = decide (w ∈ ws)
  | [] => by rw [decide_eq_false (by simp)]; rfl
  | a :: t => by
    rw [List.map_cons, List.any_cons, any_strs28 t, str_eqv, Bool.eq_iff_iff, Bool.or_eq_true, decide_eq_true_eq, decide_eq_true_eq, decide_eq_true_eq, List.mem_cons]
    exact ⟨fun h => h.imp_left Eq.symm, fun h => h.imp_left Eq.symm⟩
theorem flat_strs28 (ws : List Str) : (ws.map PyData.str).all flatD = true := List.all_eq_true.mpr fun y hy => by
    obtain ⟨z, _, rfl⟩ := List.mem_map.mp hy
    rfl
theorem gIn_vw28 {w : Str} {ws : List Str} {Q : SV → Prop} (h : Q (.d (.bool (decide (w ∈ ws))))) : gIn false (.d (.str w)) (.vw (ws.map .str)) Q :=
  .inr ⟨.str w, ws.map .str, rfl, rfl, rfl, flat_strs28 ws, by rw [any_strs28]; exact h⟩
theorem gNotIn_vw28 {w : Str} {ws : List Str} {Q : SV → Prop} (h : Q (.d (.bool (!decide (w ∈ ws))))) : gIn true (.d (.str w)) (.vw (ws.map .str)) Q :=
  .inr ⟨.str w, ws.map .str, rfl, rfl, rfl, flat_strs28 ws, by rw [any_strs28]; exact h⟩
def twoC (k : Nat) : Str := (⟨#[97 + k / 26]⟩ : Str) ++ ⟨#[97 + k % 26]⟩
theorem cs_two (k : Nat) : cs (twoC k) = [97 + k / 26, 97 + k % 26] := by
  unfold twoC
  rw [cs_append]
  rfl
theorem two_inj {j k : Nat} (h : twoC j = twoC k) : j = k := by
  have e := congrArg cs h
  rw [cs_two, cs_two] at e
  injection e with e1 e2
  injection e2 with e2 _
  omega
theorem two_name {k : Nat} (h : k < 676) : isNameS (twoC k) = true := by
  unfold isNameS
  rw [str_len, cs_two]
  show ((true && true) && (smallC _ && (smallC _ && true))) = true
  unfold smallC
  rw [decide_eq_true (by omega), decide_eq_true (by omega), decide_eq_true (by omega), decide_eq_true (by omega)]
  rfl
theorem two_left {ws : List Str} (h : ws.length ≤ 39) : 600 ≤ (((List.range 676).filter fun k => !decide (twoC k ∈ ws)).map fun k => PyData.str (twoC k)).length := by
  have nd : ((List.range 676).map twoC).Nodup := by
    unfold List.Nodup
    rw [List.pairwise_map]
    exact List.Pairwise.imp (fun h e => h (two_inj e)) List.nodup_range
  have := left_many ws nd
  rw [List.length_map, List.length_range, List.filter_map, List.length_map] at this
  rw [List.length_map]
  have e : (List.range 676).filter (fun k => !decide (twoC k ∈ ws)) = (List.range 676).filter ((fun s => decide (s ∉ ws)) ∘ twoC) := List.filter_congr fun x _ => by
    show (!decide (twoC x ∈ ws)) = decide (twoC x ∉ ws)
    rw [decide_not]
  rw [e]
  omega
theorem abc_at {i c : Nat} (h : (Str.ofString "abcdefghijklmnopqrstuvwxyz").cps.toList[i]? = some c) : c = 97 + i ∧ i < 26 := by
  have e : (Str.ofString "abcdefghijklmnopqrstuvwxyz").cps.toList = (List.range 26).map (97 + ·) := by decide +kernel
  rw [e, List.getElem?_map] at h
  by_cases hi : i < 26
  · rw [List.getElem?_range hi] at h
    cases h
    exact ⟨rfl, hi⟩
  · rw [List.getElem?_eq_none (by simp; omega)] at h
    cases h
def needT (g : Bool) (r : Int) : Int := 20 * ((if g = true then 2 else 9) * (max r 1 - 1) + 1)
def FF__law_term_ : Nat → FW T2
  | 0 => fun _ _ _ => False
  | k + 1 => fun rs τ Q => ∃ (a : Addr) (b : Nat) (cs : List (Addr × Cel)) (pr pf : Addr) (r : Int) (n : Nat) (ks fs : List Str) (g : Bool), rs = [.raw (.ref a), .raw (.ref pr), .d (.int (21 - (n : Int))), .d (.list (ks.map .str)), .raw (.ref pf), .d (.bool g)] ∧ τ = ⟨.on a b, cs⟩ ∧ pr ≠ pf ∧ cget cs pr = some (.ls [.int r]) ∧ cget cs pf = some (.ls (fs.map .str)) ∧ 1 ≤ ks.length ∧ ks.length + 2 * n ≤ 60 ∧ (∀ s ∈ ks, isNameS s = true) ∧ fs.length ≤ 100 ∧ (∀ s ∈ fs, isNameS s = true) ∧ r ≤ 14 ∧ n ≤ k + 3 ∧ 3 ≤ n ∧ n ≤ 20 ∧ needT g r ≤ b ∧ ∀ (x : D) (m : Nat) (r' : Int) (fs' : List Str) (b' : Nat) (cs' : List (Addr × Cel)), OkT n g m x → (m : Int) ≤ (if g = true then 2 else 9) * (max r 1 - max r' 1) + 1 → r' < r → fs'.length ≤ fs.length → (∀ s ∈ fs', isNameS s = true) → b ≤ b' + 20 * m → cget cs' pr = some (.ls [.int r']) → cget cs' pf = some (.ls (fs'.map .str)) → (∀ q c, q ≠ pr → q ≠ pf → cget cs q = some c → cget cs' q = some c) → Q (.d x) ⟨.on a b', cs'⟩
abbrev FF__law_term : FW T2 := FF__law_term_ 20
def FF__law_program : FW T2 := fun rs τ Q => ∃ (a : Addr) (b : Nat), rs = [.raw (.ref a)] ∧ τ = ⟨.on a b, []⟩ ∧ 10000 ≤ b ∧ ∀ (x : D) (b' : Nat), b ≤ b' + 10000 → DrP x → Q (.d x) ⟨.on a b', []⟩
def FF__law_bent_ : Nat → FW T2
  | 0 => fun _ _ _ => False
  | k + 1 => fun rs τ Q => ∃ (a : Addr) (b : Nat) (cs : List (Addr × Cel)) (n L : Nat) (x : D), rs = [.raw (.ref a), .d x] ∧ τ = ⟨.on a b, cs⟩ ∧ PlA x ∧ nst L n x ∧ n ≤ k ∧ L ≤ 100 ∧ 4 * n + 4 ≤ b ∧ ∀ (y : D) (b' : Nat), b ≤ b' + (4 * n + 4) → PlA y → nst (4 * L + 8) (n + 1) y → Q (.d y) ⟨.on a b', cs⟩
abbrev FF__law_bent : FW T2 := FF__law_bent_ 64
theorem left_R {ws : List Str} (h : ws.length ≤ 39) : ∃ R : List Nat, rgI 0 (Int.toNat 676) = R.map (fun i => PyData.int (0 + (i : Nat))) ∧ (∀ i ∈ R, i < 676) ∧ R.length ≤ 1000 ∧ 600 ≤ ((R.filter fun k => !decide (twoC k ∈ ws)).map fun k => PyData.str (twoC k)).length := by
  refine ⟨List.range 676, ?_, fun i hi => List.mem_range.mp hi, by rw [List.length_range]; decide, two_left h⟩
  unfold rgI
  rw [show Int.toNat 676 = 676 from rfl]
theorem sq_seq {T : Type} {A B : WS T} {D : DEnds T} {env : List SV} {τ : T} (P : List SV → T → Prop) (h : ∀ N : List SV → T → Prop, (∀ e τ', P e τ' → N e τ') → A ⟨N, D.rt, D.bk, D.ct⟩ env τ) (q : ∀ e τ', P e τ' → B D e τ') : dSeq A B D env τ := h _ q
theorem kAndT_any {T : Type} {u : WT T} {env : List SV} {Q : Bool → T → Prop} {b : Bool} {τ : T} (P : Bool → T → Prop) (h0 : b = false → P false τ) (h1 : b = true → ∀ Q' : Bool → T → Prop, (∀ c τ', P c τ' → Q' c τ') → u env τ Q') (q : ∀ c τ', P c τ' → Q c τ') : kAndT u env Q b τ := by
  cases b with
  | true => rw [kAndT_t]; exact h1 rfl Q q
  | false => rw [kAndT_f]; exact q _ _ (h0 rfl)
theorem nst_flat {L n : Nat} {x : D} (h : ∀ xs, x ≠ .tuple xs) : nst L n x := by
  cases n with
  | zero => exact h
  | succ n => exact fun xs e => absurd e (h xs)
def flB (x : D) : Bool := match x with
  | .none => true
  | .bool _ => true
  | .int _ => true
  | .str s => okNb 100 s
  | .dict [] => true
  | _ => false
def pnB (x : D) : Bool := flB x || match x with
  | .tuple xs => decide (xs.length ≤ 3) && xs.all flB
  | .list xs => xs.all flB
  | _ => false
theorem flB_ok {x : D} (h : flB x = true) : PlA x ∧ ∀ xs, x ≠ .tuple xs := by
  unfold flB at h
  split at h
  · exact ⟨.non, by intro xs; nofun⟩
  · exact ⟨.bl _, by intro xs; nofun⟩
  · exact ⟨.int _, by intro xs; nofun⟩
  · exact ⟨lit_pla h, by intro xs; nofun⟩
  · exact ⟨.emp, by intro xs; nofun⟩
  · cases h
theorem pnB_ok {x : D} (h : pnB x = true) : PlA x ∧ nst 3 1 x := by
  unfold pnB at h
  rcases Bool.or_eq_true _ _ ▸ h with h | h
  · exact ⟨(flB_ok h).1, nst_flat (flB_ok h).2⟩
  · split at h
    · rw [Bool.and_eq_true, decide_eq_true_eq, List.all_eq_true] at h
      exact ⟨.tup _ fun y hy => (flB_ok (h.2 y hy)).1, nst_tup h.1 fun y hy => nst_flat (flB_ok (h.2 y hy)).2⟩
    · rw [List.all_eq_true] at h
      exact ⟨.lst _ fun y hy => (flB_ok (h y hy)).1, nst_flat (by intro xs; nofun)⟩
    · cases h
theorem cut_mem {xs : List D} {lo hi : Option Int} {y : D} (h : y ∈ cutL xs lo hi) : y ∈ xs := List.mem_of_mem_drop (List.mem_of_mem_take h)
theorem cutD_len (xs : List D) (lo hi : Option Int) : (cutL xs lo hi).length ≤ xs.length := by
  unfold cutL
  rw [List.length_take, List.length_drop]
  omega
theorem rep_mem {xs : List D} {k : Nat} {y : D} (h : y ∈ (List.replicate k xs).flatten) : y ∈ xs := by
  obtain ⟨l, hl, hy⟩ := List.mem_flatten.mp h
  rw [List.eq_of_mem_replicate hl] at hy
  exact hy
theorem bent_call {j n L : Nat} {a : Addr} {b : Nat} {cs : List (Addr × Cel)} {x : D} {Q : SV → T2 → Prop} (h : n + 1 ≤ j) (hx : PlA x) (hns : nst L n x) (hL : L ≤ 100) (hb : 4 * n + 4 ≤ b) (q : ∀ (y : D) (b' : Nat), b ≤ b' + (4 * n + 4) → PlA y → nst (4 * L + 8) (n + 1) y → Q (.d y) ⟨.on a b', cs⟩) : FF__law_bent_ j [.raw (.ref a), .d x] ⟨.on a b, cs⟩ Q := by
  cases j with
  | zero => omega
  | succ k => exact ⟨a, b, cs, n, L, x, rfl, rfl, hx, hns, by omega, hL, hb, q⟩
theorem cut_ne {xs : List D} {i : Int} (h0 : 0 ≤ i) (h1 : i < xs.length) : cutL xs (some i) (some (i + 1)) ≠ [] := by
  obtain ⟨k, rfl⟩ := Int.eq_ofNat_of_zero_le h0
  rw [show (k : Int) + 1 = ((k + 1 : Nat) : Int) by omega, cut_mid]
  intro e
  have := congrArg List.length e
  rw [List.length_drop, List.length_take, List.length_nil] at this
  omega
theorem cg_same {p : Addr} {c : Cel} : ∀ {cs : List (Addr × Cel)} {c0 : Cel}, cget cs p = some c0 → cget (cset cs p c) p = some c
  | [], _, h => by cases h
  | (q, d) :: t, c0, h => by
    by_cases e : q = p
    · subst e
      rw [cset_hd, cget_hd]
    · rw [cset_tl e, cget_tl e]
      rw [cget_tl e] at h
      exact cg_same h
theorem cg_ne {p q : Addr} {c : Cel} (ne : p ≠ q) : ∀ {cs : List (Addr × Cel)}, cget (cset cs p c) q = cget cs q
  | [] => rfl
  | (a, d) :: t => by
    by_cases e : a = p
    · subst e
      rw [cset_hd, cget_tl ne, cget_tl ne]
    · rw [cset_tl e]
      by_cases e2 : a = q
      · subst e2
        rw [cget_hd, cget_hd]
      · rw [cget_tl e2, cget_tl e2]
        exact cg_ne ne
theorem cg_new {p q : Addr} {c d : Cel} {cs : List (Addr × Cel)} (hp : p ∉ cs.map (·.1)) (h : cget cs q = some c) : p ≠ q ∧ cget ((p, d) :: cs) q = some c := by
  have hne : p ≠ q := fun e => by
    subst e
    clear d
    induction cs with
    | nil => cases h
    | cons a t ih =>
      obtain ⟨a, d⟩ := a
      rw [List.map_cons, List.mem_cons, not_or] at hp
      rw [cget_tl (fun z => hp.1 z.symm)] at h
      exact ih hp.2 h
  exact ⟨hne, by rw [cget_tl hne]; exact h⟩
theorem term_call {j n : Nat} {a : Addr} {b : Nat} {cs : List (Addr × Cel)} {pr pf : Addr} {r : Int} {ks fs : List Str} {g : Bool} {Q : SV → T2 → Prop} (hj : n + 1 ≤ j + 3) (hne : pr ≠ pf) (hcr : cget cs pr = some (.ls [.int r])) (hcf : cget cs pf = some (.ls (fs.map .str))) (hk1 : 1 ≤ ks.length) (hk2 : ks.length + 2 * n ≤ 60) (hks : ∀ s ∈ ks, isNameS s = true) (hf1 : fs.length ≤ 100) (hfs : ∀ s ∈ fs, isNameS s = true) (hr : r ≤ 14) (hn3 : 3 ≤ n) (hn20 : n ≤ 20) (hb : needT g r ≤ b)
    (q : ∀ (x : D) (m : Nat) (r' : Int) (fs' : List Str) (b' : Nat) (cs' : List (Addr × Cel)), OkT n g m x → (m : Int) ≤ (if g = true then 2 else 9) * (max r 1 - max r' 1) + 1 → r' < r → fs'.length ≤ fs.length → (∀ s ∈ fs', isNameS s = true) → b ≤ b' + 20 * m → cget cs' pr = some (.ls [.int r']) → cget cs' pf = some (.ls (fs'.map .str)) → (∀ q c, q ≠ pr → q ≠ pf → cget cs q = some c → cget cs' q = some c) → Q (.d x) ⟨.on a b', cs'⟩) :
    FF__law_term_ j [.raw (.ref a), .raw (.ref pr), .d (.int (21 - (n : Int))), .d (.list (ks.map .str)), .raw (.ref pf), .d (.bool g)] ⟨.on a b, cs⟩ Q := by
  cases j with
  | zero => omega
  | succ k => exact ⟨a, b, cs, pr, pf, r, n, ks, fs, g, rfl, rfl, hne, hcr, hcf, hk1, hk2, hks, hf1, hfs, hr, by omega, hn3, hn20, hb, q⟩
theorem fs_last {fs : List Str} (h : 1 ≤ fs.length) : ∃ f s, fs = f ++ [s] := by
  rcases List.eq_nil_or_concat fs with e | ⟨f, s, e⟩
  · rw [e] at h
    simp at h
  · exact ⟨f, s, by rw [e]; simp⟩
theorem map_snoc {f : List Str} {s : Str} : (f ++ [s]).map PyData.str = f.map .str ++ [.str s] := by simp
theorem need_1 {g : Bool} {r : Int} {b b' : Nat} (h : needT g r ≤ b) (hr : 2 ≤ r) (hb : b ≤ b' + 15) : needT g (r - 1) ≤ b' := by
  unfold needT at h ⊢
  cases g <;> simp only [if_true, if_false, Bool.false_eq_true] at h ⊢ <;> omega
theorem need_2 {g : Bool} {r r' : Int} {b b' k : Nat} (h : needT g r ≤ b) (hr : 2 ≤ r) (hr' : r' < r - 1) (hk : (k : Int) ≤ (if g = true then 2 else 9) * (max (r - 1) 1 - max r' 1) + 1) (hb : b ≤ b' + 20 * k + 10) : needT g r' ≤ b' := by
  unfold needT at h ⊢
  cases g <;> simp only [if_true, if_false, Bool.false_eq_true] at h hk ⊢ <;> omega
theorem size_1 {g : Bool} {r r' : Int} {k : Nat} (hr : 2 ≤ r) (hk : (k : Int) ≤ (if g = true then 2 else 9) * (max (r - 1) 1 - max r' 1) + 1) : ((k + 1 : Nat) : Int) ≤ (if g = true then 2 else 9) * (max r 1 - max r' 1) + 1 := by
  cases g <;> simp only [if_true, if_false, Bool.false_eq_true] at hk ⊢ <;> omega
theorem size_2 {g : Bool} {r r' r2 : Int} {k l : Nat} (hr : 2 ≤ r) (hk : (k : Int) ≤ (if g = true then 2 else 9) * (max (r - 1) 1 - max r' 1) + 1) (hl : (l : Int) ≤ (if g = true then 2 else 9) * (max r' 1 - max r2 1) + 1) : ((k + l + 1 : Nat) : Int) ≤ (if g = true then 2 else 9) * (max r 1 - max r2 1) + 1 := by
  cases g <;> simp only [if_true, if_false, Bool.false_eq_true] at hk hl ⊢ <;> omega
theorem need_3 {g : Bool} {r : Int} {b : Nat} (h : needT g r ≤ b) (hr : 2 ≤ r) : 60 ≤ b := by
  unfold needT at h
  cases g <;> simp only [if_true, if_false, Bool.false_eq_true] at h <;> omega
theorem need_0 {g : Bool} (r : Int) : 20 ≤ needT g r := by
  unfold needT
  cases g <;> simp only [if_true, if_false, Bool.false_eq_true] <;> omega
theorem pl_nil : PlA (.tuple []) := .tup _ nofun
theorem pl_cons {x : D} {xs : List D} (h : PlA x) (t : PlA (.tuple xs)) : PlA (.tuple (x :: xs)) := .tup _ fun y hy => by
  rcases List.mem_cons.mp hy with rfl | hy
  · exact h
  · exact t.items y hy
theorem all_snoc28 {P : D → Prop} {xs : List D} {y : D} (h : ∀ x ∈ xs, P x) (hy : P y) : ∀ x ∈ xs ++ [y], P x := fun x hx => by
  rcases List.mem_append.mp hx with hx | hx
  · exact h x hx
  · rw [List.mem_singleton.mp hx]; exact hy
theorem gReprE_ok {x : D} {Q : SV → Prop} (h : reprOk x) (q : Q (.d (.str x.shown))) : gReprE [.d x] Q := by
  cases x with
  | dict d =>
    cases d with
    | nil => exact q
    | cons a t => exact ⟨h, q⟩
  | _ => exact ⟨h, q⟩
section
variable {P : Program} {w : World} {K : PySem.W.Frag} {mg : Str → Option Value} {base : Heap} {ca : Cas}
theorem ok_is_whole {f : Addr} {fd : FuncData} (T : Txt K mg ca) (F : Fun K "is_whole" "is_whole" s_is_whole f fd)  :
    FnOk P w K mg base CX0 1 f fd ["thing", "least", "most"] (spD (theT (Ts ca)) K (FF_is_whole)) := by
  refine okP F sc_is_whole (by walk_at "v") (by decide) fun cdv A outer s H E G Fp hr => ⟨_, (dss_one (ds_ret (de_and rfl (de_callB call_isi (cd_isi rfl) (by rfl) T.b_isinstance (by decide +kernel) (da_cons (de_var (pv 0)) (da_cons (de_ty (n := "int") (by rfl) T.b_int (by decide +kernel)) da_nil))) (de_and rfl (de_not rfl (de_callB call_isi (cd_isi rfl) (by rfl) T.b_isinstance (by decide +kernel) (da_cons (de_var (pv 0)) (da_cons (de_ty (n := "bool") (by rfl) T.b_bool (by decide +kernel)) da_nil)))) (de_one (de_chain op_leA od_cmp op_leA od_cmp (de_var (pv 1)) (de_var (pv 0)) (de_var (pv 2)))))))), ?_⟩
  dsimp only [Bk.T, theT]
  rintro rs τ Q ⟨x, a, b, rfl, hx, h⟩
  walk_at "y"
  cases x with
  | dict m =>
    cases m with
    | nil => walk_at "y"; exact h
    | cons p r => exact hx.elim
  | int i =>
    walk_at "y"
    refine kChB_of (fun e1 => ?_) fun e1 => ?_
    · walk_at "y"
      simp only [isWholeD, e1, Bool.true_and] at h
      exact h
    · simp only [isWholeD, e1, Bool.false_and] at h
      walk_at "y"
      exact h
  | _ => walk_at "y"; exact h
theorem ok_is_name {f : Addr} {fd : FuncData} (T : Txt K mg ca) (F : Fun K "is_name" "is_name" s_is_name f fd)  :
    FnOk P w K mg base CX0 1 f fd ["thing"] (spD (theT (Ts ca)) K (FF_is_name)) := by
  refine okP F sc_is_name (by walk_at "v") (by decide) fun cdv A outer s H E G Fp hr => ⟨_, (dss_cons (ds_if (dt_w (dw_or (dt_not (dt_tru rfl (de_callB call_isi (cd_isi rfl) (by rfl) T.b_isinstance (by decide +kernel) (da_cons (de_var (pv 0)) (da_cons (de_ty (n := "str") (by rfl) T.b_str (by decide +kernel)) da_nil))))) (dw_or1 (dt_not (dt_chain op_leA od_cmp op_leA od_cmp de_int (de_callB call_len (cd_len rfl) (by rfl) T.b_len (by decide +kernel) (da_cons (de_var (pv 0)) da_nil)) (de_gint (by rfl) T.c_MOST_LETTERS))))))
        (dss_one (ds_ret de_bl))
        dss_nil)
      (dss_one (ds_ret (de_callB (cr_all rfl) (cd_all rfl) (by rfl) T.b_all (by decide +kernel) (da_cons (de_lc (own := [("letter", 1)]) rfl sc_is_name.nd (di_seq rfl (de_var (pv 0))) (blkOk_by (by kernel_rfl)) (by decide) (fun _ _ _ _ _ => (dg_nm (i := 1) sc_is_name.nd rfl (by first | exact .inl rfl | exact .inr rfl))) (fun _ _ _ _ _ => dts_nil) (fun _ _ _ _ _ => (de_cmp op_inA (od_in rfl) (de_var (pv 1)) (de_gstr (by rfl) T.c_SMALL) (by rfl)))) da_nil))))), ?_⟩
  dsimp only [Bk.T, theT]
  rintro rs τ Q ⟨x, rfl, hk, h⟩
  walk_at "X"
  cases hk with
  | str s hs =>
    walk_at "X"
    refine ⟨hs.sz, ?_⟩
    have e1 : decide ((1 : Int) ≤ (s.length : Int)) = decide (1 ≤ s.length) := decide_eq_decide.mpr (by omega)
    have e8 : decide ((s.length : Int) ≤ 8) = decide (s.length ≤ 8) := decide_eq_decide.mpr (by omega)
    rw [e1]
    refine kChB_and (c := decide (s.length ≤ 8)) (fun _ Q' q => ?_) ?_
    · walk_at "X"
      rw [e8]
      exact q
    walk_at "X"
    refine kIfS_of (fun e => ?_) fun e => ?_
    · walk_at "X"
      have : isNameD (.str s) = false := by
        show ((decide (1 ≤ s.length) && decide (s.length ≤ 8)) && (cs s).all smallC) = false
        rw [Bool.not_eq_true'] at e
        rw [e]
        rfl
      rw [← this]
      exact h
    walk_at "X"
    rw [Bool.not_eq_false'] at e
    have hs8 := hs.sz
    refine lc_mapA sg (fun c => .bool (smallC c)) (cs s) (fun c hc kc k0 z => ?_) (by rw [← str_len]; exact hs8) ?_
    · walk_at "X"
      have z : kc (.bool (smallC c)) τ := z
      rw [← small_in] at z
      exact .inl ⟨c, _, rfl, rfl, z⟩
    walk_at "X"
    rw [bools_of smallC (cs s)]
    walk_at "X"
    have : isNameD (.str s) = ((cs s).map smallC).all id := by
      show ((decide (1 ≤ s.length) && decide (s.length ≤ 8)) && (cs s).all smallC) = _
      rw [e, Bool.true_and, all_id]
    rw [← this]
    exact h
  | _ => walk_at "X"; exact h
theorem ok_terms_of {f : Addr} {fd : FuncData} (T : Txt K mg ca) (F : Fun K "terms_of" "terms_of" s_terms_of f fd)  :
    FnOk P w K mg base CX0 1 f fd ["term"] (spD (theT (Ts ca)) K (FF_terms_of)) := by
  refine okP F sc_terms_of (by walk_at "v") (by decide) fun cdv A outer s H E G Fp hr => ⟨_, (dss_cons (ds_if (dt_cmp (op_eqA hr.units) (od_eq rfl) (de_ix ix_A (od_ix rfl) (de_var (pv 0)) de_int (fun _ _ => rfl)) de_str (nomark _))
        (dss_one (ds_ret (de_lst (da_cons (de_ix ix_A (od_ix rfl) (de_var (pv 0)) de_int (fun _ _ => rfl)) da_nil))))
        dss_nil)
      (dss_cons (ds_if (dt_cmp (op_eqA hr.units) (od_eq rfl) (de_ix ix_A (od_ix rfl) (de_var (pv 0)) de_int (fun _ _ => rfl)) de_str (nomark _))
        (dss_one (ds_ret (de_lst (da_cons (de_ix ix_A (od_ix rfl) (de_var (pv 0)) de_int (fun _ _ => rfl)) (da_cons (de_ix ix_A (od_ix rfl) (de_var (pv 0)) de_int (fun _ _ => rfl)) da_nil)))))
        dss_nil)
      (dss_one (ds_ret (de_if (dt_cmp (op_eqA hr.units) (od_eq rfl) (de_ix ix_A (od_ix rfl) (de_var (pv 0)) de_int (fun _ _ => rfl)) de_str (nomark _)) (de_lst (da_cons (de_ix ix_A (od_ix rfl) (de_ix ix_A (od_ix rfl) (de_var (pv 0)) de_int (fun _ _ => rfl)) de_int (fun _ _ => rfl)) (da_cons (de_ix ix_A (od_ix rfl) (de_var (pv 0)) de_int (fun _ _ => rfl)) da_nil))) (de_lst da_nil)))))), ?_⟩
  dsimp only [Bk.T, theT]
  rintro rs τ Q ⟨x, rfl, hf, h⟩
  rcases form_inv hf with ⟨n, rfl⟩ | ⟨n, n1, n2, n3, n4, t, u, rfl⟩ | ⟨n, a, b, t, rfl⟩ | ⟨n, a, b, t, u, rfl⟩
  · walk_at "X"
    exact h
  · walk_at "X"
    exact h
  · walk_at "X"
    exact h
  · walk_at "X"
    exact h
theorem ok__law_begin {f : Addr} {fd : FuncData} (T : Txt K mg ca) (F : Fun K "_law_begin" "_law_begin" s__law_begin f fd) : FnOk P w K mg base CX0 1 f fd ["_law_script"] (spD (theS ((Ts ca).map (·.1))) K FF__law_begin) := by
  refine F.ok sc__law_begin (fun vs H Q E h => ?_) (fun cdv A outer s H vs Q E hr h => ?_)
  · obtain ⟨G, Fp, τ, rs, Qd, Ha, k, r, dr, ⟨ns, e, hl, ht, q⟩, fin⟩ := h
    subst e
    obtain ⟨v, e1, _⟩ := r.one
    subst e1
    rfl
  · obtain ⟨G, Fp, τ, rs, Qd, Ha, k, r, dr, ⟨ns, e, hl, ht, q⟩, fin⟩ := h
    subst e ht
    obtain ⟨v, e1, rv⟩ := r.one
    subst e1
    obtain ⟨p, ws, ev, hp, ra⟩ := rv.sql (xs := ns.map PyData.int) k.same rfl
    subst ev
    have ew := ints_ok ra (ints_map ns)
    subst ew
    have noF : ∀ b, ¬ Fp b := k.r
    refine ⟨_, pss_one (ps_ret (pe_disp (pps_cons pe_str (pe_op op_addA (pv 0) (pe_lst (pa_cons pe_int pa_nil))) (pps_cons pe_str pe_int (pps_cons pe_str pe_int (pps_cons pe_str pe_int pps_nil)))) (by rfl) (by rfl) (fun z => by cases z) (by decide))), ?_⟩
    intro d hd
    refine ⟨_, rfl, (by show 1 ≤ sizeLine; decide), fun x hx => ?_⟩
    have s1 : Same H (upd H d (.dK [])) := fun b o e => by rw [upd_ne (ne_of_none e hd)]; exact e
    have s2 : Same (upd H d (.dK [])) (upd (upd H d (.dK [])) x (.lst [.int 0])) := fun b o e => by rw [upd_ne (ne_of_none e hx)]; exact e
    refine .inr (.inr (.inr ⟨p, x, _, _, rfl, rfl, same_sqp (s1.trans s2) hp, .inl (.inl upd_same), ?_, fun c hc => ?_⟩))
    · rw [List.length_map]
      show ns.length + 1 ≤ sizeLine
      rw [sizeLine_eq]
      omega
    have s3 : Same (upd (upd H d (.dK [])) x (.lst [.int 0])) (upd (upd (upd H d (.dK [])) x (.lst [.int 0])) c (.lst (ns.map V.int ++ [.int 0]))) := fun b o e => by rw [upd_ne (ne_of_none e hc)]; exact e
    have dx : d ≠ x := fun z => by
      subst z
      rw [upd_same] at hx
      cases hx
    have dc : d ≠ c := fun z => by
      subst z
      rw [upd_ne dx, upd_same] at hc
      cases hc
    have hc0 : H c = none := by
      cases z : H c with
      | none => rfl
      | some o =>
        rw [s2 c o (s1 c o z)] at hc
        cases hc
    refine ⟨by rw [upd_ne dc, upd_ne dx, upd_same], drK c 0 0 0, rfl, by show 4 ≤ 15; decide, ?_⟩
    rw [dr_new]
    have hG : G c = none := by
      cases z : G c with
      | none => rfl
      | some o =>
        rw [k.same c o z] at hc0
        cases hc0
    have ec : ns.map V.int ++ [V.int 0] = (ns ++ [0]).map V.int := by rw [List.map_append]; rfl
    have sG : Same G (upd G c (.lst (ns.map V.int ++ [.int 0]))) := fun b o e => by rw [upd_ne (ne_of_none e hG)]; exact e
    refine fin (.raw (.ref d)) (.on d 1152921504606846976) (upd G c (.lst (ns.map V.int ++ [.int 0]))) (fun b => b = d) _ (.ref d) ⟨sG, fun b o _ e => ?_, fun b o e => ?_, fun b e => ?_, fun b e => (noF b e).elim, fun b e => ?_⟩ ⟨fun b o e => ?_, fun b e => ?_, fun b e => ?_, ⟨fun b => Iff.rfl, c, ns ++ [0], 0, 0, 0, upd_same, ?_, by simp, by omega⟩, fun b ps e => ?_, fun b φ e => ?_⟩ rfl (q d)
    · rw [upd_ne (ne_of_none e hd)]
      exact s3 b o (s2 b o (s1 b o e))
    · by_cases z : b = c
      · subst z; exact .inr (.inl hc0)
      · rw [upd_ne z] at e; exact .inl e
    · subst e; exact .inr hd
    · intro z
      by_cases zd : b = d
      · subst zd; exact e hd
      · rw [upd_ne zd] at z
        cases y : H b with
        | none => exact e y
        | some o =>
          rw [s3 b o (s2 b o (s1 b o y))] at z
          cases z
    · by_cases z : b = c
      · subst z
        rw [upd_same] at e
        rw [upd_ne (Ne.symm dc), upd_same]
        exact e
      · rw [upd_ne z] at e
        have hb := k.same b o e
        rw [upd_ne (ne_of_none hb hd)]
        exact s3 b o (s2 b o (s1 b o hb))
    · subst e
      rw [upd_ne dc]
      cases z : G b with
      | none => rfl
      | some o =>
        rw [k.same b o z] at hd
        cases hd
    · subst e
      rw [upd_same]
      exact fun z => by cases z
    · rw [← ec]
      exact .inl (.inl upd_same)
    · by_cases h1 : b = d
      · subst h1; rw [upd_same] at e; cases e
      rw [upd_ne h1] at e
      by_cases h2 : b = c
      · subst h2; rw [upd_same] at e; cases e
      rw [upd_ne h2] at e
      by_cases h3 : b = x
      · subst h3; rw [upd_same] at e; cases e
      rw [upd_ne h3, upd_ne h1] at e
      exact k.nt b ps e
    · by_cases h1 : b = d
      · subst h1; rw [upd_same] at e; cases e
      rw [upd_ne h1] at e
      by_cases h2 : b = c
      · subst h2; rw [upd_same] at e; cases e
      rw [upd_ne h2] at e
      by_cases h3 : b = x
      · subst h3; rw [upd_same] at e; cases e
      rw [upd_ne h3, upd_ne h1] at e
      rw [upd_ne h2]
      exact k.nx b φ e
theorem ok__law_mixed {f : Addr} {fd : FuncData} (T : Txt K mg ca) (F : Fun K "_law_mixed" "_law_mixed" s__law_mixed f fd) :
    FnOk P w K mg base CX0 1 f fd ["_law_cell", "_law_k"] (spD (theS ((Ts ca).map (·.1))) K FF__law_mixed) := by
  refine okDr F sc__law_mixed (by walk_at "v") (by decide) fun cdv A outer s H E G Fp hr => ⟨_, (dss_cons (ds_set (i := 2) sc__law_mixed.nd rfl (by first | exact .inl rfl | exact .inr rfl) (de_op op_mod od_I (de_op op_mulB (od_mulB rfl) (de_op op_addA (od_add rfl) (de_op op_addA (od_add rfl) (de_op op_addA (od_add rfl) (de_op op_mod od_I (de_var (pv 0)) de_int) (de_op op_mulB (od_mulB rfl) (de_op op_mulB (od_mulB rfl) de_int (de_var (pv 1))) (de_var (pv 1)))) (de_op op_mulB (od_mulB rfl) de_int (de_var (pv 1)))) de_int) de_int) de_int))
      (dss_one (ds_ret (de_op op_fdiv od_I (de_op op_mod od_I (de_op op_mulB (od_mulB rfl) (de_var (pv 2)) (de_op op_addA (od_add rfl) de_int (de_op op_mulB (od_mulB rfl) de_int (de_op op_mod od_I (de_var (pv 1)) de_int)))) de_int) de_int)))), ?_⟩
  dsimp only [Bk.T, theS]
  rintro rs τ Q ⟨c, k, rfl, hk, h⟩
  walk_at "y"
  refine ⟨by decide, .inl ⟨by decide, by decide⟩, .inr ⟨by omega, by omega⟩, .inl ⟨by decide, by decide⟩, .inr ⟨by decide, by decide⟩, by decide, by decide, .inl ⟨by decide, by decide⟩, .inr ⟨by omega, by omega⟩, by decide, ⟨by decide, by decide⟩, h _ ?_⟩
  exact Int.ediv_nonneg (Int.emod_nonneg _ (by decide)) (by decide)
theorem ok__law_within {f : Addr} {fd : FuncData} (T : Txt K mg ca) (F : Fun K "_law_within" "_law_within" s__law_within f fd)  :
    FnG P w K mg base 1 f fd ["_law_term_here"] (spD (theT (Ts ca)) K (FF__law_within)) := by
  refine okG F sc__law_within (by walk_at "v") (by decide) fun cdv A outer s H E G Fp hcd hr => ⟨_, (dss_cons (ds_if (dt_cmp (op_eqA hr.units) (od_eq rfl) (de_ix ix_A (od_ix rfl) (de_var (pv 0)) de_int (fun _ _ => rfl)) de_str (nomark _))
        (dss_one (ds_ret (de_lst (da_cons (de_ix ix_A (od_ix rfl) (de_ix ix_A (od_ix rfl) (de_var (pv 0)) de_int (fun _ _ => rfl)) de_int (fun _ _ => rfl)) (da_cons (de_ix ix_A (od_ix rfl) (de_var (pv 0)) de_int (fun _ _ => rfl)) da_nil)))))
        dss_nil)
      (dss_one (ds_ret (de_callTy call_list_of (cd_list rfl) (by rfl) T.b_list (by decide +kernel) (da_cons (de_slice rfl (de_var (pv 0)) (do_some de_int) do_none) da_nil))))), ?_⟩
  dsimp only [Bk.T, theT]
  rintro rs τ Q ⟨x, rfl, hf, h⟩
  rcases form_inv hf with ⟨n, rfl⟩ | ⟨n, n1, n2, n3, n4, t, u, rfl⟩ | ⟨n, a, b, t, rfl⟩ | ⟨n, a, b, t, u, rfl⟩
  · walk_at "X"
    exact h
  · walk_at "X"
    exact h
  · walk_at "X"
    exact h
  · walk_at "X"
    exact h
theorem ok__law_is {f : Addr} {fd : FuncData} (T : Txt K mg ca) (F : Fun K "_law_is" "_law_is" s__law_is f fd)  :
    FnG P w K mg base 1 f fd ["_law_sort", "_law_thing"] (spD (theT (Ts ca)) K (FF__law_is)) := by
  refine FnG.drop ?_
  refine okG F sc__law_is (by walk_at "w") (by decide) fun cdv A outer s H E G Fp hcd hr => ⟨_, (dss_cons (ds_if (dt_cmp (op_eqA hr.units) (od_eq rfl) (de_var (pv 0)) de_str (nomark _))
        (dss_one (ds_ret (de_and rfl (de_callB call_isi (cd_isi rfl) (by rfl) T.b_isinstance (by decide +kernel) (da_cons (de_var (pv 1)) (da_cons (de_ty (n := "str") (by rfl) T.b_str (by decide +kernel)) da_nil))) (de_and rfl (de_chain op_leA od_cmp op_leA od_cmp de_int (de_callB call_len (cd_len rfl) (by rfl) T.b_len (by decide +kernel) (da_cons (de_var (pv 1)) da_nil)) de_int) (de_one (de_cmp (op_eq0 hr.units) (od_eq0 rfl) (de_lc (own := [("_law_a", 3)]) rfl sc__law_is.nd (di_seq rfl (de_var (pv 1))) (blkOk_by (by kernel_rfl)) (by decide) (fun _ _ _ _ _ => (dg_nm (i := 3) sc__law_is.nd rfl (by first | exact .inl rfl | exact .inr rfl))) (fun _ _ _ _ _ => (dts_one (dt_not (dt_chain op_leA od_cmp op_leA od_cmp de_str (de_var (pv 3)) de_str)))) (fun _ _ _ _ _ => (de_var (pv 3)))) (de_lst da_nil) (nomark _)))))))
        dss_nil)
      (dss_cons (ds_if (dt_cmp (op_eqA hr.units) (od_eq rfl) (de_var (pv 0)) de_str (nomark _))
        (dss_one (ds_ret (de_callB call_isi (cd_isi rfl) (by rfl) T.b_isinstance (by decide +kernel) (da_cons (de_var (pv 1)) (da_cons (de_ty (n := "bool") (by rfl) T.b_bool (by decide +kernel)) da_nil)))))
        dss_nil)
      (dss_cons (ds_set (i := 2) sc__law_is.nd rfl (by first | exact .inl rfl | exact .inr rfl) (de_dix (ws := ["number", "size", "sum", "many", "below"]) (ts := [_, _, _, _, _]) (u1 hr.un) (pps_cons pe_str (de_tup (da_cons (de_neg de_int) (da_cons de_int da_nil))) (pps_cons pe_str (de_tup (da_cons de_int (da_cons de_int da_nil))) (pps_cons pe_str (de_tup (da_cons (de_neg de_int) (da_cons de_int da_nil))) (pps_cons pe_str (de_tup (da_cons de_int (da_cons de_int da_nil))) (pps_cons pe_str (de_tup (da_cons (de_neg de_int) (da_cons de_int da_nil))) pps_nil))))) rfl rfl (by decide) (by decide) rfl (by decide) (by decide) (de_var (pv 0)) (fun _ _ => rfl)))
      (dss_one (ds_ret (de_and rfl (de_callB call_isi (cd_isi rfl) (by rfl) T.b_isinstance (by decide +kernel) (da_cons (de_var (pv 1)) (da_cons (de_ty (n := "int") (by rfl) T.b_int (by decide +kernel)) da_nil))) (de_and rfl (de_not rfl (de_callB call_isi (cd_isi rfl) (by rfl) T.b_isinstance (by decide +kernel) (da_cons (de_var (pv 1)) (da_cons (de_ty (n := "bool") (by rfl) T.b_bool (by decide +kernel)) da_nil)))) (de_one (de_chain op_leA od_cmp op_leA od_cmp (de_ix ix_A (od_ix rfl) (de_var (pv 2)) de_int (fun _ _ => rfl)) (de_var (pv 1)) (de_ix ix_A (od_ix rfl) (de_var (pv 2)) de_int (fun _ _ => rfl))))))))))), ?_⟩
  dsimp only [Bk.T, theT]
  rintro rs τ Q2 ⟨Q, ⟨w, x, rfl, hx, hw, h⟩, rfl⟩
  simp only [sortW, List.mem_cons, List.not_mem_nil, or_false] at hw
  rcases hw with rfl | rfl | rfl | rfl | rfl | rfl | rfl
  · walk_at "X"
    refine kIfS_cast (c := true) (by simp only [str_eqv]; decide) ?_
    walk_at "X"
    cases hx with
    | str s hs =>
      walk_at "X"
      refine ⟨hs.sz, ?_⟩
      have e1 : decide ((1 : Int) ≤ (s.length : Int)) = decide (1 ≤ s.length) := decide_eq_decide.mpr (by omega)
      have e8 : decide ((s.length : Int) ≤ 8) = decide (s.length ≤ 8) := decide_eq_decide.mpr (by omega)
      rw [e1]
      refine kChB_and (c := decide (s.length ≤ 8)) (fun _ Q' q => ?_) ?_
      · walk_at "X"
        rw [e8]
        exact q
      walk_at "X"
      refine kAndB_and (c := (cs s).all smallC) (fun e Q' q => ?_) ?_
      · have hs8 := hs.sz
        walk_at "X"
        refine lc_filt sg sg (fun c => !smallC c) (cs s) (fun c hc kc k0 z1 z2 => ?_) (by rw [← str_len]; exact hs8) ?_
        · have e : smallC c = (decide (97 ≤ c) && decide (c ≤ 122)) := rfl
          rw [e] at z1 z2
          simp only [sg] at z1 ⊢
          walk_at "X"
          rw [strLt_a]
          refine kChB_of (fun q1 => ?_) fun q1 => ?_
          · walk_at "X"
            rw [strLt_z]
            refine kTurn_of (fun q2 => ?_) fun q2 => ?_
            · walk_at "X"
              refine z1 ?_
              simp at q1 q2 ⊢
              omega
            · refine z2 ?_
              simp at q1 q2 ⊢
              omega
          · walk_at "X"
            refine z1 ?_
            simp at q1 ⊢
            omega
        · walk_at "X"
          rw [filt_no28]
          exact q
      · walk_at "X"
        exact ⟨⟨[], rfl⟩, h⟩
    | _ => walk_at "X"; exact ⟨⟨[], rfl⟩, h⟩
  · walk_at "X"
    refine kIfS_cast (c := false) (by simp only [str_eqv]; decide) ?_
    walk_at "X"
    refine kIfS_cast (c := true) (by simp only [str_eqv]; decide) ?_
    walk_at "X"
    cases hx <;> walk_at "X" <;> exact ⟨⟨[], rfl⟩, h⟩
  · walk_at "X"
    refine kIfS_cast (c := false) (by simp only [str_eqv]; decide) ?_
    walk_at "X"
    refine kIfS_cast (c := false) (by simp only [str_eqv]; decide) ?_
    walk_at "X"
    refine kDix_at [.tuple [.int (-20), .int 20], .tuple [.int 0, .int 8], .tuple [.int (-160), .int 160], .tuple [.int 0, .int 7], .tuple [.int (-160), .int 159]] "number" (.tuple [.int (-20), .int (20)]) (fun τ' R z => ?_) (fun τ' R z => z) (by kernel_rfl) fun p => ?_
    · walk_at "X"
      exact z
    walk_at "X"
    have h : Q (.d (.bool (isWholeD x (-20) (20)))) τ := h
    cases hx with
    | int i =>
      walk_at "X"
      refine kChB_and (c := decide (i ≤ 20)) (fun _ Q' q => ?_) ?_
      · walk_at "X"
        exact q
      walk_at "X"
      exact ⟨⟨[_], rfl⟩, h⟩
    | _ => walk_at "X"; exact ⟨⟨[_], rfl⟩, h⟩
  · walk_at "X"
    refine kIfS_cast (c := false) (by simp only [str_eqv]; decide) ?_
    walk_at "X"
    refine kIfS_cast (c := false) (by simp only [str_eqv]; decide) ?_
    walk_at "X"
    refine kDix_at [.tuple [.int (-20), .int 20], .tuple [.int 0, .int 8], .tuple [.int (-160), .int 160], .tuple [.int 0, .int 7], .tuple [.int (-160), .int 159]] "size" (.tuple [.int (0), .int (8)]) (fun τ' R z => ?_) (fun τ' R z => z) (by kernel_rfl) fun p => ?_
    · walk_at "X"
      exact z
    walk_at "X"
    have h : Q (.d (.bool (isWholeD x (0) (8)))) τ := h
    cases hx with
    | int i =>
      walk_at "X"
      refine kChB_and (c := decide (i ≤ 8)) (fun _ Q' q => ?_) ?_
      · walk_at "X"
        exact q
      walk_at "X"
      exact ⟨⟨[_], rfl⟩, h⟩
    | _ => walk_at "X"; exact ⟨⟨[_], rfl⟩, h⟩
  · walk_at "X"
    refine kIfS_cast (c := false) (by simp only [str_eqv]; decide) ?_
    walk_at "X"
    refine kIfS_cast (c := false) (by simp only [str_eqv]; decide) ?_
    walk_at "X"
    refine kDix_at [.tuple [.int (-20), .int 20], .tuple [.int 0, .int 8], .tuple [.int (-160), .int 160], .tuple [.int 0, .int 7], .tuple [.int (-160), .int 159]] "sum" (.tuple [.int (-160), .int (160)]) (fun τ' R z => ?_) (fun τ' R z => z) (by kernel_rfl) fun p => ?_
    · walk_at "X"
      exact z
    walk_at "X"
    have h : Q (.d (.bool (isWholeD x (-160) (160)))) τ := h
    cases hx with
    | int i =>
      walk_at "X"
      refine kChB_and (c := decide (i ≤ 160)) (fun _ Q' q => ?_) ?_
      · walk_at "X"
        exact q
      walk_at "X"
      exact ⟨⟨[_], rfl⟩, h⟩
    | _ => walk_at "X"; exact ⟨⟨[_], rfl⟩, h⟩
  · walk_at "X"
    refine kIfS_cast (c := false) (by simp only [str_eqv]; decide) ?_
    walk_at "X"
    refine kIfS_cast (c := false) (by simp only [str_eqv]; decide) ?_
    walk_at "X"
    refine kDix_at [.tuple [.int (-20), .int 20], .tuple [.int 0, .int 8], .tuple [.int (-160), .int 160], .tuple [.int 0, .int 7], .tuple [.int (-160), .int 159]] "many" (.tuple [.int (0), .int (7)]) (fun τ' R z => ?_) (fun τ' R z => z) (by kernel_rfl) fun p => ?_
    · walk_at "X"
      exact z
    walk_at "X"
    have h : Q (.d (.bool (isWholeD x (0) (7)))) τ := h
    cases hx with
    | int i =>
      walk_at "X"
      refine kChB_and (c := decide (i ≤ 7)) (fun _ Q' q => ?_) ?_
      · walk_at "X"
        exact q
      walk_at "X"
      exact ⟨⟨[_], rfl⟩, h⟩
    | _ => walk_at "X"; exact ⟨⟨[_], rfl⟩, h⟩
  · walk_at "X"
    refine kIfS_cast (c := false) (by simp only [str_eqv]; decide) ?_
    walk_at "X"
    refine kIfS_cast (c := false) (by simp only [str_eqv]; decide) ?_
    walk_at "X"
    refine kDix_at [.tuple [.int (-20), .int 20], .tuple [.int 0, .int 8], .tuple [.int (-160), .int 160], .tuple [.int 0, .int 7], .tuple [.int (-160), .int 159]] "below" (.tuple [.int (-160), .int (159)]) (fun τ' R z => ?_) (fun τ' R z => z) (by kernel_rfl) fun p => ?_
    · walk_at "X"
      exact z
    walk_at "X"
    have h : Q (.d (.bool (isWholeD x (-160) (159)))) τ := h
    cases hx with
    | int i =>
      walk_at "X"
      refine kChB_and (c := decide (i ≤ 159)) (fun _ Q' q => ?_) ?_
      · walk_at "X"
        exact q
      walk_at "X"
      exact ⟨⟨[_], rfl⟩, h⟩
    | _ => walk_at "X"; exact ⟨⟨[_], rfl⟩, h⟩
theorem ok_is_number {f : Addr} {fd : FuncData} (T : Txt K mg ca) (F : Fun K "is_number" "is_number" s_is_number f fd) (k_is_whole : Known P w K mg base (theT (Ts ca)) "is_whole" ["thing", "least", "most"] 1 (FF_is_whole)) :
    FnOk P w K mg base CX0 2 f fd ["thing"] (spD (theT (Ts ca)) K (FF_is_number)) := by
  refine okP F sc_is_number (by walk_at "v") (by decide) fun cdv A outer s H E G Fp hr => ⟨_, (dss_one (ds_ret (de_callK rfl k_is_whole (hr.mono (by decide)) (by rfl) (da_cons (de_var (pv 0)) (da_cons (de_op op_sub od_I0 de_int (de_gint (by rfl) T.c_MOST_NUMBER)) (da_cons (de_gint (by rfl) T.c_MOST_NUMBER) da_nil)))))), ?_⟩
  dsimp only [Bk.T, theT]
  rintro rs τ Q ⟨x, rfl, hx, h⟩
  walk_at "y"
  exact ⟨x, _, _, rfl, hx, by walk_at "y"; exact h⟩
theorem ok_are_names {f : Addr} {fd : FuncData} (T : Txt K mg ca) (F : Fun K "are_names" "are_names" s_are_names f fd) (k_is_name : Known P w K mg base (theT (Ts ca)) "is_name" ["thing"] 1 (FF_is_name)) :
    FnOk P w K mg base CX0 2 f fd ["thing", "many"] (spD (theT (Ts ca)) K (FF_are_names)) := by
  refine okP F sc_are_names (by walk_at "v") (by decide) fun cdv A outer s H E G Fp hr => ⟨_, (dss_one (ds_ret (de_and rfl (de_callB call_isi (cd_isi rfl) (by rfl) T.b_isinstance (by decide +kernel) (da_cons (de_var (pv 0)) (da_cons (de_ty (n := "tuple") (by rfl) T.b_tuple (by decide +kernel)) da_nil))) (de_and rfl (de_cmp (op_eqA hr.units) (od_eq rfl) (de_callB call_len (cd_len rfl) (by rfl) T.b_len (by decide +kernel) (da_cons (de_var (pv 0)) da_nil)) (de_var (pv 1)) (nomark _)) (de_one (de_callB (cr_all rfl) (cd_all rfl) (by rfl) T.b_all (by decide +kernel) (da_cons (de_lc (own := [("one", 2)]) rfl sc_are_names.nd (di_seq rfl (de_var (pv 0))) (blkOk_by (by kernel_rfl)) (by decide) (fun _ _ _ _ _ => (dg_nm (i := 2) sc_are_names.nd rfl (by first | exact .inl rfl | exact .inr rfl))) (fun _ _ _ _ _ => dts_nil) (fun _ _ _ _ _ => (de_callK rfl k_is_name (hr.mono (by decide)) (by rfl) (da_cons (de_var (pv 2)) da_nil)))) da_nil))))))), ?_⟩
  dsimp only [Bk.T, theT]
  rintro rs τ Q ⟨x, m, rfl, hk, hm, h⟩
  walk_at "X"
  cases hk with
  | tup xs hx =>
    walk_at "X"
    have em : decide ((xs.length : Int) = (m : Int)) = decide (xs.length = m) := decide_eq_decide.mpr (by omega)
    rw [em]
    refine kAndB_and (c := xs.all isNameD) (fun e Q' q => ?_) (by walk_at "X"; exact h)
    have e := of_decide_eq_true e
    walk_at "X"
    rw [show xs = xs.map (fun x : D => x) from (List.map_id _).symm]
    refine lc_mapA (fun x : D => x) (fun x => .bool (isNameD x)) xs (fun x hx2 kc k0 z => ?_) (by rw [sizeLine_eq]; omega) ?_
    · walk_at "X"
      refine ⟨x, rfl, hx x hx2, ?_⟩
      walk_at "X"
      exact z
    walk_at "X"
    rw [bools_of isNameD xs]
    walk_at "X"
    rw [all_id]
    exact q
  | _ => walk_at "X"; exact h
theorem ok_is_part_terms {f : Addr} {fd : FuncData} (T : Txt K mg ca) (F : Fun K "is_part" "is_part" s_is_part_terms f fd) (k_is_whole : Known P w K mg base (theT (Ts ca)) "is_whole" ["thing", "least", "most"] 1 (FF_is_whole)) (gd_BOUNDS : GDict mg K w "BOUNDS" [("many", .tuple [.int (0), .int (7)]), ("sum", .tuple [.int (-160), .int (159)])]) :
    FnOk P w K mg base CX0 2 f fd ["thing"] (spD (theT (Ts ca)) K (FF_is_part_terms)) := by
  refine okP F sc_is_part_terms (by walk_at "v") (by decide) fun cdv A outer s H E G Fp hr => ⟨_, (dss_cons (ds_if (dt_w (dw_or (dt_cmp (op_neA hr.units) (od_ne rfl) (de_callB call_len (cd_len rfl) (by rfl) T.b_len (by decide +kernel) (da_cons (de_var (pv 0)) da_nil)) de_int (nomark _)) (dw_or (dt_not (dt_tru rfl (de_callB call_isi (cd_isi rfl) (by rfl) T.b_isinstance (by decide +kernel) (da_cons (de_ix ix_A (od_ix rfl) (de_var (pv 0)) de_int (fun _ _ => rfl)) (da_cons (de_ty (n := "str") (by rfl) T.b_str (by decide +kernel)) da_nil))))) (dw_or1 (dt_inM rfl gd_BOUNDS (by rfl) (de_ix ix_A (od_ix rfl) (de_var (pv 0)) de_int (fun _ _ => rfl)))))))
        (dss_one (ds_ret de_bl))
        dss_nil)
      (dss_cons (ds_asg (de_ixM rfl gd_BOUNDS (by rfl) (de_ix ix_A (od_ix rfl) (de_var (pv 0)) de_int (fun _ _ => rfl)) (fun _ _ => rfl)) (dg_tp rfl rfl (dg_cons (dg_nm (i := 1) sc_is_part_terms.nd rfl (by first | exact .inl rfl | exact .inr rfl)) (dg_cons (dg_nm (i := 2) sc_is_part_terms.nd rfl (by first | exact .inl rfl | exact .inr rfl)) dg_nil))))
      (dss_one (ds_ret (de_callK rfl k_is_whole (hr.mono (by decide)) (by rfl) (da_cons (de_ix ix_A (od_ix rfl) (de_var (pv 0)) de_int (fun _ _ => rfl)) (da_cons (de_var (pv 1)) (da_cons (de_var (pv 2)) da_nil)))))))), ?_⟩
  dsimp only [Bk.T, theT]
  rintro rs τ Q ⟨xs, rfl, hx, hl, h⟩
  match xs, hx, hl, h with
  | [a, b], hx, hl, h => walk_at "X"; exact h
  | [a, b, c], hx, hl, h => walk_at "X"; exact h
  | [a, b, c, d], hx, hl, h => walk_at "X"; exact h
  | [a, b, c, d, e], hx, hl, h => walk_at "X"; exact h
  | [x0, x1, a, b, x4, x5], hx, hl, h =>
    have ha := hx.items a (by simp)
    have hb := hx.items b (by simp)
    walk_at "X"
    cases ha with
    | str w hw =>
      walk_at "X"
      by_cases h1 : w = "many"
      · subst h1
        rw [bnd_many]
        walk_at "X"
        refine ⟨_, _, rfl, bnd_many, ?_⟩
        walk_at "X"
        refine ⟨b, 0, 7, rfl, hb.plain, ?_⟩
        walk_at "X"
        exact h
      by_cases h2 : w = "sum"
      · subst h2
        rw [bnd_sum]
        walk_at "X"
        refine ⟨_, _, rfl, bnd_sum, ?_⟩
        walk_at "X"
        refine ⟨b, -160, 159, rfl, hb.plain, ?_⟩
        walk_at "X"
        exact h
      rw [bnd_none h1 h2, show (!(none : Option D).isSome) = true from rfl]
      walk_at "X"
      have : ptD (.str w) b = false := by
        show (if w = "many" then _ else if w = "sum" then _ else false) = false
        rw [if_neg h1, if_neg h2]
      have h : Q (.d (.bool (ptD (.str w) b))) τ := h
      rw [this] at h
      exact h
    | _ => walk_at "X"; exact h
  | a :: b :: c :: d :: e :: f :: g :: t, hx, hl, h => walk_at "X"; rw [decide_eq_false (show ¬ ((t.length + 1 + 1 + 1 + 1 + 1 + 1 + 1 : Nat) : Int) = 6 by omega)]; walk_at "X"; exact h
theorem ok_places_of {f : Addr} {fd : FuncData} (T : Txt K mg ca) (F : Fun K "places_of" "places_of" s_places_of f fd) (k_terms_of : Known P w K mg base (theT (Ts ca)) "terms_of" ["term"] 1 (FF_terms_of)) :
    FnOk P w K mg base CX0 2 f fd ["term"] (spD (theT (Ts ca)) K (FF_places_of)) := by
  refine okP F sc_places_of (by walk_at "v") (by decide) fun cdv A outer s H E G Fp hr => ⟨_, (dss_cons (ds_set (i := 1) sc_places_of.nd rfl (by first | exact .inl rfl | exact .inr rfl) (de_lst da_nil))
      (dss_cons (ds_set (i := 2) sc_places_of.nd rfl (by first | exact .inl rfl | exact .inr rfl) (de_lst (da_cons (de_var (pv 0)) da_nil)))
      (dss_cons (ds_while PassesOwn.never (dt_cmp (op_ne0 hr.units) (od_eq0 rfl) (de_var (pv 2)) (de_lst da_nil) (nomark _))
        (dss_cons (ds_appP (i := 1) (j := 2) (by decide) (ps_expr (pe_bm PySem.F.plainAttrs_list PySem.F.slot_list_append PySem.F.type_list_append mt_append (pv 1) (pa_cons (pe_bm0 PySem.F.plainAttrs_list PySem.F.slot_list_pop PySem.F.type_list_pop mt_pop (pv 2)) pa_nil))))
        (dss_one (ds_ext (ps_expr (pe_bm PySem.F.plainAttrs_list PySem.F.slot_list_extend PySem.F.type_list_extend mt_extend (pv 2) (pa_cons (de_rev rfl (de_callK rfl k_terms_of (hr.mono (by decide)) (by rfl) (da_cons (de_ix ix_A (od_ix rfl) (de_var (pv 1)) (de_neg de_int) (fun _ _ => rfl)) da_nil))) pa_nil)))))))
      (dss_one (ds_retR (dr_own (pv 1))))))), ?_⟩
  dsimp only [Bk.T, theT]
  rintro rs τ Q ⟨n, x, rfl, hg, hl, h⟩
  walk_at "X"
  refine ⟨(placesD n x).length + 1, while_inv (fun k env τ' => τ' = τ ∧ ∃ (found : List D) (W : List (Nat × D)), env = [.d x, .ol found, .ol (W.map (·.2)).reverse] ∧ (∀ w ∈ W, goodD w.1 w.2 = true) ∧ found ++ placesW W = placesD n x ∧ (placesW W).length = k) ?_ (placesD n x).length _ _ ⟨rfl, [], [(n, x)], rfl, fun w hw => by rw [List.mem_singleton.mp hw]; exact hg, by simp [placesW], by simp [placesW]⟩⟩
  rintro k env _ ⟨rfl, found, W, rfl, hW, hf, hk⟩ Wn hWn
  walk_at "X"
  cases W with
  | nil =>
    walk_at "X"
    rw [show found = placesD n x by rw [← hf]; simp [placesW]]
    exact h
  | cons w W =>
    obtain ⟨m, y⟩ := w
    have hgy := hW (m, y) (by simp)
    have hlf : found.length + (placesW ((m, y) :: W)).length = (placesD n x).length := by rw [← hf, List.length_append]
    cases m with
    | zero => cases hgy
    | succ m =>
      have hfy : formD y = true := by
        have hgy : (formD y && (kidsD y).all (goodD m)) = true := hgy
        rw [Bool.and_eq_true] at hgy
        exact hgy.1
      rw [show (List.map (fun x : Nat × D => x.snd) ((m + 1, y) :: W)).reverse = (W.map fun x => x.snd).reverse ++ [y] by simp]
      rw [show ((W.map fun x : Nat × D => x.snd).reverse ++ [y]).isEmpty = false by simp]
      rw [if_pos (show (!false) = true from rfl)]
      have hsz : found.length + 1 ≤ 1000 := by
        have := W_len ((m + 1, y) :: W)
        rw [List.length_cons] at this
        omega
      refine ⟨_, y, rfl, by rw [sizeLine_eq]; omega, ?_⟩
      walk_at "X"
      rw [atI_lst]
      walk_at "X"
      refine ⟨y, rfl, hfy, ?_⟩
      walk_at "X"
      have hp := placesW_cons m y W
      have hk2 := placesW_kids m y W
      have hlk := W_len (((kidsD y).map fun z => (m, z)) ++ W)
      rw [hp, List.length_cons, ← hk2] at hk
      have hlf2 : found.length + ((placesW (((kidsD y).map fun z => (m, z)) ++ W)).length + 1) = (placesD n x).length := by
        rw [← hlf, hp, List.length_cons, ← hk2]
      rw [List.length_append, List.length_map] at hlk
      refine ⟨by rw [List.length_reverse, List.length_reverse, List.length_map, sizeLine_eq]; omega, ?_⟩
      refine hWn _ _ ⟨(placesW (((kidsD y).map fun z => (m, z)) ++ W)).length, by omega, rfl, found ++ [y], ((kidsD y).map fun z => (m, z)) ++ W, ?_, fun w hw => ?_, ?_, rfl⟩
      · rw [List.map_append, List.map_map, List.reverse_append]
        rw [show (kidsD y).map ((fun x : Nat × D => x.snd) ∘ fun z => (m, z)) = kidsD y from (List.map_congr_left fun z _ => rfl).trans (List.map_id _)]
      · rcases List.mem_append.mp hw with hw | hw
        · obtain ⟨z, hz, rfl⟩ := List.mem_map.mp hw
          have hgy : (formD y && (kidsD y).all (goodD m)) = true := hgy
          rw [Bool.and_eq_true, List.all_eq_true] at hgy
          exact hgy.2 z hz
        · exact hW w (List.mem_cons_of_mem _ hw)
      · rw [hk2, ← hf, hp]
        simp
theorem ok__law_next {f : Addr} {fd : FuncData} (T : Txt K mg ca) (F : Fun K "_law_next" "_law_next" s__law_next f fd) (k__law_mixed : Known P w K mg base (theS ((Ts ca).map (·.1))) "_law_mixed" ["_law_cell", "_law_k"] 1 FF__law_mixed) :
    FnOk P w K mg base CX0 2 f fd ["_law_draw", "_law_many_here"] (spD (theS ((Ts ca).map (·.1))) K FF__law_next) := by
  obtain ⟨fM, fdM, GM, gM, kM, bM⟩ := k__law_mixed.ex
  refine F.ok sc__law_next (fun vs H Q E h => ?_) (fun cdv A outer s H vs Q E hr h => ?_)
  · obtain ⟨G, Fp, τ, rs, Qd, Ha, k, r, dr, ⟨a, b, n, e, ht, hn, q⟩, fin⟩ := h
    subst e
    obtain ⟨v, w', e1, _, _⟩ := r.two
    subst e1
    rfl
  · obtain ⟨G, Fp, τ, rs, Qd, Ha, k, r, dr, ⟨a, b, n, e, ht, hn, q⟩, fin⟩ := h
    subst e ht
    obtain ⟨v, w', e1, rv, rw'⟩ := r.two
    have rv : v = .ref a := rv
    have rw' := rint rw'
    subst e1 rv rw'
    have hu := hu_of hr
    obtain ⟨hF, c, cs, i, l, u, hd, hc, hne, h0⟩ := id k.r
    have hcH : SqP K H c (cs.map V.int) := same_sqp k.same hc
    refine ⟨_, pss_cons (ps_if (pt_cmpR op_gt (pe_dget hu (pv 0) pe_str (fun _ _ => rfl)) pe_int (nomark _))
        (pss_cons (ps_set (i := 2) sc__law_next.nd rfl (.inl rfl) (pe_op op_mod (pe_dget hu (pv 0) pe_str (fun _ _ => rfl)) (pv 1)))
        (pss_cons (ps_dput hu (pv 0) pe_str (pe_op op_fdiv (pe_dget hu (pv 0) pe_str (fun _ _ => rfl)) (pv 1)) rfl)
        (pss_one (ps_ret (pv 2))))) pss_nil)
      (pss_cons (ps_set (i := 3) sc__law_next.nd rfl (.inl rfl) (pe_dget hu (pv 0) pe_str (fun _ _ => rfl)))
      (pss_cons (ps_set (i := 4) sc__law_next.nd rfl (.inl rfl) (pe_ix ix_list (pv 3) (pe_op op_mod (pe_dget hu (pv 0) pe_str (fun _ _ => rfl)) (pe_callB call_len_seq (by rfl) T.b_len PySem.boot_len (pa_cons (pv 3) pa_nil))) (fun _ _ => rfl)))
      (pss_cons (ps_dput hu (pv 0) pe_str (pe_op op_add (pe_dget hu (pv 0) pe_str (fun _ _ => rfl)) pe_int) rfl)
      (pss_cons (ps_if (PW.pt (pw_and (pt_cmpR op_ge (pv 4) (pe_op op_pow pe_int pe_int) (nomark _)) (pw_and1 (pt_cmpR op_le (pe_dget hu (pv 0) pe_str (fun _ _ => rfl)) (pe_callB call_len_seq (by rfl) T.b_len PySem.boot_len (pa_cons (pv 3) pa_nil)) (nomark _)))))
        (pss_cons (ps_dput hu (pv 0) pe_str (pe_op op_fdiv (pv 4) (pv 1)) rfl) (pss_one (ps_ret (pe_op op_mod (pv 4) (pv 1))))) pss_nil)
      (pss_cons (ps_dput hu (pv 0) pe_str (pe_op op_add (pe_dget hu (pv 0) pe_str (fun _ _ => rfl)) pe_int) rfl)
      (pss_one (ps_ret (pe_op op_mod (pe_call GM hr (by rfl) gM kM bM .nil pass0 (pa_cons (pe_call GM hr (by rfl) gM kM bM .nil pass0 (pa_cons (pv 4) (pa_cons (pe_dget hu (pv 0) pe_str (fun _ _ => rfl)) pa_nil)))
        (pa_cons (pe_dget hu (pv 0) pe_str (fun _ _ => rfl)) pa_nil))) (pv 1))))))))), ?_⟩
    have gL : DGet H a (.str "left") (some (.int l)) := by
      have z := DGet.k (k := Sum.inr ("left" : Str)) hd
      rw [dr_left] at z
      exact z
    have gA : DGet H a (.str "at") (some (.int i)) := by
      have z := DGet.k (k := Sum.inr ("at" : Str)) hd
      rw [dr_at] at z
      exact z
    have gC : DGet H a (.str "cells") (some (.ref c)) := by
      have z := DGet.k (k := Sum.inr ("cells" : Str)) hd
      rw [dr_cells] at z
      exact z
    have put : ∀ {H' : Hp} {i l u : Int} (x : Str) (z : Int) (K' : List (Key × V)), H' a = some (.dK (drK c i l u)) → putK (drK c i l u) (Sum.inr x) (.int z) = K' → DPut H' a (.str x) (.int z) (upd H' a (.dK K')) := fun {H' i l u} x z K' e ek => by
      have y := DPut.k (k := Sum.inr x) (v := .int z) e (by rw [dr_len]; decide)
      rw [ek] at y
      exact y
    -- if left > 0
    refine ⟨_, rfl, a, _, rfl, gL, _, _, rfl, rfl, _, rfl, ite2 (fun _ => ?_) (fun _ => ?_)⟩
    · refine ⟨_, rfl, a, _, rfl, gL, _, rfl, _, _, rfl, rfl, hn.1, ?_⟩
      refine ⟨_, rfl, a, _, rfl, gL, _, rfl, _, _, rfl, rfl, hn, _, rfl, a, _, rfl, put "left" _ _ hd dr_pleft, _, rfl, ?_⟩
      obtain ⟨k2, st2⟩ := dr_ok (b' := b) (i' := i) (l' := l / n) (u' := u) k hc hne (by omega)
      exact fin (.d (.int (l % n))) (.on a b) G Fp _ _ st2 k2 (Rp.int _) (q _ (Int.emod_nonneg _ (by omega)) (Int.emod_lt_of_pos _ hn.1))
    -- cells; the cell at hand
    refine ⟨_, rfl, a, _, rfl, gC, ?_⟩
    have hlen : 0 < cs.length := List.length_pos_iff.mpr hne
    have hix : (i % (cs.length : Int)).toNat < cs.length := by
      have h1 := Int.emod_nonneg i (show (cs.length : Int) ≠ 0 by omega)
      have h2 := Int.emod_lt_of_pos i (show (0 : Int) < cs.length by omega)
      omega
    have hat : atI (cs.map V.int) (i % (cs.length : Int)) = some (.int cs[(i % (cs.length : Int)).toNat]) := by
      have e : i % (cs.length : Int) = ((i % (cs.length : Int)).toNat : Int) := (Int.toNat_of_nonneg (Int.emod_nonneg i (by omega))).symm
      exact at_of e (by rw [List.getElem?_map, List.getElem?_eq_getElem hix]; rfl)
    refine ⟨_, rfl, _, rfl, a, _, rfl, gA, _, rfl, c, _, rfl, .inl hcH.sql, i, (((cs.map V.int).length : Nat) : Int), rfl, rfl, by rw [List.length_map]; show (0 : Int) < cs.length; omega, c, cs.map V.int, _, _, rfl, rfl, hcH.sql, by rw [List.length_map]; exact hat, ?_⟩
    -- at + 1
    refine ⟨_, rfl, a, _, rfl, gA, _, _, rfl, rfl, _, rfl, a, _, rfl, put "at" _ _ hd dr_pat, ?_⟩
    obtain ⟨k2, st2⟩ := dr_ok (b' := b) (i' := i + 1) (l' := l) (u' := u) k hc hne (by omega)
    generalize cs[(i % (cs.length : Int)).toNat] = cell
    have hcH2 : SqP K (upd H a (.dK (drK c (i + 1) l u))) c (cs.map V.int) := same_sqp k2.same hc
    have gA2 : DGet (upd H a (.dK (drK c (i + 1) l u))) a (.str "at") (some (.int (i + 1))) := by
      have z := DGet.k (k := Sum.inr ("at" : Str)) (show (upd H a (.dK (drK c (i + 1) l u))) a = _ from upd_same)
      rw [dr_at] at z
      exact z
    have gU2 : DGet (upd H a (.dK (drK c (i + 1) l u))) a (.str "used") (some (.int u)) := by
      have z := DGet.k (k := Sum.inr ("used" : Str)) (show (upd H a (.dK (drK c (i + 1) l u))) a = _ from upd_same)
      rw [dr_used] at z
      exact z
    have lastR : ∀ (D : Ends) (σ0 : L2.St), σ0[0]? = some (some (.ref a)) → σ0[1]? = some (some (.int n)) → σ0[4]? = some (some (.int cell)) → (∀ v H', Q v H' → D.rt v H') → tSeq (sDPut (tVar 0) (tC (.str "used")) (tOp (rI0 fun i j => .int (i + j)) (tDGet (tVar 0) (tC (.str "used"))) (tC (.int 1))))
        (tRet (tOp (rI (fun _ j => 0 < j) fun i j => .int (i % j)) (tCall (spD (theS ((Ts ca).map (·.1))) K FF__law_mixed) [] E0 (tCons (tCall (spD (theS ((Ts ca).map (·.1))) K FF__law_mixed) [] E0 (tCons (tVar 4) (tCons (tDGet (tVar 0) (tC (.str "at"))) tNil))) (tCons (tDGet (tVar 0) (tC (.str "used"))) tNil))) (tVar 1))) D
        σ0 (upd H a (.dK (drK c (i + 1) l u))) := fun D σ0 z0 z1 z4 hD => by
      refine ⟨_, z0, a, _, rfl, gU2, _, _, rfl, rfl, _, z0, a, _, rfl, put "used" _ _ upd_same dr_pused, ?_⟩
      rw [upd_upd]
      obtain ⟨k3, st3⟩ := dr_ok (b' := b) (i' := i + 1) (l' := l) (u' := u + 1) k hc hne (by omega)
      have gA3 : DGet (upd H a (.dK (drK c (i + 1) l (u + 1)))) a (.str "at") (some (.int (i + 1))) := by
        have z := DGet.k (k := Sum.inr ("at" : Str)) (show (upd H a (.dK (drK c (i + 1) l (u + 1)))) a = _ from upd_same)
        rw [dr_at] at z
        exact z
      have fa : Fp a := (hF a).mpr rfl
      refine ⟨_, z4, _, z0, a, _, rfl, gA3, G, Fp, .on a b, [.d (.int cell), .d (.int (i + 1))], fun r τ => (∃ m : Int, 0 ≤ m ∧ r = .d (.int m)) ∧ τ = .on a b, H, k3, .cons (Rp.int _) (.cons (Rp.int _) .nil), rfl, ⟨cell, i + 1, rfl, by omega, fun m hm => ⟨⟨m, hm, rfl⟩, rfl⟩⟩, fun r1 τ4 G4 F4 H4 v4 st4 ok4 res4 q4 => ?_⟩
      obtain ⟨⟨m, hm, e1⟩, e2⟩ := q4
      subst e1 e2
      have e3 := rint res4
      subst e3
      obtain ⟨hF4, c4, cs4, i4, l4, u4, hd4, hc4, hne4, h4⟩ := id ok4.r
      have gU4 : DGet H4 a (.str "used") (some (.int u4)) := by
        have z := DGet.k (k := Sum.inr ("used" : Str)) hd4
        rw [dr_used] at z
        exact z
      refine ⟨_, z0, a, _, rfl, gU4, G4, F4, .on a b, [.d (.int m), .d (.int u4)], fun r τ => (∃ m : Int, 0 ≤ m ∧ r = .d (.int m)) ∧ τ = .on a b, H4, ok4, .cons (Rp.int _) (.cons (Rp.int _) .nil), rfl, ⟨m, u4, rfl, by omega, fun m hm => ⟨⟨m, hm, rfl⟩, rfl⟩⟩, fun r1 τ5 G5 F5 H5 v5 st5 ok5 res5 q5 => ?_⟩
      obtain ⟨⟨m5, hm5, e1⟩, e2⟩ := q5
      subst e1 e2
      have e3 := rint res5
      subst e3
      refine ⟨_, z1, _, _, rfl, rfl, hn.1, hD _ _ ?_⟩
      exact fin (.d (.int (m5 % n))) (.on a b) G5 F5 H5 _ (st3.trans (st4.trans st5)) ok5 (Rp.int _) (q _ (Int.emod_nonneg _ (by omega)) (Int.emod_lt_of_pos _ hn.1))
    refine ⟨_, rfl, _, _, rfl, rfl, (by refine ⟨by decide, by decide, by decide⟩), _, _, rfl, rfl, _, rfl, ite2 (fun _ => ?_) (fun _ => ?_)⟩
    · refine ⟨_, rfl, a, _, rfl, gA2, _, rfl, c, _, rfl, .inl hcH2.sql, _, _, rfl, rfl, _, rfl, ite2 (fun _ => ?_) (fun _ => ?_)⟩
      · refine ⟨_, rfl, _, rfl, _, _, rfl, rfl, hn, _, rfl, a, _, rfl, put "left" _ _ upd_same dr_pleft, _, rfl, _, rfl, _, _, rfl, rfl, hn.1, ?_⟩
        rw [upd_upd]
        obtain ⟨k3, st3⟩ := dr_ok (b' := b) (i' := i + 1) (l' := cell / n) (u' := u) k hc hne (by omega)
        exact fin (.d (.int (cell % n))) (.on a b) G Fp _ _ st3 k3 (Rp.int _) (q _ (Int.emod_nonneg _ (by omega)) (Int.emod_lt_of_pos _ hn.1))
      · exact lastR _ _ rfl rfl rfl fun _ _ h => h
    · exact iteF (lastR _ _ rfl rfl rfl fun _ _ h => h)
theorem ok__law_are {f : Addr} {fd : FuncData} (T : Txt K mg ca) (F : Fun K "_law_are" "_law_are" s__law_are f fd) (k__law_is : KnownG P w K mg base (theT (Ts ca)) "_law_is" ["_law_sort", "_law_thing"] 1 (FF__law_is)) :
    FnG P w K mg base 2 f fd ["_law_sorts", "_law_thing"] (spD (theT (Ts ca)) K (FF__law_are)) := by
  refine okG F sc__law_are (by walk_at "v") (by decide) fun cdv A outer s H E G Fp hcd hr => ⟨_, (dss_cons (ds_if (dt_w (dw_or (dt_not (dt_tru rfl (de_callB call_isi (cd_isi rfl) (by rfl) T.b_isinstance (by decide +kernel) (da_cons (de_var (pv 1)) (da_cons (de_ty (n := "tuple") (by rfl) T.b_tuple (by decide +kernel)) da_nil))))) (dw_or1 (dt_cmp (op_neA hr.units) (od_ne rfl) (de_callB call_len (cd_len rfl) (by rfl) T.b_len (by decide +kernel) (da_cons (de_var (pv 1)) da_nil)) (de_callB call_len (cd_len rfl) (by rfl) T.b_len (by decide +kernel) (da_cons (de_var (pv 0)) da_nil)) (nomark _)))))
        (dss_one (ds_ret de_bl))
        dss_nil)
      (dss_one (ds_ret (de_cmp (op_eq0 hr.units) (od_eq0 rfl) (de_lc (own := [("_law_sort", 2), ("_law_part", 3)]) rfl sc__law_are.nd (di_zipM rfl (by rfl) T.b_zip (da_cons (de_var (pv 0)) (da_cons (de_var (pv 1)) da_nil))) (blkOk_by (by kernel_rfl)) (by decide) (fun _ _ _ _ _ => (dg_tp rfl rfl (dg_cons (dg_nm (i := 2) sc__law_are.nd rfl (by first | exact .inl rfl | exact .inr rfl)) (dg_cons (dg_nm (i := 3) sc__law_are.nd rfl (by first | exact .inl rfl | exact .inr rfl)) dg_nil)))) (fun _ _ _ _ _ => (dts_one (dt_not (dt_tru rfl (de_callG rfl k__law_is (hr.mono (by decide)) (by rfl) (da_cons (de_var (pv 2)) (da_cons (de_var (pv 3)) da_nil))))))) (fun _ _ _ _ _ => (de_var (pv 2)))) (de_lst da_nil) (nomark _))))), ?_⟩
  dsimp only [Bk.T, theT]
  rintro rs τ Q ⟨ws, x, rfl, hx, hw, hl, h⟩
  walk_at "X"
  cases hx with
  | tup xs hx =>
    walk_at "X"
    rw [show decide (((xs.length : Nat) : Int) = ((ws.map PyData.str).length : Nat)) = decide (xs.length = ws.length) from decide_eq_decide.mpr (by rw [List.length_map]; omega)]
    have h : Q (.d (.bool (decide (xs.length = ws.length) && (ws.zip xs).all fun p => sortB p.1 p.2))) τ := h
    refine kIfS_of (fun e => ?_) fun e => ?_
    · walk_at "X"
      rw [Bool.not_eq_true'] at e
      rw [e] at h
      exact h
    rw [Bool.not_eq_false'] at e
    rw [e, Bool.true_and] at h
    have e := of_decide_eq_true e
    walk_at "X"
    rw [show zipD (ws.map .str) xs = (ws.zip xs).map (fun p : Str × D => .tuple [.str p.1, p.2]) by
      unfold zipD
      rw [List.zip_map_left, List.map_map]
      rfl]
    refine lc_filt (fun p : Str × D => .tuple [.str p.1, p.2]) (fun p => .str p.1) (fun p => !sortB p.1 p.2) (ws.zip xs) (fun p hp kc k0 z1 z2 => ?_) (by rw [List.length_zip, sizeLine_eq]; omega) ?_
    · walk_at "X"
      refine ⟨p.1, p.2, rfl, hx p.2 (List.of_mem_zip hp).2, hw p.1 (List.of_mem_zip hp).1, ?_⟩
      walk_at "X"
      refine kTurn_of (fun e => ?_) fun e => ?_
      · walk_at "X"
        exact z1 e
      · exact z2 e
    walk_at "X"
    rw [filt_non]
    exact h
  | _ => walk_at "X"; exact h
theorem ok_is_deed {f : Addr} {fd : FuncData} (T : Txt K mg ca) (F : Fun K "is_deed" "is_deed" s_is_deed f fd) (k_is_number : Known P w K mg base (theT (Ts ca)) "is_number" ["thing"] 2 (FF_is_number)) :
    FnOk P w K mg base CX0 3 f fd ["thing", "many"] (spD (theT (Ts ca)) K (FF_is_deed)) := by
  refine okP F sc_is_deed (by walk_at "v") (by decide) fun cdv A outer s H E G Fp hr => ⟨_, (dss_cons (ds_if (dt_w (dw_or (dt_not (dt_tru rfl (de_callB call_isi (cd_isi rfl) (by rfl) T.b_isinstance (by decide +kernel) (da_cons (de_var (pv 0)) (da_cons (de_ty (n := "tuple") (by rfl) T.b_tuple (by decide +kernel)) da_nil))))) (dw_or (dt_not (dt_chain op_leA od_cmp op_leA od_cmp de_int (de_callB call_len (cd_len rfl) (by rfl) T.b_len (by decide +kernel) (da_cons (de_var (pv 0)) da_nil)) de_int)) (dw_or1 (dt_not (dt_tru rfl (de_callB call_isi (cd_isi rfl) (by rfl) T.b_isinstance (by decide +kernel) (da_cons (de_ix ix_A (od_ix rfl) (de_var (pv 0)) de_int (fun _ _ => rfl)) (da_cons (de_ty (n := "str") (by rfl) T.b_str (by decide +kernel)) da_nil)))))))))
        (dss_one (ds_ret de_bl))
        dss_nil)
      (dss_cons (ds_if (dt_cmp (op_eqA hr.units) (od_eq rfl) (de_callB call_len (cd_len rfl) (by rfl) T.b_len (by decide +kernel) (da_cons (de_var (pv 0)) da_nil)) de_int (nomark _))
        (dss_one (ds_ret (de_and rfl (de_cmp (op_eqA hr.units) (od_eq rfl) (de_var (pv 1)) de_int (nomark _)) (de_and rfl (de_cmp op_inA (od_in rfl) (de_ix ix_A (od_ix rfl) (de_var (pv 0)) de_int (fun _ _ => rfl)) (de_gdat rfl (by rfl) T.c_BY_NUMBER) (by rfl)) (de_one (de_callK rfl k_is_number (hr.mono (by decide)) (by rfl) (da_cons (de_ix ix_A (od_ix rfl) (de_var (pv 0)) de_int (fun _ _ => rfl)) da_nil)))))))
        dss_nil)
      (dss_one (ds_ret (de_cmp op_inA (od_in rfl) (de_ix ix_A (od_ix rfl) (de_var (pv 0)) de_int (fun _ _ => rfl)) (de_if (dt_cmp (op_eqA hr.units) (od_eq rfl) (de_var (pv 1)) de_int (nomark _)) (de_gdat rfl (by rfl) T.c_OF_ONE) (de_gdat rfl (by rfl) T.c_OF_TWO)) (by rfl)))))), ?_⟩
  dsimp only [Bk.T, theT]
  rintro rs τ Q ⟨x, m, rfl, hx, hm, h⟩
  walk_at "X"
  cases x with
  | dict m =>
    cases m with
    | nil => walk_at "X"; exact h
    | cons p r => exact hx.1.elim
  | tuple xs =>
    walk_at "X"
    match xs, hx, h with
    | [], hx, h =>
      walk_at "X"
      refine kChB_and (c := true) (fun _ Q' q => ?_) ?_
      · walk_at "X"
        exact q
      walk_at "X"
      rw [show (!decide ((1 : Int) ≤ ((0 : Nat) : Int))) = true from rfl]
      walk_at "X"
      exact h
    | [a], hx, h =>
      have ha := hx.2 _ rfl a List.mem_cons_self
      walk_at "X"
      refine kChB_and (c := true) (fun _ Q' q => ?_) ?_
      · walk_at "X"
        exact q
      walk_at "X"
      rw [show (!decide ((1 : Int) ≤ ((1 : Nat) : Int))) = false from rfl]
      walk_at "X"
      cases a with
      | dict m =>
        cases m with
        | nil => walk_at "X"; exact h
        | cons p r => exact ha.elim
      | str w =>
        walk_at "X"
        try rw [show decide (((1 : Nat) : Int) = 2) = false from rfl]
        walk_at "X"
        rcases hm with rfl | rfl
        · walk_at "X"
          rw [show isDeedD (.tuple [.str w]) 1 = ofOne.any (fun z => (PyData.str z).eqv (.str w)) from rfl] at h
          simp only [ofOne, List.any_cons, List.any_nil, Bool.or_false] at h
          exact h
        · walk_at "X"
          rw [show isDeedD (.tuple [.str w]) 2 = ofTwo.any (fun z => (PyData.str z).eqv (.str w)) from rfl] at h
          simp only [ofTwo, List.any_cons, List.any_nil, Bool.or_false] at h
          exact h
      | _ => walk_at "X"; exact h
    | [a, b], hx, h =>
      have ha := hx.2 _ rfl a List.mem_cons_self
      have hb := hx.2 _ rfl b (List.mem_cons_of_mem _ List.mem_cons_self)
      walk_at "X"
      refine kChB_and (c := true) (fun _ Q' q => ?_) ?_
      · walk_at "X"
        exact q
      walk_at "X"
      rw [show (!decide ((1 : Int) ≤ ((2 : Nat) : Int))) = false from rfl]
      walk_at "X"
      cases a with
      | dict m =>
        cases m with
        | nil => walk_at "X"; exact h
        | cons p r => exact ha.elim
      | str w =>
        walk_at "X"
        try rw [show decide (((2 : Nat) : Int) = 2) = true from rfl]
        walk_at "X"
        rcases hm with rfl | rfl
        · walk_at "X"
          rw [show isDeedD (.tuple [.str w, b]) 1 = (byNum.any (fun z => (PyData.str z).eqv (.str w)) && isNumD b) from rfl] at h
          simp only [byNum, List.any_cons, List.any_nil, Bool.or_false] at h
          refine kAndB_and (c := isNumD b) (fun _ Q' q => ?_) ?_
          · walk_at "X"
            refine ⟨b, rfl, hb, ?_⟩
            walk_at "X"
            exact q
          walk_at "X"
          exact h
        · walk_at "X"
          exact h
      | _ => walk_at "X"; exact h
    | a :: b :: c :: t, hx, h =>
      walk_at "X"
      refine kChB_and (c := false) (fun _ Q' q => ?_) ?_
      · walk_at "X"
        try rw [show decide (((t.length + 1 + 1 + 1 : Nat) : Int) ≤ 2) = false from decide_eq_false (by omega)]
        exact q
      walk_at "X"
      rw [Bool.and_false]
      walk_at "X"
      rw [show isDeedD (.tuple (a :: b :: c :: t)) m = false by unfold isDeedD; split <;> simp_all] at h
      exact h
  | _ => walk_at "X"; exact h
theorem ok_is_part_kinds {f : Addr} {fd : FuncData} (T : Txt K mg ca) (F : Fun K "is_part" "is_part" s_is_part_kinds f fd) (k_is_number : Known P w K mg base (theT (Ts ca)) "is_number" ["thing"] 2 (FF_is_number)) (k_is_whole : Known P w K mg base (theT (Ts ca)) "is_whole" ["thing", "least", "most"] 1 (FF_is_whole)) :
    FnOk P w K mg base CX0 3 f fd ["at", "thing"] (spD (theT (Ts ca)) K (FF_is_part_kinds)) := by
  refine okP F sc_is_part_kinds (by walk_at "v") (by decide) fun cdv A outer s H E G Fp hr => ⟨_, (dss_cons (ds_if (dt_cmp op_ltA od_cmp (de_var (pv 0)) de_int (nomark _))
        (dss_one (ds_ret (de_callK rfl k_is_number (hr.mono (by decide)) (by rfl) (da_cons (de_var (pv 1)) da_nil))))
        dss_nil)
      (dss_cons (ds_if (dt_cmp op_ltA od_cmp (de_var (pv 0)) de_int (nomark _))
        (dss_one (ds_ret (de_callK rfl k_is_whole (hr.mono (by decide)) (by rfl) (da_cons (de_var (pv 1)) (da_cons de_int (da_cons (de_gint (by rfl) T.c_MOST_LONG) da_nil))))))
        dss_nil)
      (dss_one (ds_ret (de_if (dt_cmp op_ltA od_cmp (de_var (pv 0)) de_int (nomark _)) (de_callB call_isi (cd_isi rfl) (by rfl) T.b_isinstance (by decide +kernel) (da_cons (de_var (pv 1)) (da_cons (de_ty (n := "bool") (by rfl) T.b_bool (by decide +kernel)) da_nil))) (de_callK rfl k_is_whole (hr.mono (by decide)) (by rfl) (da_cons (de_var (pv 1)) (da_cons (de_op op_sub od_I0 de_int (de_gint (by rfl) T.c_MOST_SUM)) (da_cons (de_gint (by rfl) T.c_MOST_SUM) da_nil))))))))), ?_⟩
  dsimp only [Bk.T, theT]
  rintro rs τ Q ⟨i, x, rfl, hi, hx, h⟩
  walk_at "y"
  unfold isPartD at h
  refine kIfS_of (fun e1 => ?_) fun e1 => ?_
  · rw [if_pos (by have := of_decide_eq_true e1; omega)] at h
    walk_at "y"
    exact ⟨x, rfl, hx, by walk_at "y"; exact h⟩
  rw [if_neg (by have := of_decide_eq_false e1; omega)] at h
  walk_at "y"
  refine kIfS_of (fun e2 => ?_) fun e2 => ?_
  · rw [if_pos (by have := of_decide_eq_true e2; omega)] at h
    walk_at "y"
    exact ⟨x, _, _, rfl, hx, by walk_at "y"; exact h⟩
  rw [if_neg (by have := of_decide_eq_false e2; omega)] at h
  walk_at "y"
  refine kIf_of (fun e3 => ?_) fun e3 => ?_
  · rw [if_pos (by have := of_decide_eq_true e3; omega)] at h
    walk_at "y"
    cases x with
    | dict m =>
      cases m with
      | nil => walk_at "y"; exact h
      | cons p r => exact hx.elim
    | _ => walk_at "y"; exact h
  rw [if_neg (by have := of_decide_eq_false e3; omega)] at h
  walk_at "y"
  exact ⟨x, _, _, rfl, hx, by walk_at "y"; exact h⟩
theorem ok_is_going {f : Addr} {fd : FuncData} (T : Txt K mg ca) (F : Fun K "is_going" "is_going" s_is_going f fd) (k_are_names : Known P w K mg base (theT (Ts ca)) "are_names" ["thing", "many"] 2 (FF_are_names)) :
    FnOk P w K mg base CX0 3 f fd ["thing"] (spD (theT (Ts ca)) K (FF_is_going)) := by
  refine okP F sc_is_going (by walk_at "v") (by decide) fun cdv A outer s H E G Fp hr => ⟨_, (dss_one (ds_ret (de_and rfl (de_cmp (op_eqA hr.units) (od_eq rfl) (de_callB call_len (cd_len rfl) (by rfl) T.b_len (by decide +kernel) (da_cons (de_var (pv 0)) da_nil)) de_int (nomark _)) (de_and rfl (de_callB call_isi (cd_isi rfl) (by rfl) T.b_isinstance (by decide +kernel) (da_cons (de_ix ix_A (od_ix rfl) (de_var (pv 0)) de_int (fun _ _ => rfl)) (da_cons (de_ty (n := "tuple") (by rfl) T.b_tuple (by decide +kernel)) da_nil))) (de_and rfl (de_cmp (op_eqA hr.units) (od_eq rfl) (de_callB call_len (cd_len rfl) (by rfl) T.b_len (by decide +kernel) (da_cons (de_ix ix_A (od_ix rfl) (de_var (pv 0)) de_int (fun _ _ => rfl)) da_nil)) de_int (nomark _)) (de_one (de_callK rfl k_are_names (hr.mono (by decide)) (by rfl) (da_cons (de_slice rfl (de_ix ix_A (od_ix rfl) (de_var (pv 0)) de_int (fun _ _ => rfl)) do_none (do_some de_int)) (da_cons de_int da_nil))))))))), ?_⟩
  dsimp only [Bk.T, theT]
  rintro rs τ Q ⟨xs, rfl, hx, hl, h⟩
  match xs, hx, hl, h with
  | [a, b], hx, hl, h => walk_at "X"; exact h
  | [a, b, c], hx, hl, h => walk_at "X"; exact h
  | [x0, x1, a, x3], hx, hl, h =>
    have ha := hx.items a (by simp)
    walk_at "X"
    cases ha with
    | tup ns hn =>
      walk_at "X"
      have e5 : decide ((ns.length : Int) = 5) = decide (ns.length = 5) := decide_eq_decide.mpr (by omega)
      rw [e5]
      have h : Q (.d (.bool (goD (.tuple ns)))) τ := h
      rw [← goD_eq] at h
      refine kAndB_and (c := areNamesD (.tuple (ns.take 4)) 4) (fun e Q' q => ?_) (by walk_at "X"; exact h)
      walk_at "X"
      rw [show cutL ns none (some 4) = ns.take 4 from cut_pre ns 4]
      refine ⟨.tuple (ns.take 4), 4, rfl, .tup _ fun x hx => hn x (List.mem_of_mem_take hx), by decide, ?_⟩
      walk_at "X"
      exact q
    | _ => walk_at "X"; exact h
  | a :: b :: c :: d :: e :: t, hx, hl, h => walk_at "X"; rw [decide_eq_false (show ¬ ((t.length + 1 + 1 + 1 + 1 + 1 : Nat) : Int) = 4 by omega)]; walk_at "X"; exact h
theorem ok__law_deed {f : Addr} {fd : FuncData} (T : Txt K mg ca) (F : Fun K "_law_deed" "_law_deed" s__law_deed f fd) (k__law_next : Known P w K mg base (theT (Ts ca)) "_law_next" ["_law_draw", "_law_many_here"] 2 (FF_next)) :
    FnG P w K mg base 3 f fd ["_law_draw", "_law_many_here"] (spD (theT (Ts ca)) K (FF__law_deed)) := by
  refine okG F sc__law_deed (by walk_at "v") (by decide) fun cdv A outer s H E G Fp hcd hr => ⟨_, (dss_cons (ds_if (dt_cmp (op_eqA hr.units) (od_eq rfl) (de_var (pv 1)) de_int (nomark _))
        (dss_one (ds_ret (de_tup (da_cons (de_ix ix_A (od_ix rfl) (de_lst (da_cons de_str (da_cons de_str (da_cons de_str da_nil)))) (de_callK rfl k__law_next (hr.r.mono (by decide)) (by rfl) (da_cons (de_var (pv 0)) (da_cons de_int da_nil))) (fun _ _ => rfl)) da_nil))))
        dss_nil)
      (dss_cons (ds_set (i := 2) sc__law_deed.nd rfl (by first | exact .inl rfl | exact .inr rfl) (de_lst (da_cons de_str (da_cons de_str (da_cons de_str (da_cons de_str (da_cons de_str (da_cons de_str (da_cons de_str (da_cons de_str (da_cons de_str (da_cons de_str (da_cons de_str (da_cons de_str da_nil))))))))))))))
      (dss_cons (ds_set (i := 3) sc__law_deed.nd rfl (by first | exact .inl rfl | exact .inr rfl) (de_ix ix_A (od_ix rfl) (de_var (pv 2)) (de_callK rfl k__law_next (hr.r.mono (by decide)) (by rfl) (da_cons (de_var (pv 0)) (da_cons de_int da_nil))) (fun _ _ => rfl)))
      (dss_cons (ds_if (dt_cmp op_notInA (od_in rfl) (de_var (pv 3)) (de_tup (da_cons de_str (da_cons de_str (da_cons de_str da_nil)))) (by rfl))
        (dss_one (ds_ret (de_tup (da_cons (de_var (pv 3)) da_nil))))
        dss_nil)
      (dss_one (ds_ret (de_tup (da_cons (de_var (pv 3)) (da_cons (de_ix ix_A (od_ix rfl) (de_lst (da_cons (de_op op_sub od_I0 (de_callK rfl k__law_next (hr.r.mono (by decide)) (by rfl) (da_cons (de_var (pv 0)) (da_cons de_int da_nil))) de_int) (da_cons (de_op op_sub od_I0 (de_callK rfl k__law_next (hr.r.mono (by decide)) (by rfl) (da_cons (de_var (pv 0)) (da_cons de_int da_nil))) de_int) (da_cons (de_ix ix_A (od_ix rfl) (de_lst (da_cons de_int (da_cons (de_neg de_int) da_nil))) (de_callK rfl k__law_next (hr.r.mono (by decide)) (by rfl) (da_cons (de_var (pv 0)) (da_cons de_int da_nil))) (fun _ _ => rfl)) da_nil)))) (de_callK rfl k__law_next (hr.r.mono (by decide)) (by rfl) (da_cons (de_var (pv 0)) (da_cons de_int da_nil))) (fun _ _ => rfl)) da_nil))))))))), ?_⟩
  dsimp only [Bk.T, theT]
  rintro rs τ Q ⟨a, b, cs, m, rfl, rfl, hb, hm, q⟩
  rcases hm with rfl | rfl
  · walk_at "Y"
    refine nextT (by omega) (by decide) (by decide) fun w w0 w1 => ?_
    walk_at "X"
    refine kAt_of w0 (by simpa using w1) fun z ez hz => ?_
    simp only [List.mem_cons, List.not_mem_nil, or_false] at hz
    rcases hz with rfl | rfl | rfl | rfl | rfl | rfl | rfl | rfl | rfl | rfl | rfl | rfl
    · walk_at "X"
      refine kIfS_cast (c := true) (by simp only [str_eqv]; decide) ?_
      walk_at "X"
      exact q (.one .turn) _ (by omega) trivial rfl
    · walk_at "X"
      refine kIfS_cast (c := true) (by simp only [str_eqv]; decide) ?_
      walk_at "X"
      exact q (.one .order) _ (by omega) trivial rfl
    · walk_at "X"
      refine kIfS_cast (c := true) (by simp only [str_eqv]; decide) ?_
      walk_at "X"
      exact q (.one .first) _ (by omega) trivial rfl
    · walk_at "X"
      refine kIfS_cast (c := true) (by simp only [str_eqv]; decide) ?_
      walk_at "X"
      exact q (.one .last) _ (by omega) trivial rfl
    · walk_at "X"
      refine kIfS_cast (c := true) (by simp only [str_eqv]; decide) ?_
      walk_at "X"
      exact q (.one .rest) _ (by omega) trivial rfl
    · walk_at "X"
      refine kIfS_cast (c := true) (by simp only [str_eqv]; decide) ?_
      walk_at "X"
      exact q (.one .least) _ (by omega) trivial rfl
    · walk_at "X"
      refine kIfS_cast (c := true) (by simp only [str_eqv]; decide) ?_
      walk_at "X"
      exact q (.one .most) _ (by omega) trivial rfl
    · walk_at "X"
      refine kIfS_cast (c := true) (by simp only [str_eqv]; decide) ?_
      walk_at "X"
      exact q (.one .many) _ (by omega) trivial rfl
    · walk_at "X"
      refine kIfS_cast (c := true) (by simp only [str_eqv]; decide) ?_
      walk_at "X"
      exact q (.one .sum) _ (by omega) trivial rfl
    · walk_at "X"
      refine kIfS_cast (c := false) (by simp only [str_eqv]; decide) ?_
      walk_at "X"
      refine nextT (by omega) (by decide) (by decide) fun n1 a0 a1 => ?_
      walk_at "X"
      refine nextT (by omega) (by decide) (by decide) fun n2 b0 b1 => ?_
      walk_at "X"
      refine nextT (by omega) (by decide) (by decide) fun n3 c0 c1 => ?_
      walk_at "X"
      refine kAt_of c0 (by simpa using c1) fun z ez hz => ?_
      obtain ⟨z, rfl, hz2⟩ : ∃ i : Int, z = .int i ∧ (-20 ≤ i ∧ i ≤ 20) := by
        simp only [List.mem_cons, List.not_mem_nil, or_false] at hz
        rcases hz with rfl | rfl <;> exact ⟨_, rfl, by decide, by decide⟩
      walk_at "X"
      refine nextT (by omega) (by decide) (by decide) fun n4 d0 d1 => ?_
      walk_at "X"
      refine kAt_of d0 (by simpa using d1) fun y ey hy => ?_
      obtain ⟨y, rfl, hy2⟩ : ∃ i : Int, y = .int i ∧ (-20 ≤ i ∧ i ≤ 20) := by
        simp only [List.mem_cons, List.not_mem_nil, or_false] at hy
        rcases hy with rfl | rfl | rfl
        · exact ⟨_, rfl, by omega, by omega⟩
        · exact ⟨_, rfl, by omega, by omega⟩
        · exact ⟨_, rfl, hz2⟩
      walk_at "X"
      exact q (.one (.plus y)) _ (by omega) hy2 rfl
    · walk_at "X"
      refine kIfS_cast (c := false) (by simp only [str_eqv]; decide) ?_
      walk_at "X"
      refine nextT (by omega) (by decide) (by decide) fun n1 a0 a1 => ?_
      walk_at "X"
      refine nextT (by omega) (by decide) (by decide) fun n2 b0 b1 => ?_
      walk_at "X"
      refine nextT (by omega) (by decide) (by decide) fun n3 c0 c1 => ?_
      walk_at "X"
      refine kAt_of c0 (by simpa using c1) fun z ez hz => ?_
      obtain ⟨z, rfl, hz2⟩ : ∃ i : Int, z = .int i ∧ (-20 ≤ i ∧ i ≤ 20) := by
        simp only [List.mem_cons, List.not_mem_nil, or_false] at hz
        rcases hz with rfl | rfl <;> exact ⟨_, rfl, by decide, by decide⟩
      walk_at "X"
      refine nextT (by omega) (by decide) (by decide) fun n4 d0 d1 => ?_
      walk_at "X"
      refine kAt_of d0 (by simpa using d1) fun y ey hy => ?_
      obtain ⟨y, rfl, hy2⟩ : ∃ i : Int, y = .int i ∧ (-20 ≤ i ∧ i ≤ 20) := by
        simp only [List.mem_cons, List.not_mem_nil, or_false] at hy
        rcases hy with rfl | rfl | rfl
        · exact ⟨_, rfl, by omega, by omega⟩
        · exact ⟨_, rfl, by omega, by omega⟩
        · exact ⟨_, rfl, hz2⟩
      walk_at "X"
      exact q (.one (.frm y)) _ (by omega) hy2 rfl
    · walk_at "X"
      refine kIfS_cast (c := false) (by simp only [str_eqv]; decide) ?_
      walk_at "X"
      refine nextT (by omega) (by decide) (by decide) fun n1 a0 a1 => ?_
      walk_at "X"
      refine nextT (by omega) (by decide) (by decide) fun n2 b0 b1 => ?_
      walk_at "X"
      refine nextT (by omega) (by decide) (by decide) fun n3 c0 c1 => ?_
      walk_at "X"
      refine kAt_of c0 (by simpa using c1) fun z ez hz => ?_
      obtain ⟨z, rfl, hz2⟩ : ∃ i : Int, z = .int i ∧ (-20 ≤ i ∧ i ≤ 20) := by
        simp only [List.mem_cons, List.not_mem_nil, or_false] at hz
        rcases hz with rfl | rfl <;> exact ⟨_, rfl, by decide, by decide⟩
      walk_at "X"
      refine nextT (by omega) (by decide) (by decide) fun n4 d0 d1 => ?_
      walk_at "X"
      refine kAt_of d0 (by simpa using d1) fun y ey hy => ?_
      obtain ⟨y, rfl, hy2⟩ : ∃ i : Int, y = .int i ∧ (-20 ≤ i ∧ i ≤ 20) := by
        simp only [List.mem_cons, List.not_mem_nil, or_false] at hy
        rcases hy with rfl | rfl | rfl
        · exact ⟨_, rfl, by omega, by omega⟩
        · exact ⟨_, rfl, by omega, by omega⟩
        · exact ⟨_, rfl, hz2⟩
      walk_at "X"
      exact q (.one (.below y)) _ (by omega) hy2 rfl
  · walk_at "Y"
    refine nextT (by omega) (by decide) (by decide) fun w w0 w1 => ?_
    walk_at "X"
    refine kAt_of w0 (by simpa using w1) fun z ez hz => ?_
    simp only [List.mem_cons, List.not_mem_nil, or_false] at hz
    rcases hz with rfl | rfl | rfl
    · walk_at "X"
      exact q (.two .join) _ (by omega) trivial rfl
    · walk_at "X"
      exact q (.two .put) _ (by omega) trivial rfl
    · walk_at "X"
      exact q (.two .into) _ (by omega) trivial rfl
theorem ok__law_kind {f : Addr} {fd : FuncData} (T : Txt K mg ca) (F : Fun K "_law_kind" "_law_kind" s__law_kind f fd) (k__law_next : Known P w K mg base (theT (Ts ca)) "_law_next" ["_law_draw", "_law_many_here"] 2 (FF_next)) :
    FnG P w K mg base 3 f fd ["_law_draw"] (spD (theT (Ts ca)) K (FF__law_kind)) := by
  refine okG F sc__law_kind (by walk_at "v") (by decide) fun cdv A outer s H E G Fp hcd hr => ⟨_, (dss_cons (ds_set (i := 1) sc__law_kind.nd rfl (by first | exact .inl rfl | exact .inr rfl) (de_tup (da_cons (de_neg de_int) (da_cons de_int (da_cons de_int (da_cons de_int (da_cons de_bl (da_cons de_bl (da_cons de_bl (da_cons (de_neg de_int) (da_cons de_int da_nil)))))))))))
      (dss_cons (ds_set (i := 2) sc__law_kind.nd rfl (by first | exact .inl rfl | exact .inr rfl) (de_lst (da_cons (de_op op_sub od_I0 (de_callK rfl k__law_next (hr.r.mono (by decide)) (by rfl) (da_cons (de_var (pv 0)) (da_cons de_int da_nil))) de_int) (da_cons (de_op op_sub od_I0 (de_callK rfl k__law_next (hr.r.mono (by decide)) (by rfl) (da_cons (de_var (pv 0)) (da_cons de_int da_nil))) de_int) (da_cons (de_callK rfl k__law_next (hr.r.mono (by decide)) (by rfl) (da_cons (de_var (pv 0)) (da_cons de_int da_nil))) (da_cons (de_callK rfl k__law_next (hr.r.mono (by decide)) (by rfl) (da_cons (de_var (pv 0)) (da_cons de_int da_nil))) da_nil))))))
      (dss_cons (ds_set (i := 2) sc__law_kind.nd rfl (by first | exact .inl rfl | exact .inr rfl) (de_op op_addA (od_add rfl) (de_op op_addA (od_add rfl) (de_var (pv 2)) (de_lc (own := [("_law_k", 3)]) rfl sc__law_kind.nd (di_range1 (by rfl) T.b_range (da_cons de_int da_nil)) (blkOk_by (by kernel_rfl)) (by decide) (fun _ _ _ _ _ => (dg_nm (i := 3) sc__law_kind.nd rfl (by first | exact .inl rfl | exact .inr rfl))) (fun _ _ _ _ _ => dts_nil) (fun _ _ _ _ _ => (de_cmp (op_eqA hr.units) (od_eq rfl) (de_callK rfl k__law_next (hr.r.mono (by decide)) (by rfl) (da_cons (de_var (pv 0)) (da_cons de_int da_nil))) de_int (nomark _))))) (de_lc (own := [("_law_k", 3)]) rfl sc__law_kind.nd (di_range1 (by rfl) T.b_range (da_cons de_int da_nil)) (blkOk_by (by kernel_rfl)) (by decide) (fun _ _ _ _ _ => (dg_nm (i := 3) sc__law_kind.nd rfl (by first | exact .inl rfl | exact .inr rfl))) (fun _ _ _ _ _ => dts_nil) (fun _ _ _ _ _ => (de_op op_sub od_I0 (de_callK rfl k__law_next (hr.r.mono (by decide)) (by rfl) (da_cons (de_var (pv 0)) (da_cons de_int da_nil))) de_int)))))
      (dss_one (ds_frz (i := 2) (ds_ret (de_callTy call_tuple_of (cd_tuple rfl) (by rfl) T.b_tuple (by decide +kernel) (da_cons (de_lc (own := [("_law_at", 4), ("_law_one_here", 5)]) rfl sc__law_kind.nd (di_enum2 rfl (by rfl) T.b_enumerate (da_cons (de_var (pv 2)) da_nil)) (blkOk_by (by kernel_rfl)) (by decide) (fun _ _ _ _ _ => (dg_tp rfl rfl (dg_cons (dg_nm (i := 4) sc__law_kind.nd rfl (by first | exact .inl rfl | exact .inr rfl)) (dg_cons (dg_nm (i := 5) sc__law_kind.nd rfl (by first | exact .inl rfl | exact .inr rfl)) dg_nil)))) (fun _ _ _ _ _ => dts_nil) (fun _ _ _ _ _ => (de_ix ix_A (od_ix rfl) (de_lst (da_cons (de_var (pv 5)) (da_cons (de_ix ix_A (od_ix rfl) (de_var (pv 1)) (de_var (pv 4)) (fun _ _ => rfl)) da_nil))) (de_op op_mod od_I (de_callK rfl k__law_next (hr.r.mono (by decide)) (by rfl) (da_cons (de_var (pv 0)) (da_cons de_int da_nil))) de_int) (fun _ _ => rfl)))) da_nil)))))))), ?_⟩
  dsimp only [Bk.T, theT]
  rintro rs τ Q ⟨a, b, cs, rfl, rfl, hb, q⟩
  walk_at "X"
  refine nextT (by omega) (by decide) (by decide) fun n0 a0 b0 => ?_
  walk_at "X"
  refine nextT (by omega) (by decide) (by decide) fun n1 a1 b1 => ?_
  walk_at "X"
  refine nextT (by omega) (by decide) (by decide) fun n2 a2 b2 => ?_
  walk_at "X"
  refine nextT (by omega) (by decide) (by decide) fun n3 a3 b3 => ?_
  walk_at "X"
  refine ⟨by decide, ?_⟩
  rw [show rgI 0 (Int.toNat 3) = [.int 0, .int 1, .int 2] from rfl]
  try rw [lcW_c]
  walk_at "X"
  refine nextT (by omega) (by decide) (by decide) fun n4 a4 b4 => ?_
  walk_at "X"
  try rw [lcW_c]
  walk_at "X"
  refine nextT (by omega) (by decide) (by decide) fun n5 a5 b5 => ?_
  walk_at "X"
  try rw [lcW_c]
  walk_at "X"
  refine nextT (by omega) (by decide) (by decide) fun n6 a6 b6 => ?_
  walk_at "X"
  try rw [lcW_n]
  walk_at "X"
  refine ⟨by decide, ?_⟩
  rw [show rgI 0 (Int.toNat 2) = [.int 0, .int 1] from rfl]
  try rw [lcW_c]
  walk_at "X"
  refine nextT (by omega) (by decide) (by decide) fun n7 a7 b7 => ?_
  walk_at "X"
  rw [lcW_c]
  walk_at "X"
  refine nextT (by omega) (by decide) (by decide) fun n8 a8 b8 => ?_
  walk_at "X"
  rw [show enumD [PyData.int (n0 - 20), PyData.int (n1 - 20), PyData.int n2, PyData.int n3, PyData.bool (decide (n4 = 1)), PyData.bool (decide (n5 = 1)), PyData.bool (decide (n6 = 1)), PyData.int (n7 - 160), PyData.int (n8 - 160)] = [.tuple [.int 0, .int (n0 - 20)], .tuple [.int 1, .int (n1 - 20)], .tuple [.int 2, .int n2], .tuple [.int 3, .int n3], .tuple [.int 4, .bool (decide (n4 = 1))], .tuple [.int 5, .bool (decide (n5 = 1))], .tuple [.int 6, .bool (decide (n6 = 1))], .tuple [.int 7, .int (n7 - 160)], .tuple [.int 8, .int (n8 - 160)]] from rfl]
  rw [lcW_c]
  walk_at "X"
  refine nextT (by omega) (by decide) (by decide) fun w w0 w1 => ?_
  walk_at "X"
  refine kAt_of (by omega) (by simp only [List.length_cons, List.length_nil]; omega) fun z0 ez hz => ?_
  have p0 : isPartD 0 z0 = true := by
    simp only [List.mem_cons, List.not_mem_nil, or_false] at hz
    rcases hz with rfl | rfl
    · exact whole_mk (by omega) (by omega)
    · rfl
  clear ez hz w0 w1
  clear w
  walk_at "X"
  try rw [lcW_c]
  walk_at "X"
  refine nextT (by omega) (by decide) (by decide) fun w w0 w1 => ?_
  walk_at "X"
  refine kAt_of (by omega) (by simp only [List.length_cons, List.length_nil]; omega) fun z1 ez hz => ?_
  have p1 : isPartD 1 z1 = true := by
    simp only [List.mem_cons, List.not_mem_nil, or_false] at hz
    rcases hz with rfl | rfl
    · exact whole_mk (by omega) (by omega)
    · rfl
  clear ez hz w0 w1
  clear w
  walk_at "X"
  try rw [lcW_c]
  walk_at "X"
  refine nextT (by omega) (by decide) (by decide) fun w w0 w1 => ?_
  walk_at "X"
  refine kAt_of (by omega) (by simp only [List.length_cons, List.length_nil]; omega) fun z2 ez hz => ?_
  have p2 : isPartD 2 z2 = true := by
    simp only [List.mem_cons, List.not_mem_nil, or_false] at hz
    rcases hz with rfl | rfl
    · exact whole_mk (by omega) (by omega)
    · rfl
  clear ez hz w0 w1
  clear w
  walk_at "X"
  try rw [lcW_c]
  walk_at "X"
  refine nextT (by omega) (by decide) (by decide) fun w w0 w1 => ?_
  walk_at "X"
  refine kAt_of (by omega) (by simp only [List.length_cons, List.length_nil]; omega) fun z3 ez hz => ?_
  have p3 : isPartD 3 z3 = true := by
    simp only [List.mem_cons, List.not_mem_nil, or_false] at hz
    rcases hz with rfl | rfl
    · exact whole_mk (by omega) (by omega)
    · rfl
  clear ez hz w0 w1
  clear w
  walk_at "X"
  try rw [lcW_c]
  walk_at "X"
  refine nextT (by omega) (by decide) (by decide) fun w w0 w1 => ?_
  walk_at "X"
  refine kAt_of (by omega) (by simp only [List.length_cons, List.length_nil]; omega) fun z4 ez hz => ?_
  have p4 : isPartD 4 z4 = true := by
    simp only [List.mem_cons, List.not_mem_nil, or_false] at hz
    rcases hz with rfl | rfl
    · exact rfl
    · rfl
  clear ez hz w0 w1
  clear w
  walk_at "X"
  try rw [lcW_c]
  walk_at "X"
  refine nextT (by omega) (by decide) (by decide) fun w w0 w1 => ?_
  walk_at "X"
  refine kAt_of (by omega) (by simp only [List.length_cons, List.length_nil]; omega) fun z5 ez hz => ?_
  have p5 : isPartD 5 z5 = true := by
    simp only [List.mem_cons, List.not_mem_nil, or_false] at hz
    rcases hz with rfl | rfl
    · exact rfl
    · rfl
  clear ez hz w0 w1
  clear w
  walk_at "X"
  try rw [lcW_c]
  walk_at "X"
  refine nextT (by omega) (by decide) (by decide) fun w w0 w1 => ?_
  walk_at "X"
  refine kAt_of (by omega) (by simp only [List.length_cons, List.length_nil]; omega) fun z6 ez hz => ?_
  have p6 : isPartD 6 z6 = true := by
    simp only [List.mem_cons, List.not_mem_nil, or_false] at hz
    rcases hz with rfl | rfl
    · exact rfl
    · rfl
  clear ez hz w0 w1
  clear w
  walk_at "X"
  try rw [lcW_c]
  walk_at "X"
  refine nextT (by omega) (by decide) (by decide) fun w w0 w1 => ?_
  walk_at "X"
  refine kAt_of (by omega) (by simp only [List.length_cons, List.length_nil]; omega) fun z7 ez hz => ?_
  have p7 : isPartD 7 z7 = true := by
    simp only [List.mem_cons, List.not_mem_nil, or_false] at hz
    rcases hz with rfl | rfl
    · exact whole_mk (by omega) (by omega)
    · rfl
  clear ez hz w0 w1
  clear w
  walk_at "X"
  try rw [lcW_c]
  walk_at "X"
  refine nextT (by omega) (by decide) (by decide) fun w w0 w1 => ?_
  walk_at "X"
  refine kAt_of (by omega) (by simp only [List.length_cons, List.length_nil]; omega) fun z8 ez hz => ?_
  have p8 : isPartD 8 z8 = true := by
    simp only [List.mem_cons, List.not_mem_nil, or_false] at hz
    rcases hz with rfl | rfl
    · exact whole_mk (by omega) (by omega)
    · rfl
  clear ez hz w0 w1
  clear w
  walk_at "X"
  refine q _ _ (by omega) ?_
  show (decide (([z0, z1, z2, z3, z4, z5, z6, z7, z8] : List D).length = 9) && (isPartD 0 z0 && (isPartD 1 z1 && (isPartD 2 z2 && (isPartD 3 z3 && (isPartD 4 z4 && (isPartD 5 z5 && (isPartD 6 z6 && (isPartD 7 z7 && (isPartD 8 z8 && true)))))))))) = true
  rw [p0, p1, p2, p3, p4, p5, p6, p7, p8]
  rfl
theorem ok__law_names {f : Addr} {fd : FuncData} (T : Txt K mg ca) (F : Fun K "_law_names" "_law_names" s__law_names f fd) (k__law_next : Known P w K mg base (theT (Ts ca)) "_law_next" ["_law_draw", "_law_many_here"] 2 (FF_next)) :
    FnG P w K mg base 3 f fd ["_law_draw", "_law_many_here"] (spD (theT (Ts ca)) K (FF__law_names)) := by
  refine okG F sc__law_names (by walk_at "v") (by decide) fun cdv A outer s H E G Fp hcd hr => ⟨_, (dss_cons (ds_set (i := 2) sc__law_names.nd rfl (by first | exact .inl rfl | exact .inr rfl) de_str)
      (dss_cons (ds_set (i := 3) sc__law_names.nd rfl (by first | exact .inl rfl | exact .inr rfl) (de_lst (da_cons de_str (da_cons de_str (da_cons de_str (da_cons de_str (da_cons de_str (da_cons de_str (da_cons de_str (da_cons de_str (da_cons de_str (da_cons de_str (da_cons de_str (da_cons de_str (da_cons de_str da_nil)))))))))))))))
      (dss_cons (ds_set (i := 4) sc__law_names.nd rfl (by first | exact .inl rfl | exact .inr rfl) (de_lst da_nil))
      (dss_cons (ds_while PassesOwn.never (dt_cmp op_ltA od_cmp (de_callB call_len (cd_len rfl) (by rfl) T.b_len (by decide +kernel) (da_cons (de_var (pv 4)) da_nil)) (de_var (pv 1)) (nomark _))
        (dss_cons (ds_set (i := 5) sc__law_names.nd rfl (by first | exact .inl rfl | exact .inr rfl) (de_ix ix_A (od_ix rfl) (de_var (pv 3)) (de_callK rfl k__law_next (hr.r.mono (by decide)) (by rfl) (da_cons (de_var (pv 0)) (da_cons de_int da_nil))) (fun _ _ => rfl)))
        (dss_cons (ds_if (dt_cmp op_gtA od_cmp (de_callK rfl k__law_next (hr.r.mono (by decide)) (by rfl) (da_cons (de_var (pv 0)) (da_cons de_int da_nil))) de_int (nomark _))
          (dss_cons (ds_set (i := 6) sc__law_names.nd rfl (by first | exact .inl rfl | exact .inr rfl) (de_ix ix_A (od_ix rfl) (de_lst (da_cons de_int (da_cons de_int (da_cons (de_op op_addA (od_add rfl) de_int (de_callK rfl k__law_next (hr.r.mono (by decide)) (by rfl) (da_cons (de_var (pv 0)) (da_cons de_int da_nil)))) da_nil)))) (de_callK rfl k__law_next (hr.r.mono (by decide)) (by rfl) (da_cons (de_var (pv 0)) (da_cons de_int da_nil))) (fun _ _ => rfl)))
          (dss_one (ds_set (i := 5) sc__law_names.nd rfl (by first | exact .inl rfl | exact .inr rfl) (de_m1 (pe_join de_str (de_lc (own := [("_law_k", 8)]) rfl sc__law_names.nd (di_range1 (by rfl) T.b_range (da_cons (de_var (pv 6)) da_nil)) (blkOk_by (by kernel_rfl)) (by decide) (fun _ _ _ _ _ => (dg_nm (i := 8) sc__law_names.nd rfl (by first | exact .inl rfl | exact .inr rfl))) (fun _ _ _ _ _ => dts_nil) (fun _ _ _ _ _ => (de_ix ix_A (od_ix rfl) (de_var (pv 2)) (de_callK rfl k__law_next (hr.r.mono (by decide)) (by rfl) (da_cons (de_var (pv 0)) (da_cons de_int da_nil))) (fun _ _ => rfl))))) (od_join rfl)))))
          dss_nil)
        (dss_cons (ds_if (dt_cmp op_inA (od_in rfl) (de_var (pv 5)) (de_var (pv 4)) (by rfl))
          (dss_cons (ds_setLc (i := 7) (own := [("_law_k", 8)]) rfl sc__law_names.nd rfl rfl (sw_true rfl rfl rfl (by decide +kernel)) (di_range1 (by rfl) T.b_range (da_cons de_int da_nil)) (blkOk_by (by kernel_rfl)) (by decide) (fun _ _ _ _ _ => (dg_nm (i := 8) sc__law_names.nd rfl (by first | exact .inl rfl | exact .inr rfl))) (fun _ _ _ _ _ => dts_nil) (fun _ _ _ _ _ => (de_op op_addA (od_add rfl) (de_ix ix_A (od_ix rfl) (de_var (pv 2)) (de_op op_fdiv od_I (de_var (pv 8)) de_int) (fun _ _ => rfl)) (de_ix ix_A (od_ix rfl) (de_var (pv 2)) (de_op op_mod od_I (de_var (pv 8)) de_int) (fun _ _ => rfl)))))
          (dss_one (ds_frz (i := 7) (ds_set (i := 5) sc__law_names.nd rfl (by first | exact .inl rfl | exact .inr rfl) (de_ix ix_A (od_ix rfl) (de_lc (own := [("_law_one_here", 9)]) rfl sc__law_names.nd (di_seq rfl (de_var (pv 7))) (blkOk_by (by kernel_rfl)) (by decide) (fun _ _ _ _ _ => (dg_nm (i := 9) sc__law_names.nd rfl (by first | exact .inl rfl | exact .inr rfl))) (fun _ _ _ _ _ => (dts_one (dt_cmp op_notInA (od_in rfl) (de_var (pv 9)) (de_var (pv 4)) (by rfl)))) (fun _ _ _ _ _ => (de_var (pv 9)))) (de_callK rfl k__law_next (hr.r.mono (by decide)) (by rfl) (da_cons (de_var (pv 0)) (da_cons de_int da_nil))) (fun _ _ => rfl))))))
          dss_nil)
        (dss_one (ds_app (ps_expr (pe_bm PySem.F.plainAttrs_list PySem.F.slot_list_append PySem.F.type_list_append mt_append (pv 4) (pa_cons (de_var (pv 5)) pa_nil)))))))))
      (dss_one (ds_retR (dr_own (pv 4)))))))), ?_⟩
  dsimp only [Bk.T, theT]
  rintro rs τ Q ⟨a, b, cs, rfl, rfl, hb, q⟩
  walk_at "X"
  refine ⟨41, while_inv (fun k env τ' => ∃ (b' : Nat) (ws : List Str) (x5 x6 x7 x8 x9 : SV), τ' = ⟨.on a b', cs⟩ ∧ ws.length + k = 40 ∧ b ≤ b' + 20 * ws.length ∧ (∀ s ∈ ws, isNameS s = true) ∧ env = [.raw (.ref a), .d (.int 40), .d (.str "abcdefghijklmnopqrstuvwxyz"), .ol (wordsN.map .str), .ol (ws.map .str), x5, x6, x7, x8, x9]) ?_ 40 _ _ ⟨b, [], _, _, _, _, _, rfl, rfl, by omega, nofun, rfl⟩⟩
  rintro k env _ ⟨b', ws, x5, x6, x7, x8, x9, rfl, hk, hb', hws, rfl⟩ Wn hWn
  walk_at "X"
  have hl : decide (((ws.map PyData.str).length : Int) < 40) = decide (k ≠ 0) := decide_eq_decide.mpr (by rw [List.length_map]; omega)
  rw [hl]
  cases k with
  | zero =>
    rw [if_neg (by decide)]
    walk_at "X"
    exact q ws b' (by omega) (by omega) hws
  | succ k =>
    rw [if_pos (by simp)]
    refine nextT (by omega) (by decide) (by decide) fun n0 a0 b0 => ?_
    walk_at "X"
    refine kAt_of (by omega) (by rw [List.length_map]; exact b0) fun z ez hz => ?_
    obtain ⟨w0, hw0, rfl⟩ := List.mem_map.mp hz
    have nw0 : isNameS w0 = true := names_ok w0 hw0
    clear ez hz
    walk_at "X"
    refine nextT (by omega) (by decide) (by decide) fun n1 a1 b1 => ?_
    walk_at "X"
    refine kIfS_join (fun env τ' => ∃ (b2 : Nat) (w : Str) (x6 x7 x8 x9 : SV), τ' = ⟨.on a b2, cs⟩ ∧ b' ≤ b2 + 15 ∧ isNameS w = true ∧ env = [.raw (.ref a), .d (.int 40), .d (.str "abcdefghijklmnopqrstuvwxyz"), .ol (wordsN.map .str), .ol (ws.map .str), .d (.str w), x6, x7, x8, x9]) (fun e n2 q2 => ?_) (fun e n2 q2 => ?_) ?_
    · walk_at "X"
      refine nextT (by omega) (by decide) (by decide) fun n3 a3 b3 => ?_
      walk_at "X"
      refine nextT (by omega) (by decide) (by decide) fun n4 a4 b4 => ?_
      walk_at "X"
      refine kAt_of a4 (by simpa using b4) fun z ez hz => ?_
      obtain ⟨m, rfl, hm⟩ : ∃ m : Nat, z = .int m ∧ 1 ≤ m ∧ m ≤ 8 := by
        simp only [List.mem_cons, List.not_mem_nil, or_false] at hz
        rcases hz with rfl | rfl | rfl
        · exact ⟨1, rfl, by decide⟩
        · exact ⟨2, rfl, by decide⟩
        · obtain ⟨c, rfl⟩ := Int.eq_ofNat_of_zero_le a3
          exact ⟨1 + c, by rw [Int.natCast_add]; rfl, by omega⟩
      clear ez hz
      walk_at "X"
      refine ⟨by omega, ?_⟩
      refine lc_inv (fun j acc τ => ∃ (b5 : Nat) (l : List Nat), τ = ⟨.on a b5, cs⟩ ∧ b' - 4 ≤ b5 + j ∧ acc = l.map sg ∧ l.length = j ∧ ∀ c ∈ l, smallC c = true) _ _ ⟨b' - 1 - 1 - 1 - 1, [], rfl, by omega, rfl, rfl, by simp⟩ ?_ (by rw [rgI_len, sizeLine_eq]; omega) ?_
      · rintro j x acc τ ej ⟨b5, l, rfl, hb5, rfl, hl, hc⟩ ha kc k0 h1 h2
        obtain ⟨hj, rfl⟩ := rgI_get ej
        have hc0 := hc
        walk_at "X"
        refine nextT (by omega) (by decide) (by decide) fun r r0 r1 => ?_
        walk_at "X"
        refine ⟨by rw [sizeLine_eq]; decide +kernel, kAtS_of r0 (by exact r1) fun c hc _ => ?_⟩
        have hc := abc_at hc
        walk_at "X"
        refine h1 _ _ ⟨b5 - 1, l ++ [c], rfl, by omega, by simp, by simp [hl], fun d hd => ?_⟩
        rcases List.mem_append.mp hd with hd | hd
        · exact hc0 d hd
        · rw [List.mem_singleton.mp hd]
          unfold smallC
          rw [decide_eq_true (by omega), decide_eq_true (by omega)]
          rfl
      rintro acc τ ⟨b5, l, rfl, hb5, rfl, hl, hc⟩
      rw [rgI_len] at hl hb5
      walk_at "X"
      rw [strs_sg]
      walk_at "X"
      rw [sum_sg, join_sg]
      refine ⟨by rw [List.length_map, show (Str.ofString "").length = 0 by decide +kernel]; omega, ?_⟩
      refine q2 _ _ ⟨_, mkS l, _, _, _, _, rfl, by omega, ?_, rfl⟩
      unfold isNameS
      rw [str_len, cs_mk, decide_eq_true (by omega), decide_eq_true (by omega), List.all_eq_true.mpr hc]
      rfl
    · walk_at "X"
      exact q2 _ _ ⟨_, w0, _, _, _, _, rfl, by omega, nw0, rfl⟩
    rintro _ _ ⟨b2, w, y6, y7, y8, y9, rfl, hb2, hw, rfl⟩
    walk_at "X"
    refine gIn_vw28 ?_
    walk_at "X"
    refine kIfS_join (fun env τ' => ∃ (b3 : Nat) (w : Str) (x6 x7 x8 x9 : SV), τ' = ⟨.on a b3, cs⟩ ∧ b2 ≤ b3 + 1 ∧ isNameS w = true ∧ env = [.raw (.ref a), .d (.int 40), .d (.str "abcdefghijklmnopqrstuvwxyz"), .ol (wordsN.map .str), .ol (ws.map .str), .d (.str w), x6, x7, x8, x9]) (fun e n2 q2 => ?_) (fun e n2 q2 => ?_) ?_
    · walk_at "X"
      refine ⟨by decide, ?_⟩
      obtain ⟨R, eR, hR, hRl, hlf⟩ := left_R (ws := ws) (by omega)
      rw [eR]
      refine lc_mapA (fun i : Nat => PyData.int (0 + (i : Nat))) (fun i => .str (twoC i)) R (fun i hi kc k0 z => ?_) (by rw [sizeLine_eq]; omega) ?_
      · have hi := hR i hi
        walk_at "X"
        rw [show ((0 : Int) + (i : Nat)) / 26 = ((i / 26 : Nat) : Int) by omega]
        refine ⟨by unfold CDiv; simp, by rw [sizeLine_eq]; decide +kernel, kAtS_of (by omega) (by show ((i / 26 : Nat) : Int) < ((26 : Nat) : Int); omega) fun c hc _ => ?_⟩
        have hc := abc_at hc
        walk_at "X"
        rw [show ((0 : Int) + (i : Nat)) % 26 = ((i % 26 : Nat) : Int) by omega]
        refine ⟨by rw [sizeLine_eq]; decide +kernel, kAtS_of (by omega) (by show ((i % 26 : Nat) : Int) < ((26 : Nat) : Int); omega) fun c2 hc2 _ => ?_⟩
        have hc2 := abc_at hc2
        walk_at "X"
        have ec : c = 97 + i / 26 := by omega
        have ec2 : c2 = 97 + i % 26 := by omega
        subst ec ec2
        simp only [sg]
        walk_at "X"
        refine ⟨by rw [sizeLine_eq]; show 1 + 1 ≤ _; decide, ?_⟩
        exact z
      walk_at "X"
      refine lc_filt (fun i : Nat => PyData.str (twoC i)) (fun i => .str (twoC i)) (fun i => !decide (twoC i ∈ ws)) R (fun i hi kc k0 z1 z2 => ?_) (by rw [sizeLine_eq]; omega) ?_
      · walk_at "X"
        refine gNotIn_vw28 ?_
        walk_at "X"
        refine kTurn_of (fun e => ?_) fun e => ?_
        · walk_at "X"
          exact z1 e
        · exact z2 e
      walk_at "X"
      refine nextT (by omega) (by decide) (by decide) fun n5 a5 b5 => ?_
      walk_at "X"
      refine kAt_of a5 (Int.lt_of_lt_of_le b5 (by exact_mod_cast hlf)) fun z ez hz => ?_
      obtain ⟨i, hi, rfl⟩ := List.mem_map.mp hz
      have hi := hR i (List.mem_filter.mp hi).1
      clear ez hz
      walk_at "X"
      exact q2 _ _ ⟨_, twoC i, _, _, _, _, rfl, by omega, two_name hi, rfl⟩
    · walk_at "X"
      exact q2 _ _ ⟨_, w, _, _, _, _, rfl, by omega, hw, rfl⟩
    rintro _ _ ⟨b3, w3, z6, z7, z8, z9, rfl, hb3, hw3, rfl⟩
    walk_at "X"
    refine ⟨by rw [List.length_map, sizeLine_eq]; omega, ?_⟩
    refine hWn _ _ ⟨k, by omega, b3, ws ++ [w3], _, _, _, _, _, rfl, by rw [List.length_append, List.length_singleton]; omega, by rw [List.length_append, List.length_singleton]; omega, fun s hs => ?_, by rw [List.map_append]; rfl⟩
    rcases List.mem_append.mp hs with hs | hs
    · exact hws s hs
    · rw [List.mem_singleton.mp hs]; exact hw3
theorem ok__law_one {f : Addr} {fd : FuncData} (T : Txt K mg ca) (F : Fun K "_law_one" "_law_one" s__law_one f fd) (k__law_next : Known P w K mg base (theT (Ts ca)) "_law_next" ["_law_draw", "_law_many_here"] 2 (FF_next)) :
    FnG P w K mg base 3 f fd ["_law_draw", "_law_known"] (spD (theT (Ts ca)) K (FF__law_one)) := by
  refine okG F sc__law_one (by walk_at "v") (by decide) fun cdv A outer s H E G Fp hcd hr => ⟨_, (dss_cons (ds_set (i := 2) sc__law_one.nd rfl (by first | exact .inl rfl | exact .inr rfl) (de_callB call_len (cd_len rfl) (by rfl) T.b_len (by decide +kernel) (da_cons (de_var (pv 1)) da_nil)))
      (dss_one (ds_ret (de_ix ix_A (od_ix rfl) (de_var (pv 1)) (de_ix ix_A (od_ix rfl) (de_lst (da_cons (de_callK rfl k__law_next (hr.r.mono (by decide)) (by rfl) (da_cons (de_var (pv 0)) (da_cons (de_var (pv 2)) da_nil))) (da_cons (de_op op_sub od_I0 (de_op op_sub od_I0 (de_var (pv 2)) de_int) (de_callK rfl k__law_next (hr.r.mono (by decide)) (by rfl) (da_cons (de_var (pv 0)) (da_cons (de_callB (call_min2 rfl) cd_II (by rfl) T.b_min (by decide +kernel) (da_cons (de_var (pv 2)) (da_cons de_int da_nil))) da_nil)))) da_nil))) (de_callK rfl k__law_next (hr.r.mono (by decide)) (by rfl) (da_cons (de_var (pv 0)) (da_cons de_int da_nil))) (fun _ _ => rfl)) (fun _ _ => rfl))))), ?_⟩
  dsimp only [Bk.T, theT]
  rintro rs τ Q ⟨a, b, cs, ks, rfl, rfl, hb, hk1, hk, q⟩
  walk_at "X"
  rw [List.length_map]
  refine nextT (by omega) (by omega) (by omega) fun n0 a0 b0 => ?_
  walk_at "X"
  refine nextT (by omega) (by split <;> omega) (by split <;> omega) fun n1 a1 b1 => ?_
  walk_at "X"
  refine nextT (by omega) (by decide) (by decide) fun n2 a2 b2 => ?_
  walk_at "X"
  have b1 : n1 < (ks.length : Int) ∧ n1 < 3 ∨ n1 < (ks.length : Int) := by split at b1 <;> omega
  have b1 : n1 < (ks.length : Int) := by omega
  refine kAt_of a2 (by simpa using b2) fun z ez hz => ?_
  obtain ⟨i, rfl, hi0, hi1⟩ : ∃ i : Int, z = .int i ∧ 0 ≤ i ∧ i < (ks.length : Int) := by
    simp only [List.mem_cons, List.not_mem_nil, or_false] at hz
    rcases hz with rfl | rfl
    · exact ⟨_, rfl, by omega, by omega⟩
    · exact ⟨_, rfl, by omega, by omega⟩
  walk_at "X"
  refine kAt_of hi0 (by rw [List.length_map]; exact hi1) fun z ez hz => ?_
  obtain ⟨s, hs, rfl⟩ := List.mem_map.mp hz
  walk_at "X"
  exact q s _ (by omega) hs
theorem ok__law_is_kind {f : Addr} {fd : FuncData} (T : Txt K mg ca) (F : Fun K "_law_is_kind" "_law_is_kind" s__law_is_kind f fd) (k__law_are : KnownG P w K mg base (theT (Ts ca)) "_law_are" ["_law_sorts", "_law_thing"] 2 (FF__law_are)) :
    FnG P w K mg base 3 f fd ["_law_thing"] (spD (theT (Ts ca)) K (FF__law_is_kind)) := by
  refine okG F sc__law_is_kind (by walk_at "v") (by decide) fun cdv A outer s H E G Fp hcd hr => ⟨_, (dss_one (ds_ret (de_callG rfl k__law_are (hr.mono (by decide)) (by rfl) (da_cons (de_op op_addA (od_add rfl) (de_op op_addA (od_add rfl) (de_op op_addA (od_add rfl) (de_op op_mulB (od_mulB rfl) (de_lst (da_cons de_str da_nil)) de_int) (de_op op_mulB (od_mulB rfl) (de_lst (da_cons de_str da_nil)) de_int)) (de_op op_mulB (od_mulB rfl) (de_lst (da_cons de_str da_nil)) de_int)) (de_op op_mulB (od_mulB rfl) (de_lst (da_cons de_str da_nil)) de_int)) (da_cons (de_var (pv 0)) da_nil))))), ?_⟩
  dsimp only [Bk.T, theT]
  rintro rs τ Q ⟨x, rfl, hx, h⟩
  walk_at "X"
  refine gMulA_ol ⟨by decide, by rw [sizeLine_eq]; decide, ?_⟩
  walk_at "X"
  refine gMulA_ol ⟨by decide, by rw [sizeLine_eq]; decide, ?_⟩
  walk_at "X"
  refine ⟨by rw [sizeLine_eq]; decide, ?_⟩
  refine gMulA_ol ⟨by decide, by rw [sizeLine_eq]; decide, ?_⟩
  walk_at "X"
  refine ⟨by rw [sizeLine_eq]; decide, ?_⟩
  refine gMulA_ol ⟨by decide, by rw [sizeLine_eq]; decide, ?_⟩
  walk_at "X"
  refine ⟨by rw [sizeLine_eq]; decide, ?_⟩
  refine ⟨["number", "number", "size", "size", "truth", "truth", "truth", "sum", "sum"], x, rfl, hx, by decide, by decide, ?_⟩
  walk_at "X"
  rw [are_kind]
  exact h
theorem ok__law_is_deed {f : Addr} {fd : FuncData} (T : Txt K mg ca) (F : Fun K "_law_is_deed" "_law_is_deed" s__law_is_deed f fd) (k__law_are : KnownG P w K mg base (theT (Ts ca)) "_law_are" ["_law_sorts", "_law_thing"] 2 (FF__law_are)) :
    FnG P w K mg base 3 f fd ["_law_thing", "_law_many_here"] (spD (theT (Ts ca)) K (FF__law_is_deed)) := by
  refine okG F sc__law_is_deed (by walk_at "v") (by decide) fun cdv A outer s H E G Fp hcd hr => ⟨_, (dss_cons (ds_if (dt_w (dw_or (dt_not (dt_tru rfl (de_callB call_isi (cd_isi rfl) (by rfl) T.b_isinstance (by decide +kernel) (da_cons (de_var (pv 0)) (da_cons (de_ty (n := "tuple") (by rfl) T.b_tuple (by decide +kernel)) da_nil))))) (dw_or (dt_cmp (op_eq0 hr.units) (od_eq0 rfl) (de_var (pv 0)) (de_tup da_nil) (nomark _)) (dw_or1 (dt_not (dt_tru rfl (de_callB call_isi (cd_isi rfl) (by rfl) T.b_isinstance (by decide +kernel) (da_cons (de_ix ix_A (od_ix rfl) (de_var (pv 0)) de_int (fun _ _ => rfl)) (da_cons (de_ty (n := "str") (by rfl) T.b_str (by decide +kernel)) da_nil)))))))))
        (dss_one (ds_ret de_bl))
        dss_nil)
      (dss_cons (ds_if (dt_cmp (op_eqA hr.units) (od_eq rfl) (de_var (pv 1)) de_int (nomark _))
        (dss_one (ds_ret (de_cmp (op_in1 hr.units) (od_in1 rfl) (de_var (pv 0)) (de_tup (da_cons (de_tup (da_cons de_str da_nil)) (da_cons (de_tup (da_cons de_str da_nil)) (da_cons (de_tup (da_cons de_str da_nil)) da_nil)))) (by rfl))))
        dss_nil)
      (dss_cons (ds_if (dt_cmp op_inA (od_in rfl) (de_ix ix_A (od_ix rfl) (de_var (pv 0)) de_int (fun _ _ => rfl)) (de_tup (da_cons de_str (da_cons de_str (da_cons de_str da_nil)))) (by rfl))
        (dss_one (ds_ret (de_callG rfl k__law_are (hr.mono (by decide)) (by rfl) (da_cons (de_lst (da_cons de_str da_nil)) (da_cons (de_slice rfl (de_var (pv 0)) (do_some de_int) do_none) da_nil)))))
        dss_nil)
      (dss_one (ds_ret (de_and rfl (de_cmp (op_eqA hr.units) (od_eq rfl) (de_callB call_len (cd_len rfl) (by rfl) T.b_len (by decide +kernel) (da_cons (de_var (pv 0)) da_nil)) de_int (nomark _)) (de_one (de_cmp op_inA (od_in rfl) (de_ix ix_A (od_ix rfl) (de_var (pv 0)) de_int (fun _ _ => rfl)) (de_split de_str de_str) (by rfl))))))))), ?_⟩
  dsimp only [Bk.T, theT]
  rintro rs τ Q ⟨x, m, rfl, hx, hm, h⟩
  walk_at "X"
  cases hx with
  | tup xs hx =>
    match xs, hx, h with
    | [], hx, h => walk_at "X"; exact h
    | a :: t, hx, h =>
      have ha := hx a (by simp)
      cases ha with
      | str w hw =>
        rcases hm with rfl | rfl
        · walk_at "X"
          refine kIfS_of (fun e => ?_) fun e => ?_
          · walk_at "X"
            rw [show cutL (PyData.str w :: t) (some 1) none = t from cut_1 _]
            refine ⟨["number"], .tuple t, rfl, .tup t fun x h => hx x (List.mem_cons_of_mem _ h), by decide, by decide, ?_⟩
            walk_at "X"
            rw [deed_num e] at h
            exact h
          · walk_at "X"
            rw [deed_one28 e] at h
            rw [show decide (((t.length + 1 : Nat) : Int) = 1) = decide (t.length = 0) from decide_eq_decide.mpr (by omega)]
            refine kAndB_and (c := ofOne.any fun z => (PyData.str z).eqv (.str w)) (fun _ Q' q => ?_) (by walk_at "X"; exact h)
            walk_at "X"
            refine ⟨rfl, by rw [sizeLine_eq]; decide +kernel, by rw [sizeLine_eq]; decide +kernel, ?_⟩
            rw [split_nine]
            walk_at "X"
            refine gIn_strs28 ?_
            walk_at "X"
            exact q
        · walk_at "X"
          refine ⟨w, t, ["join", "put", "into"], rfl, rfl, ?_⟩
          walk_at "X"
          rw [deed_two28] at h
          exact h
      | _ => walk_at "X"; rw [deed_nstr (by intro w e; cases e)] at h; exact h
  | _ => walk_at "X"; exact h
theorem ok_is_kind {f : Addr} {fd : FuncData} (T : Txt K mg ca) (F : Fun K "is_kind" "is_kind" s_is_kind f fd) (k_is_part_kinds : Known P w K mg base (theT (Ts ca)) "is_part_kinds" ["at", "thing"] 3 (FF_is_part_kinds)) :
    FnOk P w K mg base CX0 4 f fd ["thing"] (spD (theT (Ts ca)) K (FF_is_kind)) := by
  refine okP F sc_is_kind (by walk_at "v") (by decide) fun cdv A outer s H E G Fp hr => ⟨_, (dss_cons (ds_if (dt_w (dw_or (dt_not (dt_tru rfl (de_callB call_isi (cd_isi rfl) (by rfl) T.b_isinstance (by decide +kernel) (da_cons (de_var (pv 0)) (da_cons (de_ty (n := "tuple") (by rfl) T.b_tuple (by decide +kernel)) da_nil))))) (dw_or1 (dt_cmp (op_neA hr.units) (od_ne rfl) (de_callB call_len (cd_len rfl) (by rfl) T.b_len (by decide +kernel) (da_cons (de_var (pv 0)) da_nil)) (de_callB call_len (cd_len rfl) (by rfl) T.b_len (by decide +kernel) (da_cons (de_gdat rfl (by rfl) T.c_PARTS) da_nil)) (nomark _)))))
        (dss_one (ds_ret de_bl))
        dss_nil)
      (dss_one (ds_ret (de_callB (cr_all rfl) (cd_all rfl) (by rfl) T.b_all (by decide +kernel) (da_cons (de_lc (own := [("at", 1), ("part", 2)]) rfl sc_is_kind.nd (di_enum2 rfl (by rfl) T.b_enumerate (da_cons (de_var (pv 0)) da_nil)) (blkOk_by (by kernel_rfl)) (by decide) (fun _ _ _ _ _ => (dg_tp rfl rfl (dg_cons (dg_nm (i := 1) sc_is_kind.nd rfl (by first | exact .inl rfl | exact .inr rfl)) (dg_cons (dg_nm (i := 2) sc_is_kind.nd rfl (by first | exact .inl rfl | exact .inr rfl)) dg_nil)))) (fun _ _ _ _ _ => dts_nil) (fun _ _ _ _ _ => (de_callK rfl k_is_part_kinds (hr.mono (by decide)) (by rfl) (da_cons (de_var (pv 1)) (da_cons (de_var (pv 2)) da_nil))))) da_nil))))), ?_⟩
  dsimp only [Bk.T, theT]
  rintro rs τ Q ⟨x, rfl, hx, h⟩
  walk_at "y"
  cases x with
  | dict m =>
    cases m with
    | nil => walk_at "y"; exact h
    | cons p r => exact hx.1.elim
  | tuple xs =>
    walk_at "y"
    refine kIfS_of (fun e1 => ?_) fun e1 => ?_
    · have e1 : ¬ xs.length = 9 := by simp at e1; omega
      simp only [isKindD, e1, decide_false, Bool.false_and] at h
      walk_at "y"
      exact h
    have e1 : xs.length = 9 := by simp at e1; omega
    simp only [isKindD, e1, decide_true, Bool.true_and] at h
    walk_at "y"
    refine lc_map (fun y => match y with | .tuple [.int i, x] => .bool (isPartD i.toNat x) | _ => .none) _ (fun y hy kc k0 hk => ?_) ?_ ?_
    · obtain ⟨⟨x, i⟩, hp, rfl⟩ := List.mem_map.mp hy
      have hm := List.mem_zipIdx hp
      walk_at "y"
      refine ⟨i, x, rfl, by omega, hx.2 xs rfl x (by rw [hm.2.2]; exact List.getElem_mem _), ?_⟩
      walk_at "y"
      exact hk
    · rw [sizeLine_eq, enumD, List.length_map, List.length_zipIdx]
      omega
    · unfold enumD
      rw [List.map_map]
      walk_at "y"
      show kBls _ _ (bools? (xs.zipIdx.map fun p => .bool (isPartD p.2 p.1)))
      rw [bools_of]
      walk_at "y"
      rw [all_id, parts_zip]
      exact h
  | _ => walk_at "y"; exact h
theorem ok_is_let {f : Addr} {fd : FuncData} (T : Txt K mg ca) (F : Fun K "is_let" "is_let" s_is_let f fd) (k_are_names : Known P w K mg base (theT (Ts ca)) "are_names" ["thing", "many"] 2 (FF_are_names)) (k_is_deed : Known P w K mg base (theT (Ts ca)) "is_deed" ["thing", "many"] 3 (FF_is_deed)) :
    FnOk P w K mg base CX0 4 f fd ["thing"] (spD (theT (Ts ca)) K (FF_is_let)) := by
  refine okP F sc_is_let (by walk_at "v") (by decide) fun cdv A outer s H E G Fp hr => ⟨_, (dss_cons (ds_if (dt_w (dw_or (dt_cmp (op_neA hr.units) (od_ne rfl) (de_callB call_len (cd_len rfl) (by rfl) T.b_len (by decide +kernel) (da_cons (de_var (pv 0)) da_nil)) de_int (nomark _)) (dw_or1 (dt_not (dt_tru rfl (de_callB call_isi (cd_isi rfl) (by rfl) T.b_isinstance (by decide +kernel) (da_cons (de_ix ix_A (od_ix rfl) (de_var (pv 0)) de_int (fun _ _ => rfl)) (da_cons (de_ty (n := "tuple") (by rfl) T.b_tuple (by decide +kernel)) da_nil))))))))
        (dss_one (ds_ret de_bl))
        dss_nil)
      (dss_cons (ds_set (i := 1) sc_is_let.nd rfl (by first | exact .inl rfl | exact .inr rfl) (de_callB call_len (cd_len rfl) (by rfl) T.b_len (by decide +kernel) (da_cons (de_ix ix_A (od_ix rfl) (de_var (pv 0)) de_int (fun _ _ => rfl)) da_nil)))
      (dss_one (ds_ret (de_and rfl (de_chain op_leA od_cmp op_leA od_cmp de_int (de_var (pv 1)) de_int) (de_and rfl (de_callK rfl k_is_deed (hr.mono (by decide)) (by rfl) (da_cons (de_ix ix_A (od_ix rfl) (de_var (pv 0)) de_int (fun _ _ => rfl)) (da_cons (de_var (pv 1)) da_nil))) (de_one (de_callK rfl k_are_names (hr.mono (by decide)) (by rfl) (da_cons (de_ix ix_A (od_ix rfl) (de_var (pv 0)) de_int (fun _ _ => rfl)) (da_cons (de_var (pv 1)) da_nil)))))))))), ?_⟩
  dsimp only [Bk.T, theT]
  rintro rs τ Q ⟨xs, rfl, hx, hl, h⟩
  match xs, hx, hl, h with
  | [a, b], hx, hl, h => walk_at "X"; exact h
  | [a, b, c], hx, hl, h => walk_at "X"; exact h
  | [a, b, c, d], hx, hl, h => walk_at "X"; exact h
  | [x0, x1, a, b, x4], hx, hl, h =>
    have ha := hx.items a (by simp)
    have hb := hx.items b (by simp)
    walk_at "X"
    cases hb with
    | tup ns hn =>
      walk_at "X"
      have e1 : decide ((1 : Int) ≤ (ns.length : Int)) = decide (1 ≤ ns.length) := decide_eq_decide.mpr (by omega)
      have e2 : decide ((ns.length : Int) ≤ 2) = decide (ns.length ≤ 2) := decide_eq_decide.mpr (by omega)
      rw [e1]
      refine kChB_and (c := decide (ns.length ≤ 2)) (fun _ Q' q => ?_) ?_
      · walk_at "X"
        rw [e2]
        exact q
      walk_at "X"
      refine kAndB_and (c := isDeedD a ns.length && areNamesD (.tuple ns) ns.length) (fun e Q' q => ?_) (by walk_at "X"; exact h)
      rw [Bool.and_eq_true, decide_eq_true_eq, decide_eq_true_eq] at e
      walk_at "X"
      refine ⟨a, ns.length, rfl, ha.pl, by omega, ?_⟩
      walk_at "X"
      refine kAndB_and (c := areNamesD (.tuple ns) ns.length) (fun _ Q2 q2 => ?_) (by walk_at "X"; exact q)
      walk_at "X"
      refine ⟨.tuple ns, ns.length, rfl, .tup ns hn, by omega, ?_⟩
      walk_at "X"
      exact q2
    | _ => walk_at "X"; exact h
  | a :: b :: c :: d :: e :: f :: t, hx, hl, h => walk_at "X"; rw [decide_eq_false (show ¬ ((t.length + 1 + 1 + 1 + 1 + 1 + 1 : Nat) : Int) = 5 by omega)]; walk_at "X"; exact h
theorem ok__law_inner {f : Addr} {fd : FuncData} (T : Txt K mg ca) (F : Fun K "_law_inner" "_law_inner" s__law_inner f fd) (k__law_is : KnownG P w K mg base (theT (Ts ca)) "_law_is" ["_law_sort", "_law_thing"] 1 (FF__law_is)) (k__law_are : KnownG P w K mg base (theT (Ts ca)) "_law_are" ["_law_sorts", "_law_thing"] 2 (FF__law_are)) (k__law_is_deed : KnownG P w K mg base (theT (Ts ca)) "_law_is_deed" ["_law_thing", "_law_many_here"] 3 (FF__law_is_deed)) :
    FnG P w K mg base 4 f fd ["_law_thing"] (spD (theT (Ts ca)) K (FF__law_inner)) := by
  refine okG F sc__law_inner (by walk_at "v") (by decide) fun cdv A outer s H E G Fp hcd hr => ⟨_, (dss_cons (ds_if (dt_w (dw_or (dt_not (dt_tru rfl (de_callB call_isi (cd_isi rfl) (by rfl) T.b_isinstance (by decide +kernel) (da_cons (de_var (pv 0)) (da_cons (de_ty (n := "tuple") (by rfl) T.b_tuple (by decide +kernel)) da_nil))))) (dw_or (dt_cmp op_ltA od_cmp (de_callB call_len (cd_len rfl) (by rfl) T.b_len (by decide +kernel) (da_cons (de_var (pv 0)) da_nil)) de_int (nomark _)) (dw_or1 (dt_not (dt_tru rfl (de_callB call_isi (cd_isi rfl) (by rfl) T.b_isinstance (by decide +kernel) (da_cons (de_ix ix_A (od_ix rfl) (de_var (pv 0)) de_int (fun _ _ => rfl)) (da_cons (de_ty (n := "str") (by rfl) T.b_str (by decide +kernel)) da_nil)))))))))
        (dss_one (ds_ret de_non))
        dss_nil)
      (dss_cons (ds_if (dt_not (dt_tru rfl (de_callG rfl k__law_is (hr.mono (by decide)) (by rfl) (da_cons de_str (da_cons (de_ix ix_A (od_ix rfl) (de_var (pv 0)) de_int (fun _ _ => rfl)) da_nil)))))
        (dss_one (ds_ret de_non))
        dss_nil)
      (dss_cons (ds_if (dt_cmp (op_eqA hr.units) (od_eq rfl) (de_ix ix_A (od_ix rfl) (de_var (pv 0)) de_int (fun _ _ => rfl)) de_str (nomark _))
        (dss_one (ds_ret (de_if (dt_cmp (op_eqA hr.units) (od_eq rfl) (de_callB call_len (cd_len rfl) (by rfl) T.b_len (by decide +kernel) (da_cons (de_var (pv 0)) da_nil)) de_int (nomark _)) (de_lst da_nil) de_non)))
        dss_nil)
      (dss_cons (ds_if (dt_w (dw_and (dt_cmp (op_eqA hr.units) (od_eq rfl) (de_ix ix_A (od_ix rfl) (de_var (pv 0)) de_int (fun _ _ => rfl)) de_str (nomark _)) (dw_and (dt_cmp (op_eqA hr.units) (od_eq rfl) (de_callB call_len (cd_len rfl) (by rfl) T.b_len (by decide +kernel) (da_cons (de_var (pv 0)) da_nil)) de_int (nomark _)) (dw_and (dt_tru rfl (de_callB call_isi (cd_isi rfl) (by rfl) T.b_isinstance (by decide +kernel) (da_cons (de_ix ix_A (od_ix rfl) (de_var (pv 0)) de_int (fun _ _ => rfl)) (da_cons (de_ty (n := "tuple") (by rfl) T.b_tuple (by decide +kernel)) da_nil)))) (dw_and1 (dt_cmp (op_eqA hr.units) (od_eq rfl) (de_callB call_len (cd_len rfl) (by rfl) T.b_len (by decide +kernel) (da_cons (de_ix ix_A (od_ix rfl) (de_var (pv 0)) de_int (fun _ _ => rfl)) da_nil)) de_int (nomark _)))))))
        (dss_one (ds_ret (de_if (dt_tru rfl (de_callG rfl k__law_are (hr.mono (by decide)) (by rfl) (da_cons (de_op op_mulB (od_mulB rfl) (de_lst (da_cons de_str da_nil)) de_int) (da_cons (de_slice rfl (de_ix ix_A (od_ix rfl) (de_var (pv 0)) de_int (fun _ _ => rfl)) do_none (do_some de_int)) da_nil)))) (de_lst (da_cons (de_ix ix_A (od_ix rfl) (de_ix ix_A (od_ix rfl) (de_var (pv 0)) de_int (fun _ _ => rfl)) de_int (fun _ _ => rfl)) (da_cons (de_ix ix_A (od_ix rfl) (de_var (pv 0)) de_int (fun _ _ => rfl)) da_nil))) de_non)))
        dss_nil)
      (dss_cons (ds_if (dt_w (dw_and (dt_cmp (op_eqA hr.units) (od_eq rfl) (de_ix ix_A (od_ix rfl) (de_var (pv 0)) de_int (fun _ _ => rfl)) de_str (nomark _)) (dw_and (dt_cmp (op_eqA hr.units) (od_eq rfl) (de_callB call_len (cd_len rfl) (by rfl) T.b_len (by decide +kernel) (da_cons (de_var (pv 0)) da_nil)) de_int (nomark _)) (dw_and (dt_tru rfl (de_callB call_isi (cd_isi rfl) (by rfl) T.b_isinstance (by decide +kernel) (da_cons (de_ix ix_A (od_ix rfl) (de_var (pv 0)) de_int (fun _ _ => rfl)) (da_cons (de_ty (n := "tuple") (by rfl) T.b_tuple (by decide +kernel)) da_nil)))) (dw_and1 (dt_chain op_leA od_cmp op_leA od_cmp de_int (de_callB call_len (cd_len rfl) (by rfl) T.b_len (by decide +kernel) (da_cons (de_ix ix_A (od_ix rfl) (de_var (pv 0)) de_int (fun _ _ => rfl)) da_nil)) de_int))))))
        (dss_cons (ds_set (i := 1) sc__law_inner.nd rfl (by first | exact .inl rfl | exact .inr rfl) (de_callB call_len (cd_len rfl) (by rfl) T.b_len (by decide +kernel) (da_cons (de_ix ix_A (od_ix rfl) (de_var (pv 0)) de_int (fun _ _ => rfl)) da_nil)))
        (dss_one (ds_ret (de_if (dt_w (dw_and (dt_tru rfl (de_callG rfl k__law_are (hr.mono (by decide)) (by rfl) (da_cons (de_op op_mulB (od_mulB rfl) (de_lst (da_cons de_str da_nil)) (de_var (pv 1))) (da_cons (de_ix ix_A (od_ix rfl) (de_var (pv 0)) de_int (fun _ _ => rfl)) da_nil)))) (dw_and1 (dt_tru rfl (de_callG rfl k__law_is_deed (hr.mono (by decide)) (by rfl) (da_cons (de_ix ix_A (od_ix rfl) (de_var (pv 0)) de_int (fun _ _ => rfl)) (da_cons (de_var (pv 1)) da_nil))))))) (de_lst (da_cons (de_ix ix_A (od_ix rfl) (de_var (pv 0)) de_int (fun _ _ => rfl)) da_nil)) de_non))))
        dss_nil)
      (dss_cons (ds_if (dt_w (dw_or (dt_cmp (op_neA hr.units) (od_ne rfl) (de_ix ix_A (od_ix rfl) (de_var (pv 0)) de_int (fun _ _ => rfl)) de_str (nomark _)) (dw_or (dt_cmp (op_neA hr.units) (od_ne rfl) (de_callB call_len (cd_len rfl) (by rfl) T.b_len (by decide +kernel) (da_cons (de_var (pv 0)) da_nil)) de_int (nomark _)) (dw_or (dt_not (dt_tru rfl (de_callB call_isi (cd_isi rfl) (by rfl) T.b_isinstance (by decide +kernel) (da_cons (de_ix ix_A (od_ix rfl) (de_var (pv 0)) de_int (fun _ _ => rfl)) (da_cons (de_ty (n := "str") (by rfl) T.b_str (by decide +kernel)) da_nil))))) (dw_or1 (dt_cmp op_notInA (od_in rfl) (de_ix ix_A (od_ix rfl) (de_var (pv 0)) de_int (fun _ _ => rfl)) (de_tup (da_cons de_str (da_cons de_str da_nil))) (by rfl)))))))
        (dss_one (ds_ret de_non))
        dss_nil)
      (dss_one (ds_ret (de_if (dt_tru rfl (de_callG rfl k__law_is (hr.mono (by decide)) (by rfl) (da_cons (de_ix ix_A (od_ix rfl) (de_lst (da_cons de_str (da_cons de_str da_nil))) (de_callTy call_intA cd_int (by rfl) T.b_int (by decide +kernel) (da_cons (de_cmp (op_eqA hr.units) (od_eq rfl) (de_ix ix_A (od_ix rfl) (de_var (pv 0)) de_int (fun _ _ => rfl)) de_str (nomark _)) da_nil)) (fun _ _ => rfl)) (da_cons (de_ix ix_A (od_ix rfl) (de_var (pv 0)) de_int (fun _ _ => rfl)) da_nil)))) (de_callTy call_list_of (cd_list rfl) (by rfl) T.b_list (by decide +kernel) (da_cons (de_slice rfl (de_var (pv 0)) (do_some de_int) do_none) da_nil)) de_non))))))))), ?_⟩
  dsimp only [Bk.T, theT]
  rintro rs τ Q ⟨x, rfl, hx, h1, h2⟩
  walk_at "X"
  cases hx with
  | tup xs hx =>
    walk_at "X"
    match xs, hx, h1, h2 with
    | [], hx, h1, h2 => walk_at "X"; exact h2 rfl
    | [a], hx, h1, h2 => walk_at "X"; exact h2 (by cases a <;> rfl)
    | a :: n :: t, hx, h1, h2 =>
      walk_at "X"
      rw [decide_eq_false (show ¬ ((t.length + 1 + 1 : Nat) : Int) < 2 by omega)]
      have ha := hx a (by simp)
      have hn := hx n (by simp)
      walk_at "X"
      cases ha with
      | str w hw =>
        walk_at "X"
        refine ⟨"name", n, rfl, hn, by simp [sortW], ?_⟩
        walk_at "X"
        refine kIfS_of (fun e => ?_) fun e => ?_
        · walk_at "X"
          exact h2 (by
            show (isNameD n && formT w t) = false
            rw [show isNameD n = false by rw [Bool.not_eq_true'] at e; exact e]
            rfl)
        rw [Bool.not_eq_false'] at e
        have e : isNameD n = true := e
        walk_at "X"
        have h1 : formT w t = true → Q (.ol (kidsD (.tuple (.str w :: n :: t)))) τ := fun z => h1 (by show (isNameD n && formT w t) = true; rw [e, z]; rfl)
        have h2 : formT w t = false → Q (.d .none) τ := fun z => h2 (by show (isNameD n && formT w t) = false; rw [e, z]; rfl)
        by_cases w1 : w = "tell"
        · subst w1
          walk_at "X"
          try refine kIfS_cast (c := true) (by simp only [str_eqv]; decide) ?_
          match t, hx, h1, h2 with
          | [], hx, h1, h2 => walk_at "X"; exact h1 rfl
          | a :: r, hx, h1, h2 =>
            walk_at "X"
            refine kIf_of (fun z => ?_) fun z => ?_
            · exfalso
              have := of_decide_eq_true z
              omega
            · walk_at "X"
              exact h2 (by rw [form_other (by decide) (by decide) (by decide)]; simp)
        refine kIfS_cast (c := false) (by rw [str_eqv]; exact decide_eq_false w1) ?_
        walk_at "X"
        by_cases w2 : w = "going"
        · subst w2
          refine kAndT_cast (c := true) (by rw [str_eqv]; exact decide_eq_true rfl) ?_
          match t, hx, h1, h2 with
          | [], hx, h1, h2 => walk_at "X"; exact h2 (by decide)
          | [a], hx, h1, h2 => walk_at "X"; exact h2 rfl
          | [a, u], hx, h1, h2 =>
            have ha := hx a (by simp)
            have h1 : goD a = true → Q (.ol (kidsD (.tuple [.str "going", n, a, u]))) τ := fun z => h1 (by show (decide (Str.ofString "going" = "going") && goD a) = true; rw [z, decide_eq_true rfl]; rfl)
            have h2 : goD a = false → Q (.d .none) τ := fun z => h2 (by show (decide (Str.ofString "going" = "going") && goD a) = false; rw [z, Bool.and_false])
            cases ha with
            | tup ns hn =>
              walk_at "X"
              rw [← goD_eq] at h1 h2
              refine kIfS_of (fun e5 => ?_) fun e5 => ?_
              · have e5 : ns.length = 5 := by have := of_decide_eq_true e5; omega
                rw [e5, decide_eq_true rfl, Bool.true_and] at h1 h2
                walk_at "X"
                refine gMulA_ol ⟨by decide, by rw [sizeLine_eq]; decide, ?_⟩
                walk_at "X"
                rw [show cutL ns none (some 4) = ns.take 4 from cut_pre ns 4]
                refine ⟨List.replicate 4 (Str.ofString "name"), .tuple (ns.take 4), rfl, .tup _ fun x hx => hn x (List.mem_of_mem_take hx), by decide, by decide, ?_⟩
                walk_at "X"
                rw [show [Str.ofString "name", Str.ofString "name", Str.ofString "name", Str.ofString "name"] = List.replicate 4 (Str.ofString "name") from rfl, Z.are_names]
                refine kIf_of (fun z => ?_) fun z => ?_
                · match ns, e5, h1, z with
                  | [n1, n2, n3, n4, t], _, h1, z =>
                    walk_at "X"
                    exact h1 z
                · walk_at "X"
                  exact h2 z
              · walk_at "X"
                have e5 : ¬ ns.length = 5 := by have := of_decide_eq_false e5; omega
                rw [decide_eq_false e5] at h2
                exact h2 rfl
            | _ => walk_at "X"; exact h2 rfl
          | a :: b :: c :: r, hx, h1, h2 =>
            walk_at "X"
            refine kAndT_cast (c := false) (decide_eq_false (by omega)) ?_
            walk_at "X"
            exact h2 (by rw [form_going n]; rfl)
        refine kAndT_cast (c := false) (by rw [str_eqv]; exact decide_eq_false w2) ?_
        walk_at "X"
        by_cases w3 : w = "let"
        · subst w3
          refine kAndT_cast (c := true) (by rw [str_eqv]; exact decide_eq_true rfl) ?_
          match t, hx, h1, h2 with
          | [], hx, h1, h2 => walk_at "X"; exact h2 (by decide)
          | [a], hx, h1, h2 => walk_at "X"; exact h2 rfl
          | [a, u], hx, h1, h2 => walk_at "X"; exact h2 (by rw [form_let n]; rfl)
          | [a, b, u], hx, h1, h2 =>
            have ha := hx a (by simp)
            have hb := hx b (by simp)
            rw [form_let n] at h1 h2
            have h1 : ltD a b = true → Q (.ol (kidsD (.tuple [.str "let", n, a, b, u]))) τ := h1
            have h2 : ltD a b = false → Q (.d .none) τ := h2
            cases hb with
            | tup ns hn =>
              have e1 : decide ((1 : Int) ≤ (ns.length : Int)) = decide (1 ≤ ns.length) := decide_eq_decide.mpr (by omega)
              have e2 : decide ((ns.length : Int) ≤ 2) = decide (ns.length ≤ 2) := decide_eq_decide.mpr (by omega)
              have h1 : ((decide (1 ≤ ns.length) && decide (ns.length ≤ 2)) && (isDeedD a ns.length && areNamesD (.tuple ns) ns.length)) = true → Q (.ol (kidsD (.tuple [.str "let", n, a, .tuple ns, u]))) τ := h1
              have h2 : ((decide (1 ≤ ns.length) && decide (ns.length ≤ 2)) && (isDeedD a ns.length && areNamesD (.tuple ns) ns.length)) = false → Q (.d .none) τ := h2
              walk_at "X"
              rw [e1]
              refine kChB_and (c := decide (ns.length ≤ 2)) (fun _ Q' q => ?_) ?_
              · walk_at "X"
                rw [e2]
                exact q
              walk_at "X"
              refine kIfS_of (fun z => ?_) fun z => ?_
              · rw [z, Bool.true_and] at h1 h2
                rw [Bool.and_eq_true, decide_eq_true_eq, decide_eq_true_eq] at z
                walk_at "X"
                refine gMulA_ol ⟨⟨by omega, by omega⟩, by rw [Int.toNat_natCast, sizeLine_eq, List.length_singleton]; omega, ?_⟩
                walk_at "X"
                rw [rep_names]
                refine ⟨List.replicate ns.length (Str.ofString "name"), .tuple ns, rfl, .tup ns hn, fun w hw => by rw [List.eq_of_mem_replicate hw]; decide, by rw [List.length_replicate]; omega, ?_⟩
                walk_at "X"
                rw [Z.are_names]
                refine kAndT_and (c := isDeedD a ns.length) (fun _ Q' q => ?_) ?_
                · walk_at "X"
                  refine ⟨a, ns.length, rfl, ha, by omega, ?_⟩
                  walk_at "X"
                  exact q
                rw [Bool.and_comm]
                walk_at "X"
                refine kIf_of (fun z => ?_) fun z => ?_
                · walk_at "X"
                  exact h1 z
                · walk_at "X"
                  exact h2 z
              · rw [z, Bool.false_and] at h2
                walk_at "X"
                exact h2 rfl
            | _ => walk_at "X"; exact h2 rfl
          | a :: b :: c :: d :: r, hx, h1, h2 =>
            walk_at "X"
            refine kAndT_cast (c := false) (decide_eq_false (by omega)) ?_
            walk_at "X"
            exact h2 (by rw [form_let n]; rfl)
        refine kAndT_cast (c := false) (by rw [str_eqv]; exact decide_eq_false w3) ?_
        walk_at "X"
        by_cases w4 : w = "part"
        · subst w4
          refine kOrT_cast (c := false) (by rw [str_eqv]; simp) ?_
          match t, hx, h1, h2 with
          | [], hx, h1, h2 => walk_at "X"; exact h2 (by decide)
          | [a], hx, h1, h2 => walk_at "X"; exact h2 rfl
          | [a, u], hx, h1, h2 => walk_at "X"; exact h2 (by rw [form_part n]; rfl)
          | [a, b, u], hx, h1, h2 => walk_at "X"; exact h2 (by rw [form_part n]; rfl)
          | [a, b, u, v], hx, h1, h2 =>
            have ha := hx a (by simp)
            have hb := hx b (by simp)
            rw [form_part n] at h1 h2
            have h1 : ptD a b = true → Q (.ol (kidsD (.tuple [.str "part", n, a, b, u, v]))) τ := h1
            have h2 : ptD a b = false → Q (.d .none) τ := h2
            cases ha with
            | str m hm =>
              walk_at "X"
              by_cases m1 : m = "many"
              · subst m1
                refine kIfS_cast (c := false) (by simp only [str_eqv]; decide) ?_
                walk_at "X"
                rw [show (PyData.str (Str.ofString "many")).eqv (PyData.str (Str.ofString "sum")) = false by rw [str_eqv]; decide]
                walk_at "X"
                refine ⟨rfl, "many", b, rfl, hb, by decide, ?_⟩
                walk_at "X"
                refine kIf_of (fun z => ?_) fun z => ?_
                · walk_at "X"
                  exact h1 z
                · walk_at "X"
                  exact h2 z
              by_cases m2 : m = "sum"
              · subst m2
                refine kIfS_cast (c := false) (by simp only [str_eqv]; decide) ?_
                walk_at "X"
                rw [show (PyData.str (Str.ofString "sum")).eqv (PyData.str (Str.ofString "sum")) = true by rw [str_eqv]; decide]
                walk_at "X"
                refine ⟨rfl, "below", b, rfl, hb, by decide, ?_⟩
                walk_at "X"
                refine kIf_of (fun z => ?_) fun z => ?_
                · walk_at "X"
                  exact h1 z
                · walk_at "X"
                  exact h2 z
              refine kIfS_cast (c := true) (by rw [str_eqv, str_eqv, decide_eq_false (Ne.symm m1), decide_eq_false (Ne.symm m2)]; rfl) ?_
              walk_at "X"
              refine h2 ?_
              show (if m = "many" then _ else if m = "sum" then _ else false) = false
              rw [if_neg m1, if_neg m2]
            | _ => walk_at "X"; exact h2 rfl
          | a :: b :: c :: d :: e :: r, hx, h1, h2 =>
            walk_at "X"
            refine kOrT_cast (c := true) (by rw [decide_eq_false (by omega)]; rfl) ?_
            walk_at "X"
            exact h2 (by rw [form_part n]; rfl)
        refine kOrT_cast (c := true) (by rw [str_eqv, decide_eq_false w4]; rfl) ?_
        walk_at "X"
        exact h2 (by rw [form_other w3 w4 w2, decide_eq_false w1]; rfl)
      | _ => walk_at "X"; exact h2 (form_nstr (by intro w e; cases e))
  | _ => walk_at "X"; exact h2 rfl
theorem ok_has_form {f : Addr} {fd : FuncData} (T : Txt K mg ca) (F : Fun K "has_form" "has_form" s_has_form f fd) (k_is_name : Known P w K mg base (theT (Ts ca)) "is_name" ["thing"] 1 (FF_is_name)) (k_is_let : Known P w K mg base (theT (Ts ca)) "is_let" ["thing"] 4 (FF_is_let)) (k_is_part_terms : Known P w K mg base (theT (Ts ca)) "is_part_terms" ["thing"] 2 (FF_is_part_terms)) (k_is_going : Known P w K mg base (theT (Ts ca)) "is_going" ["thing"] 3 (FF_is_going)) :
    FnOk P w K mg base CX0 5 f fd ["thing"] (spD (theT (Ts ca)) K (FF_has_form)) := by
  refine okP F sc_has_form (by walk_at "v") (by decide) fun cdv A outer s H E G Fp hr => ⟨_, (dss_cons (ds_if (dt_w (dw_or (dt_not (dt_tru rfl (de_callB call_isi (cd_isi rfl) (by rfl) T.b_isinstance (by decide +kernel) (da_cons (de_var (pv 0)) (da_cons (de_ty (n := "tuple") (by rfl) T.b_tuple (by decide +kernel)) da_nil))))) (dw_or (dt_cmp op_ltA od_cmp (de_callB call_len (cd_len rfl) (by rfl) T.b_len (by decide +kernel) (da_cons (de_var (pv 0)) da_nil)) de_int (nomark _)) (dw_or (dt_not (dt_tru rfl (de_callB call_isi (cd_isi rfl) (by rfl) T.b_isinstance (by decide +kernel) (da_cons (de_ix ix_A (od_ix rfl) (de_var (pv 0)) de_int (fun _ _ => rfl)) (da_cons (de_ty (n := "str") (by rfl) T.b_str (by decide +kernel)) da_nil))))) (dw_or1 (dt_not (dt_tru rfl (de_callK rfl k_is_name (hr.mono (by decide)) (by rfl) (da_cons (de_ix ix_A (od_ix rfl) (de_var (pv 0)) de_int (fun _ _ => rfl)) da_nil)))))))))
        (dss_one (ds_ret de_bl))
        dss_nil)
      (dss_cons (ds_if (dt_cmp (op_eqA hr.units) (od_eq rfl) (de_ix ix_A (od_ix rfl) (de_var (pv 0)) de_int (fun _ _ => rfl)) de_str (nomark _))
        (dss_one (ds_ret (de_callK rfl k_is_let (hr.mono (by decide)) (by rfl) (da_cons (de_var (pv 0)) da_nil))))
        dss_nil)
      (dss_cons (ds_if (dt_cmp (op_eqA hr.units) (od_eq rfl) (de_ix ix_A (od_ix rfl) (de_var (pv 0)) de_int (fun _ _ => rfl)) de_str (nomark _))
        (dss_one (ds_ret (de_callK rfl k_is_part_terms (hr.mono (by decide)) (by rfl) (da_cons (de_var (pv 0)) da_nil))))
        dss_nil)
      (dss_cons (ds_if (dt_cmp (op_eqA hr.units) (od_eq rfl) (de_ix ix_A (od_ix rfl) (de_var (pv 0)) de_int (fun _ _ => rfl)) de_str (nomark _))
        (dss_one (ds_ret (de_callK rfl k_is_going (hr.mono (by decide)) (by rfl) (da_cons (de_var (pv 0)) da_nil))))
        dss_nil)
      (dss_one (ds_ret (de_and rfl (de_cmp (op_eqA hr.units) (od_eq rfl) (de_ix ix_A (od_ix rfl) (de_var (pv 0)) de_int (fun _ _ => rfl)) de_str (nomark _)) (de_one (de_cmp (op_eqA hr.units) (od_eq rfl) (de_callB call_len (cd_len rfl) (by rfl) T.b_len (by decide +kernel) (da_cons (de_var (pv 0)) da_nil)) de_int (nomark _)))))))))), ?_⟩
  dsimp only [Bk.T, theT]
  rintro rs τ Q ⟨x, rfl, hx, h⟩
  walk_at "X"
  cases hx with
  | tup xs hx =>
    walk_at "X"
    match xs, hx, h with
    | [], hx, h => walk_at "X"; exact h
    | [a], hx, h => walk_at "X"; rw [show formD (.tuple [a]) = false by cases a <;> rfl] at h; exact h
    | a :: n :: t, hx, h =>
      walk_at "X"
      rw [decide_eq_false (show ¬ ((t.length + 1 + 1 : Nat) : Int) < 2 by omega)]
      have ha := hx a (by simp)
      have hn := hx n (by simp)
      walk_at "X"
      cases ha with
      | str w hw =>
        walk_at "X"
        refine ⟨n, rfl, hn, ?_⟩
        walk_at "X"
        have h : Q (.d (.bool (isNameD n && formT w t))) τ := h
        refine kIfS_of (fun e => ?_) fun e => ?_
        · walk_at "X"
          rw [Bool.not_eq_true'] at e
          rw [e] at h
          exact h
        rw [Bool.not_eq_false'] at e
        rw [e, Bool.true_and] at h
        walk_at "X"
        simp only [str_eqv]
        refine kIfS_of (fun e1 => ?_) fun e1 => ?_
        · have e1 := of_decide_eq_true e1
          subst e1
          walk_at "X"
          refine ⟨_, rfl, .tup _ hx, by simp, ?_⟩
          walk_at "X"
          rw [form_let n t] at h
          exact h
        walk_at "X"
        simp only [str_eqv]
        refine kIfS_of (fun e2 => ?_) fun e2 => ?_
        · have e2 := of_decide_eq_true e2
          subst e2
          walk_at "X"
          refine ⟨_, rfl, .tup _ hx, by simp, ?_⟩
          walk_at "X"
          rw [form_part n t] at h
          exact h
        walk_at "X"
        simp only [str_eqv]
        refine kIfS_of (fun e3 => ?_) fun e3 => ?_
        · have e3 := of_decide_eq_true e3
          subst e3
          walk_at "X"
          refine ⟨_, rfl, .tup _ hx, by simp, ?_⟩
          walk_at "X"
          rw [form_going n t] at h
          exact h
        walk_at "X"
        simp only [str_eqv]
        rw [form_other (of_decide_eq_false e1) (of_decide_eq_false e2) (of_decide_eq_false e3)] at h
        refine kAndB_and (c := decide (t.length = 0)) (fun _ Q' q => ?_) (by walk_at "X"; exact h)
        walk_at "X"
        rw [show decide (((t.length + 1 + 1 : Nat) : Int) = 2) = decide (t.length = 0) from decide_eq_decide.mpr (by omega)]
        exact q
      | _ =>
        walk_at "X"
        rw [form_nstr (by intro w e; cases e)] at h
        exact h
  | _ => walk_at "X"; exact h
theorem ok_is_param {f : Addr} {fd : FuncData} (T : Txt K mg ca) (F : Fun K "is_param" "is_param" s_is_param f fd) (k_is_kind : Known P w K mg base (theT (Ts ca)) "is_kind" ["thing"] 4 (FF_is_kind)) (k_is_name : Known P w K mg base (theT (Ts ca)) "is_name" ["thing"] 1 (FF_is_name)) :
    FnOk P w K mg base CX0 5 f fd ["thing"] (spD (theT (Ts ca)) K (FF_is_param)) := by
  refine okP F sc_is_param (by walk_at "v") (by decide) fun cdv A outer s H E G Fp hr => ⟨_, (dss_one (ds_ret (de_and rfl (de_callB call_isi (cd_isi rfl) (by rfl) T.b_isinstance (by decide +kernel) (da_cons (de_var (pv 0)) (da_cons (de_ty (n := "tuple") (by rfl) T.b_tuple (by decide +kernel)) da_nil))) (de_and rfl (de_cmp (op_eqA hr.units) (od_eq rfl) (de_callB call_len (cd_len rfl) (by rfl) T.b_len (by decide +kernel) (da_cons (de_var (pv 0)) da_nil)) de_int (nomark _)) (de_and rfl (de_callK rfl k_is_name (hr.mono (by decide)) (by rfl) (da_cons (de_ix ix_A (od_ix rfl) (de_var (pv 0)) de_int (fun _ _ => rfl)) da_nil)) (de_one (de_callK rfl k_is_kind (hr.mono (by decide)) (by rfl) (da_cons (de_ix ix_A (od_ix rfl) (de_var (pv 0)) de_int (fun _ _ => rfl)) da_nil)))))))), ?_⟩
  dsimp only [Bk.T, theT]
  rintro rs τ Q ⟨x, rfl, hx, h⟩
  walk_at "X"
  cases hx with
  | tup xs hx =>
    walk_at "X"
    match xs, hx, h with
    | [], hx, h => walk_at "X"; exact h
    | [a], hx, h => walk_at "X"; exact h
    | [a, b], hx, h =>
      have ha := hx a (by simp)
      have hb := hx b (by simp)
      walk_at "X"
      refine ⟨a, rfl, ha, ?_⟩
      walk_at "X"
      refine kAndB_and (c := isKindD b) (fun _ Q' q => ?_) (by walk_at "X"; exact h)
      walk_at "X"
      refine ⟨b, rfl, hb.pl, ?_⟩
      walk_at "X"
      exact q
    | a :: b :: c :: t, hx, h =>
      walk_at "X"
      rw [decide_eq_false (show ¬ ((t.length + 1 + 1 + 1 : Nat) : Int) = 2 by omega)]
      walk_at "X"
      exact h
  | _ => walk_at "X"; exact h
theorem ok_is_whole_term {f : Addr} {fd : FuncData} (T : Txt K mg ca) (F : Fun K "is_whole_term" "is_whole_term" s_is_whole_term f fd) (k_has_form : Known P w K mg base (theT (Ts ca)) "has_form" ["thing"] 5 (FF_has_form)) (k_terms_of : Known P w K mg base (theT (Ts ca)) "terms_of" ["term"] 1 (FF_terms_of)) (k_places_of : Known P w K mg base (theT (Ts ca)) "places_of" ["term"] 2 (FF_places_of)) :
    FnOk P w K mg base CX0 6 f fd ["thing"] (spD (theT (Ts ca)) K (FF_is_whole_term)) := by
  refine okP F sc_is_whole_term (by walk_at "v") (by decide) fun cdv A outer s H E G Fp hr => ⟨_, (dss_cons (ds_set (i := 1) sc_is_whole_term.nd rfl (by first | exact .inl rfl | exact .inr rfl) de_int)
      (dss_cons (ds_set (i := 2) sc_is_whole_term.nd rfl (by first | exact .inl rfl | exact .inr rfl) (de_lst (da_cons (de_tup (da_cons (de_var (pv 0)) (da_cons de_int (da_cons de_int da_nil)))) da_nil)))
      (dss_cons (ds_while PassesOwn.never (dt_cmp (op_ne0 hr.units) (od_eq0 rfl) (de_var (pv 2)) (de_lst da_nil) (nomark _))
        (dss_cons (ds_popA (i := 2) (pe_bm0 PySem.F.plainAttrs_list PySem.F.slot_list_pop PySem.F.type_list_pop mt_pop (pv 2)) (dg_tp rfl rfl (dg_cons (dg_nm (i := 3) sc_is_whole_term.nd rfl (by first | exact .inl rfl | exact .inr rfl)) (dg_cons (dg_nm (i := 4) sc_is_whole_term.nd rfl (by first | exact .inl rfl | exact .inr rfl)) (dg_cons (dg_nm (i := 5) sc_is_whole_term.nd rfl (by first | exact .inl rfl | exact .inr rfl)) dg_nil)))))
        (dss_cons (ds_set (i := 1) sc_is_whole_term.nd rfl (by first | exact .inl rfl | exact .inr rfl) (de_op op_addA (od_add rfl) (de_var (pv 1)) de_int))
        (dss_cons (ds_if (dt_w (dw_or (dt_cmp op_gtA od_cmp (de_var (pv 1)) (de_gint (by rfl) T.c_MOST_TERMS) (nomark _)) (dw_or (dt_cmp op_gtA od_cmp (de_var (pv 4)) (de_gint (by rfl) T.c_MOST_DEEP) (nomark _)) (dw_or1 (dt_not (dt_tru rfl (de_callK rfl k_has_form (hr.mono (by decide)) (by rfl) (da_cons (de_var (pv 3)) da_nil))))))))
          (dss_one (ds_ret de_bl))
          dss_nil)
        (dss_one (ds_if (dt_cmp (op_eqA hr.units) (od_eq rfl) (de_ix ix_A (od_ix rfl) (de_var (pv 3)) de_int (fun _ _ => rfl)) de_str (nomark _))
          (dss_cons (ds_if (dt_cmp (op_eqA hr.units) (od_eq rfl) (de_var (pv 5)) (de_gint (by rfl) T.c_MOST_GOINGS) (nomark _))
            (dss_one (ds_ret de_bl))
            dss_nil)
          (dss_cons (ds_app (ps_expr (pe_bm PySem.F.plainAttrs_list PySem.F.slot_list_append PySem.F.type_list_append mt_append (pv 2) (pa_cons (de_tup (da_cons (de_ix ix_A (od_ix rfl) (de_ix ix_A (od_ix rfl) (de_var (pv 3)) de_int (fun _ _ => rfl)) de_int (fun _ _ => rfl)) (da_cons (de_op op_addA (od_add rfl) (de_var (pv 4)) de_int) (da_cons (de_op op_addA (od_add rfl) (de_var (pv 5)) de_int) da_nil)))) pa_nil))))
          (dss_one (ds_app (ps_expr (pe_bm PySem.F.plainAttrs_list PySem.F.slot_list_append PySem.F.type_list_append mt_append (pv 2) (pa_cons (de_tup (da_cons (de_ix ix_A (od_ix rfl) (de_var (pv 3)) de_int (fun _ _ => rfl)) (da_cons (de_op op_addA (od_add rfl) (de_var (pv 4)) de_int) (da_cons (de_var (pv 5)) da_nil)))) pa_nil)))))))
          (dss_one (ds_ext (ps_expr (pe_bm PySem.F.plainAttrs_list PySem.F.slot_list_extend PySem.F.type_list_extend mt_extend (pv 2) (pa_cons (de_lc (own := [("part", 6)]) rfl sc_is_whole_term.nd (di_seq rfl (de_callK rfl k_terms_of (hr.mono (by decide)) (by rfl) (da_cons (de_var (pv 3)) da_nil))) (blkOk_by (by kernel_rfl)) (by decide) (fun _ _ _ _ _ => (dg_nm (i := 6) sc_is_whole_term.nd rfl (by first | exact .inl rfl | exact .inr rfl))) (fun _ _ _ _ _ => dts_nil) (fun _ _ _ _ _ => (de_tup (da_cons (de_var (pv 6)) (da_cons (de_op op_addA (od_add rfl) (de_var (pv 4)) de_int) (da_cons (de_var (pv 5)) da_nil)))))) pa_nil)))))))))))
      (dss_one (ds_ret (de_callB (cr_all rfl) (cd_all rfl) (by rfl) T.b_all (by decide +kernel) (da_cons (de_lc (own := [("one", 3)]) rfl sc_is_whole_term.nd (di_seq rfl (de_callK rfl k_places_of (hr.mono (by decide)) (by rfl) (da_cons (de_var (pv 0)) da_nil))) (blkOk_by (by kernel_rfl)) (by decide) (fun _ _ _ _ _ => (dg_nm (i := 3) sc_is_whole_term.nd rfl (by first | exact .inl rfl | exact .inr rfl))) (fun _ _ _ _ _ => (dts_one (dt_cmp (op_eqA hr.units) (od_eq rfl) (de_ix ix_A (od_ix rfl) (de_var (pv 3)) de_int (fun _ _ => rfl)) de_str (nomark _)))) (fun _ _ _ _ _ => (de_cmp op_leA od_cmp (de_callB call_len (cd_len rfl) (by rfl) T.b_len (by decide +kernel) (da_cons (de_callK rfl k_places_of (hr.mono (by decide)) (by rfl) (da_cons (de_ix ix_A (od_ix rfl) (de_ix ix_A (od_ix rfl) (de_var (pv 3)) de_int (fun _ _ => rfl)) de_int (fun _ _ => rfl)) da_nil)) da_nil)) (de_gint (by rfl) T.c_MOST_INNER) (nomark _)))) da_nil))))))), ?_⟩
  dsimp only [Bk.T, theT]
  rintro rs τ Q ⟨x, rfl, hx, h⟩
  walk_at "X"
  refine ⟨42, while_inv (fun k env τ' => τ' = τ ∧ ∃ (many : Nat) (W : List (Nat × Bool × D)) (x3 x4 x5 x6 : SV), many + k = 41 ∧ many ≤ 40 ∧ env = [.d x, .d (.int (many : Nat)), .ol (W.map toT).reverse, x3, x4, x5, x6] ∧ (∀ w ∈ W, PlA w.2.2 ∧ w.1 ≤ 20) ∧ (many + costW W ≤ 40 ↔ costD 20 false x ≤ 40) ∧ W.length ≤ many + 1) ?_ 41 _ _ ⟨rfl, 0, [(20, false, x)], _, _, _, _, rfl, by decide, rfl, fun w hw => by rw [List.mem_singleton.mp hw]; exact ⟨hx, Nat.le_refl _⟩, by rw [costW_cons]; simp [costW], Nat.le_refl _⟩⟩
  rintro k env τ ⟨rfl, many, W, x3, x4, x5, x6, hk, hm, rfl, hW, hc, hwl⟩ Wn hWn
  walk_at "X"
  cases W with
  | nil =>
    have hc40 : costD 20 false x ≤ 40 := hc.mp (by show many + 0 ≤ 40; omega)
    obtain ⟨hgood, hlen⟩ := cost_good hc40
    rw [show (([] : List (Nat × Bool × D)).map toT).reverse.isEmpty = true from rfl]
    rw [if_neg (by decide)]
    walk_at "X"
    refine ⟨20, x, rfl, hgood, by omega, ?_⟩
    walk_at "X"
    rw [show placesD 20 x = (placesD 20 x).map (fun y : D => y) from (List.map_id _).symm]
    refine lc_filt (fun y : D => y) (fun y => .bool (decide (innerL y ≤ 16))) isGoD (placesD 20 x) (fun y hy kc k0 z1 z2 => ?_) (by rw [sizeLine_eq]; omega) ?_
    · obtain ⟨m, hm20, hgy, hly⟩ := mem_good hgood hy
      cases m with
      | zero => cases hgy
      | succ m =>
        obtain ⟨hfy, hky⟩ := good_succ.mp hgy
        rcases form_inv hfy with ⟨a, rfl⟩ | ⟨a, n1, n2, n3, n4, t, u, rfl⟩ | ⟨a, b, c, t, rfl⟩ | ⟨a, b, c, t, u, rfl⟩
        · walk_at "X"
          exact z2 (go_tell _)
        · walk_at "X"
          have ht : goodD m t = true := hky t (by show t ∈ [t, u]; simp)
          have hpl : (placesD 20 t).length ≤ 40 := by
            rw [places_le ht (by omega)]
            have h1 : (placesD (m + 1) (.tuple [.str "going", a, .tuple [n1, n2, n3, n4, t], u])).length = 1 + ((placesD m t).length + (placesD m u).length) := by
              show (_ :: ([t, u] : List D).flatMap (placesD m)).length = _
              simp
              omega
            omega
          refine ⟨20, t, rfl, good_le ht (by omega), by omega, ?_⟩
          walk_at "X"
          have z1 := z1 (go_going _)
          rw [show innerL (.tuple [.str "going", a, .tuple [n1, n2, n3, n4, t], u]) = (placesD 20 t).length from rfl] at z1
          rw [show decide (((placesD 20 t).length : Int) ≤ 16) = decide ((placesD 20 t).length ≤ 16) from decide_eq_decide.mpr (by omega)]
          exact z1
        · walk_at "X"
          exact z2 (go_let _)
        · walk_at "X"
          exact z2 (go_part _)
    walk_at "X"
    rw [bools_of (fun y => decide (innerL y ≤ 16)) _]
    walk_at "X"
    rw [slim_eq, ← fat_eq]
    unfold wholeD at h
    rw [decide_eq_true hc40, Bool.true_and] at h
    exact h
  | cons w W =>
    obtain ⟨n, g, y⟩ := w
    have hy := hW (n, g, y) (by simp)
    have hno : ∀ b : Bool, (b = true → 40 < many + costW ((n, g, y) :: W)) → b = true → wholeD x = false := fun b h1 h2 => by
      have h3 := h1 h2
      unfold wholeD
      rw [decide_eq_false (show ¬ costD 20 false x ≤ 40 from fun z => by have := hc.mpr z; omega)]
      rfl
    have hcons := costW_cons (n, g, y) W
    have hpos := cost_pos n g y
    rw [show (List.map toT ((n, g, y) :: W)).reverse = (W.map toT).reverse ++ [toT (n, g, y)] by simp]
    rw [show ((W.map toT).reverse ++ [toT (n, g, y)]).isEmpty = false by simp]
    rw [if_pos (show (!false) = true from rfl)]
    refine ⟨_, _, rfl, ?_⟩
    rw [show toT (n, g, y) = .tuple [y, .int (21 - (n : Int)), .int (if g = true then 1 else 0)] from rfl]
    walk_at "X"
    rw [opt_some]
    walk_at "X"
    have e20 : decide ((20 : Int) < 21 - (n : Int)) = decide (n = 0) := decide_eq_decide.mpr (by omega)
    have e40 : decide ((40 : Int) < (many : Int) + 1) = decide (many = 40) := decide_eq_decide.mpr (by omega)
    rw [e40]
    refine kOrT_or (c := decide (n = 0) || !formD y) (fun _ Q' q => ?_) ?_
    · walk_at "X"
      rw [e20]
      refine kOrT_or (c := !formD y) (fun _ Q2 q2 => ?_) q
      walk_at "X"
      refine ⟨y, rfl, hy.1, ?_⟩
      walk_at "X"
      exact q2
    refine kIfS_of (fun e => ?_) fun e => ?_
    · walk_at "X"
      rw [hno true (fun _ => by
        rw [hcons]
        show 40 < many + (costD n g y + costW W)
        rw [Bool.or_eq_true, Bool.or_eq_true, decide_eq_true_eq, decide_eq_true_eq] at e
        rcases e with e | e | e
        · have hpos : 1 ≤ costD n g y := hpos
          omega
        · subst e
          have : costD 0 g y = 100 := rfl
          omega
        · rw [cost_bad (n := n) (g := g) (x := y) (by rw [e]; rfl)]
          omega) rfl] at h
      exact h
    rw [Bool.or_eq_false_iff, Bool.or_eq_false_iff, decide_eq_false_iff_not, decide_eq_false_iff_not, Bool.not_eq_false'] at e
    obtain ⟨e1, e2, hf⟩ := e
    obtain ⟨n, rfl⟩ : ∃ n', n = n' + 1 := ⟨n - 1, by omega⟩
    obtain ⟨k, rfl⟩ : ∃ k', k = k' + 1 := ⟨k - 1, by omega⟩
    have fin : (isGoD y && g) = false → ∀ (ws : List D) (x3 x4 x5 x6 : SV), ws = ((pushW n g y ++ W).map toT).reverse → Wn [SV.d x, SV.d (.int ((many : Int) + 1)), .ol ws, x3, x4, x5, x6] τ := fun hg ws x3 x4 x5 x6 ew => by
      have hco := cost_ok (n := n) (g := g) (x := y) (by rw [hf, hg]; rfl)
      have hcons : costW ((n + 1, g, y) :: W) = costD (n + 1) g y + costW W := hcons
      refine hWn _ _ ⟨k, rfl, rfl, many + 1, pushW n g y ++ W, x3, x4, x5, x6, by omega, by omega, by rw [ew]; rfl, fun w hw => ?_, ?_, ?_⟩
      · rcases List.mem_append.mp hw with hw | hw
        · have hk : ∀ z ∈ kidsD y, PlA z := hy.1.kid
          have hn : n + 1 ≤ 20 := hy.2
          unfold pushW at hw
          split at hw
          · cases hw
          · rename_i z e
            rw [List.mem_singleton.mp hw]
            exact ⟨hk z (by rw [e]; simp), by show n ≤ 20; omega⟩
          · rename_i z z2 r e
            rcases List.mem_cons.mp hw with rfl | hw
            · exact ⟨hk z2 (by rw [e]; simp), by show n ≤ 20; omega⟩
            · rw [List.mem_singleton.mp hw]
              exact ⟨hk z (by rw [e]; simp), by show n ≤ 20; omega⟩
        · exact hW w (List.mem_cons_of_mem _ hw)
      · rw [← hc, hcons, hco, costW_app]
        omega
      · have : (pushW n g y).length ≤ 2 := by
          unfold pushW
          split <;> simp
        rw [List.length_cons] at hwl
        rw [List.length_append]
        omega
    rcases form_inv hf with ⟨a, rfl⟩ | ⟨a, n1, n2, n3, n4, t, u, rfl⟩ | ⟨a, b, c, t, rfl⟩ | ⟨a, b, c, t, u, rfl⟩
    · walk_at "X"
      refine ⟨_, rfl, hf, ?_⟩
      rw [show kidsD (.tuple [.str "tell", a]) = [] from rfl]
      walk_at "X"
      rw [List.length_cons] at hwl
      refine ⟨by rw [List.length_reverse, List.length_map, sizeLine_eq]; omega, ?_⟩
      exact fin rfl _ _ _ _ _ (by rw [List.append_nil]; rfl)
    · have hgo : isGoD (.tuple [.str "going", a, .tuple [n1, n2, n3, n4, t], u]) = true := go_going _
      rw [List.length_cons] at hwl
      walk_at "X"
      cases g with
      | true =>
        rw [if_pos rfl]
        walk_at "X"
        rw [hno true (fun _ => by
          rw [hcons]
          show 40 < many + (costD (n + 1) true _ + costW W)
          rw [cost_bad (n := n + 1) (g := true) (by rw [hf, hgo]; rfl)]
          omega) rfl] at h
        exact h
      | false =>
        rw [if_neg (by decide)]
        walk_at "X"
        refine ⟨by rw [List.length_reverse, List.length_map, sizeLine_eq]; omega, by rw [List.length_append, List.length_reverse, List.length_map, List.length_singleton, sizeLine_eq]; omega, ?_⟩
        rw [show (21 : Int) - ((n + 1 : Nat) : Int) + 1 = 21 - (n : Int) by omega]
        exact fin (by rw [Bool.and_false]) _ _ _ _ _ (by
          rw [show pushW n false (.tuple [.str "going", a, .tuple [n1, n2, n3, n4, t], u]) = [(n, false, u), (n, false || isGoD (.tuple [.str "going", a, .tuple [n1, n2, n3, n4, t], u]), t)] from rfl, hgo, Bool.false_or]
          simp [toT])
    · walk_at "X"
      refine ⟨_, rfl, hf, ?_⟩
      rw [show kidsD (.tuple [.str "let", a, b, c, t]) = [t] from rfl]
      walk_at "X"
      rw [lcW_c]
      walk_at "X"
      rw [List.length_cons] at hwl
      refine ⟨by rw [List.length_reverse, List.length_map, sizeLine_eq]; omega, ?_⟩
      have hgo : isGoD (.tuple [.str "let", a, b, c, t]) = false := go_let _
      rw [show (21 : Int) - ((n + 1 : Nat) : Int) + 1 = 21 - (n : Int) by omega]
      exact fin (by rw [hgo]; rfl) _ _ _ _ _ (by
        rw [show pushW n g (.tuple [.str "let", a, b, c, t]) = [(n, g, t)] from rfl]
        simp [toT])
    · walk_at "X"
      refine ⟨_, rfl, hf, ?_⟩
      rw [show kidsD (.tuple [.str "part", a, b, c, t, u]) = [t, u] from rfl]
      walk_at "X"
      rw [lcW_c]
      walk_at "X"
      rw [lcW_c]
      walk_at "X"
      rw [List.length_cons] at hwl
      refine ⟨by rw [List.length_reverse, List.length_map, sizeLine_eq]; omega, ?_⟩
      have hgo : isGoD (.tuple [.str "part", a, b, c, t, u]) = false := go_part _
      rw [show (21 : Int) - ((n + 1 : Nat) : Int) + 1 = 21 - (n : Int) by omega]
      exact fin (by rw [hgo]; rfl) _ _ _ _ _ (by
        rw [show pushW n g (.tuple [.str "part", a, b, c, t, u]) = [(n, g, u), (n, g || isGoD (.tuple [.str "part", a, b, c, t, u]), t)] from rfl, hgo, Bool.or_false]
        simp [toT])
theorem ok_is_program {f : Addr} {fd : FuncData} (T : Txt K mg ca) (F : Fun K "is_program" "is_program" s_is_program f fd) (k_is_param : Known P w K mg base (theT (Ts ca)) "is_param" ["thing"] 5 (FF_is_param)) (k_is_whole_term : Known P w K mg base (theT (Ts ca)) "is_whole_term" ["thing"] 6 (FF_is_whole_term)) (k_is_kind : Known P w K mg base (theT (Ts ca)) "is_kind" ["thing"] 4 (FF_is_kind)) :
    FnOk P w K mg base CX0 7 f fd ["thing"] (spD (theT (Ts ca)) K (FF_is_program)) := by
  refine okP F sc_is_program (by walk_at "v") (by decide) fun cdv A outer s H E G Fp hr => ⟨_, (dss_cons (ds_if (dt_w (dw_or (dt_not (dt_tru rfl (de_callB call_isi (cd_isi rfl) (by rfl) T.b_isinstance (by decide +kernel) (da_cons (de_var (pv 0)) (da_cons (de_ty (n := "tuple") (by rfl) T.b_tuple (by decide +kernel)) da_nil))))) (dw_or (dt_cmp (op_neA hr.units) (od_ne rfl) (de_callB call_len (cd_len rfl) (by rfl) T.b_len (by decide +kernel) (da_cons (de_var (pv 0)) da_nil)) de_int (nomark _)) (dw_or1 (dt_not (dt_tru rfl (de_callB call_isi (cd_isi rfl) (by rfl) T.b_isinstance (by decide +kernel) (da_cons (de_ix ix_A (od_ix rfl) (de_var (pv 0)) de_int (fun _ _ => rfl)) (da_cons (de_ty (n := "tuple") (by rfl) T.b_tuple (by decide +kernel)) da_nil)))))))))
        (dss_one (ds_ret de_bl))
        dss_nil)
      (dss_cons (ds_if (dt_w (dw_or (dt_cmp op_gtA od_cmp (de_callB call_len (cd_len rfl) (by rfl) T.b_len (by decide +kernel) (da_cons (de_ix ix_A (od_ix rfl) (de_var (pv 0)) de_int (fun _ _ => rfl)) da_nil)) (de_gint (by rfl) T.c_MOST_PARAMS) (nomark _)) (dw_or1 (dt_not (dt_tru rfl (de_callB (cr_all rfl) (cd_all rfl) (by rfl) T.b_all (by decide +kernel) (da_cons (de_lc (own := [("pair", 1)]) rfl sc_is_program.nd (di_seq rfl (de_ix ix_A (od_ix rfl) (de_var (pv 0)) de_int (fun _ _ => rfl))) (blkOk_by (by kernel_rfl)) (by decide) (fun _ _ _ _ _ => (dg_nm (i := 1) sc_is_program.nd rfl (by first | exact .inl rfl | exact .inr rfl))) (fun _ _ _ _ _ => dts_nil) (fun _ _ _ _ _ => (de_callK rfl k_is_param (hr.mono (by decide)) (by rfl) (da_cons (de_var (pv 1)) da_nil)))) da_nil)))))))
        (dss_one (ds_ret de_bl))
        dss_nil)
      (dss_one (ds_ret (de_and rfl (de_callK rfl k_is_kind (hr.mono (by decide)) (by rfl) (da_cons (de_ix ix_A (od_ix rfl) (de_var (pv 0)) de_int (fun _ _ => rfl)) da_nil)) (de_one (de_callK rfl k_is_whole_term (hr.mono (by decide)) (by rfl) (da_cons (de_ix ix_A (od_ix rfl) (de_var (pv 0)) de_int (fun _ _ => rfl)) da_nil)))))))), ?_⟩
  dsimp only [Bk.T, theT]
  rintro rs τ Q ⟨x, rfl, hx, h⟩
  walk_at "X"
  cases hx with
  | tup xs hx =>
    walk_at "X"
    match xs, hx, h with
    | [], hx, h => walk_at "X"; exact h
    | [a], hx, h => walk_at "X"; exact h
    | [a, b], hx, h => walk_at "X"; exact h
    | [a, b, c], hx, h =>
      have ha := hx a (by simp)
      have hb := hx b (by simp)
      have hc := hx c (by simp)
      walk_at "X"
      cases ha with
      | tup ps hp =>
        walk_at "X"
        have h : Q (.d (.bool ((decide (ps.length ≤ 4) && ps.all paramD) && (isKindD b && wholeD c)))) τ := h
        have e4 : decide ((4 : Int) < (ps.length : Int)) = !decide (ps.length ≤ 4) := by
          rw [Bool.eq_iff_iff, Bool.not_eq_true', decide_eq_true_eq, decide_eq_false_iff_not]
          omega
        rw [e4]
        refine kOrT_or (c := !ps.all paramD) (fun e Q' q => ?_) ?_
        · rw [Bool.not_eq_false', decide_eq_true_eq] at e
          walk_at "X"
          rw [show ps = ps.map (fun x : D => x) from (List.map_id _).symm]
          refine lc_mapA (fun x : D => x) (fun x => .bool (paramD x)) ps (fun x hx2 kc k0 z => ?_) (by rw [sizeLine_eq]; omega) ?_
          · walk_at "X"
            refine ⟨x, rfl, hp x hx2, ?_⟩
            walk_at "X"
            exact z
          walk_at "X"
          rw [bools_of paramD ps]
          walk_at "X"
          rw [all_id]
          try rw [List.map_id'] at q
          exact q
        refine kIfS_of (fun e => ?_) fun e => ?_
        · rw [← Bool.not_and, Bool.not_eq_true'] at e
          rw [e] at h
          walk_at "X"
          exact h
        rw [← Bool.not_and, Bool.not_eq_false'] at e
        rw [e, Bool.true_and] at h
        walk_at "X"
        refine ⟨b, rfl, hb.pl, ?_⟩
        walk_at "X"
        refine kAndB_and (c := wholeD c) (fun _ Q' q => ?_) (by walk_at "X"; exact h)
        walk_at "X"
        refine ⟨c, rfl, hc, ?_⟩
        walk_at "X"
        exact q
      | _ => walk_at "X"; exact h
    | a :: b :: c :: d :: t, hx, h =>
      walk_at "X"
      rw [decide_eq_false (show ¬ ((t.length + 1 + 1 + 1 + 1 : Nat) : Int) = 3 by omega)]
      walk_at "X"
      exact h
  | _ => walk_at "X"; exact h
theorem ok__law_wide (j : Nat) {f : Addr} {fd : FuncData} (T : Txt K mg ca) (F : Fun K "_law_wide" "_law_wide" s__law_wide f fd) (k__law_wide : KnownG P w K mg base (theT (Ts ca)) "_law_wide" ["_law_many_here"] (0 + 1 * j) (FF__law_wide_ j)) :
    FnG P w K mg base (0 + 1 * j + 1) f fd ["_law_many_here"] (spD (theT (Ts ca)) K (FF__law_wide_ (j + 1))) := by
  refine okG F sc__law_wide (by walk_at "v") (by decide) fun cdv A outer s H E G Fp hcd hr => ⟨_, (dss_cons (ds_if (dt_cmp op_ltA od_cmp (de_var (pv 0)) de_int (nomark _))
        (dss_one (ds_ret (de_ix ix_A (od_ix rfl) (de_lst (da_cons (de_tup (da_cons de_str (da_cons de_str da_nil))) (da_cons (de_tup (da_cons de_str (da_cons de_str (da_cons (de_tup (da_cons de_str da_nil)) (da_cons (de_tup (da_cons de_str da_nil)) (da_cons (de_tup (da_cons de_str (da_cons de_str da_nil))) da_nil)))))) da_nil))) (de_op op_sub od_I0 (de_var (pv 0)) de_int) (fun _ _ => rfl))))
        dss_nil)
      (dss_cons (ds_set (i := 1) sc__law_wide.nd rfl (by first | exact .inl rfl | exact .inr rfl) (de_op op_fdiv od_I (de_op op_sub od_I0 (de_var (pv 0)) de_int) de_int))
      (dss_one (ds_ret (de_tup (da_cons de_str (da_cons de_str (da_cons de_str (da_cons de_int (da_cons (de_callG rfl k__law_wide (hr.mono (by omega)) (by rfl) (da_cons (de_var (pv 1)) da_nil)) (da_cons (de_callG rfl k__law_wide (hr.mono (by omega)) (by rfl) (da_cons (de_op op_sub od_I0 (de_op op_sub od_I0 (de_var (pv 0)) de_int) (de_var (pv 1))) da_nil)) da_nil))))))))))), ?_⟩
  dsimp only [Bk.T, theT]
  rintro rs τ Q ⟨m, rfl, h1, h2, q⟩
  have e3 : decide ((m : Int) < 3) = decide (m < 3) := decide_eq_decide.mpr (by omega)
  walk_at "X"
  rw [e3]
  refine kIfS_of (fun e => ?_) fun e => ?_
  · have e := of_decide_eq_true e
    walk_at "X"
    refine kAt_of (by omega) (by simp; omega) fun z ez hz => ?_
    obtain ⟨z, rfl, hz2⟩ : ∃ y, z = y ∧ PlA y := by
      refine ⟨z, rfl, ?_⟩
      simp only [List.mem_cons, List.not_mem_nil, or_false] at hz
      rcases hz with rfl | rfl
      · exact letN_pla 0
      · exact letN_pla 1
    walk_at "X"
    exact q z hz2
  have e := of_decide_eq_false e
  walk_at "X"
  refine ⟨by unfold CDiv; simp, ?_⟩
  rw [show ((m : Int) - 1) / 2 = (((m - 1) / 2 : Nat) : Int) by omega]
  have hj : 1 ≤ j := by
    rcases Nat.eq_zero_or_pos j with z | z
    · subst z
      omega
    · exact z
  have hp : 2 ^ (j + 1) = 2 * 2 ^ j := by rw [Nat.pow_succ]; omega
  refine wide_call (by omega) (by omega) hj fun x hx => ?_
  walk_at "X"
  rw [show (m : Int) - 1 - (((m - 1) / 2 : Nat) : Int) = ((m - 1 - (m - 1) / 2 : Nat) : Int) by omega]
  refine wide_call (by omega) (by omega) hj fun y hy => ?_
  walk_at "X"
  exact q _ (.tup _ (six_in (lit_pla (by decide +kernel)) (lit_pla (by decide +kernel)) (lit_pla (by decide +kernel)) (.int _) hx hy))
theorem ok__law_far_right {f : Addr} {fd : FuncData} (T : Txt K mg ca) (F : Fun K "_law_far_right" "_law_far_right" s__law_far_right f fd) (k_is_program : Known P w K mg base (theT (Ts ca)) "is_program" ["thing"] 7 (FF_is_program)) :
    FnG P w K mg base 8 f fd [] (spD (theT (Ts ca)) K (FF__law_far_right)) := by
  refine okG F sc__law_far_right (by walk_at "v") (by decide) fun cdv A outer s H E G Fp hcd hr => ⟨_, (dss_cons (ds_asg (de_tup (da_cons (de_tup (da_cons (de_neg de_int) (da_cons de_int (da_cons de_int (da_cons de_int (da_cons de_bl (da_cons de_bl (da_cons de_bl (da_cons (de_neg de_int) (da_cons de_int da_nil)))))))))) (da_cons (de_tup (da_cons de_str (da_cons de_str da_nil))) (da_cons (de_tup (da_cons de_str (da_cons de_str da_nil))) da_nil)))) (dg_tp rfl rfl (dg_cons (dg_nm (i := 0) sc__law_far_right.nd rfl (by first | exact .inl rfl | exact .inr rfl)) (dg_cons (dg_nm (i := 1) sc__law_far_right.nd rfl (by first | exact .inl rfl | exact .inr rfl)) (dg_cons (dg_nm (i := 2) sc__law_far_right.nd rfl (by first | exact .inl rfl | exact .inr rfl)) dg_nil)))))
      (dss_cons (ds_for PassesOwn.never rfl (di_range1 (by rfl) T.b_range (da_cons de_int da_nil)) (dg_nm (i := 3) sc__law_far_right.nd rfl (by first | exact .inl rfl | exact .inr rfl))
        (dss_one (ds_set (i := 1) sc__law_far_right.nd rfl (by first | exact .inl rfl | exact .inr rfl) (de_tup (da_cons de_str (da_cons de_str (da_cons (de_tup (da_cons de_str da_nil)) (da_cons (de_tup (da_cons de_str da_nil)) (da_cons (de_var (pv 1)) da_nil)))))))))
      (dss_cons (ds_for PassesOwn.never rfl (di_range1 (by rfl) T.b_range (da_cons de_int da_nil)) (dg_nm (i := 3) sc__law_far_right.nd rfl (by first | exact .inl rfl | exact .inr rfl))
        (dss_one (ds_set (i := 2) sc__law_far_right.nd rfl (by first | exact .inl rfl | exact .inr rfl) (de_tup (da_cons de_str (da_cons de_str (da_cons de_str (da_cons de_int (da_cons (de_var (pv 2)) (da_cons (de_var (pv 2)) da_nil))))))))))
      (dss_cons (ds_set (i := 4) sc__law_far_right.nd rfl (by first | exact .inl rfl | exact .inr rfl) (de_lst (da_cons (de_var (pv 1)) (da_cons (de_var (pv 2)) (da_cons (de_tup (da_cons de_str (da_cons de_str (da_cons (de_tup (da_cons de_str (da_cons de_str (da_cons de_str (da_cons de_str (da_cons (de_var (pv 1)) da_nil)))))) (da_cons (de_tup (da_cons de_str (da_cons de_str da_nil))) da_nil))))) da_nil)))))
      (dss_cons (ds_app (ps_expr (pe_bm PySem.F.plainAttrs_list PySem.F.slot_list_append PySem.F.type_list_append mt_append (pv 4) (pa_cons (de_tup (da_cons de_str (da_cons de_str (da_cons (de_tup (da_cons de_str (da_cons de_str (da_cons de_str (da_cons de_str (da_cons (de_var (pv 2)) da_nil)))))) (da_cons (de_tup (da_cons de_str (da_cons de_str da_nil))) da_nil))))) pa_nil))))
      (dss_one (ds_frz (i := 4) (ds_ret (de_cmp (op_eq0 hr.units) (od_eq0 rfl) (de_lc (own := [("_law_term_here", 5)]) rfl sc__law_far_right.nd (di_seq rfl (de_var (pv 4))) (blkOk_by (by kernel_rfl)) (by decide) (fun _ _ _ _ _ => (dg_nm (i := 5) sc__law_far_right.nd rfl (by first | exact .inl rfl | exact .inr rfl))) (fun _ _ _ _ _ => (dts_one (dt_cmp op_notBl od_notB (de_callK rfl k_is_program (hr.r.mono (by decide)) (by rfl) (da_cons (de_tup (da_cons (de_tup (da_cons (de_tup (da_cons de_str (da_cons (de_var (pv 0)) da_nil))) da_nil)) (da_cons (de_var (pv 0)) (da_cons (de_var (pv 5)) da_nil)))) da_nil)) de_bl (nomark _)))) (fun _ _ _ _ _ => de_int)) (de_lst da_nil) (nomark _)))))))))), ?_⟩
  dsimp only [Bk.T, theT]
  rintro rs τ Q ⟨rfl, h⟩
  walk_at "X"
  refine ⟨by decide, ?_⟩
  refine for_inv (fun i env τ' => τ' = τ ∧ ∃ y x3, env = [.d allK.D, .d y, .d (.tuple [.str "tell", .str "x"]), x3, .no, .no] ∧ deepT i y) _ _ _ ⟨rfl, _, _, rfl, deepT_0 (letN_pla 0)⟩ ?_ ?_
  · rintro i v env τ ei ⟨rfl, y, x3, rfl, hy⟩ kn hkn
    obtain ⟨v, rfl⟩ := rgI_mem (List.mem_of_getElem? ei)
    walk_at "X"
    exact hkn _ _ ⟨rfl, _, _, rfl, deepT_let hy⟩
  rintro env τ ⟨rfl, L, x3, rfl, hL⟩
  rw [rgI_len] at hL
  walk_at "X"
  refine ⟨by decide, ?_⟩
  refine for_inv (fun i env τ' => τ' = τ ∧ ∃ y x3, env = [.d allK.D, .d L, .d y, x3, .no, .no] ∧ deepT i y) _ _ _ ⟨rfl, _, _, rfl, deepT_0 (letN_pla 0)⟩ ?_ ?_
  · rintro i v env τ ei ⟨rfl, y, x3, rfl, hy⟩ kn hkn
    obtain ⟨v, rfl⟩ := rgI_mem (List.mem_of_getElem? ei)
    walk_at "X"
    exact hkn _ _ ⟨rfl, _, _, rfl, deepT_part hy⟩
  rintro env τ ⟨rfl, M, x3, rfl, hM⟩
  rw [rgI_len] at hM
  have hL2 := deepT_going hL
  have hM2 := deepT_going hM
  dsimp only
  refine nx_seq (fun e τ' => τ' = τ ∧ e = [.d allK.D, .d L, .d M, x3, .ol [L, M, .tuple [.str "going", .str "y", .tuple [.str "x", .str "n", .str "a", .str "x", L], .tuple [.str "tell", .str "x"]]], .no]) (fun N q => ?_) ?_
  · walk_at "X"
    exact q _ _ ⟨rfl, rfl⟩
  rintro _ τ ⟨rfl, rfl⟩
  refine nx_seq (fun e τ' => τ' = τ ∧ e = [.d allK.D, .d L, .d M, x3, .ol [L, M, .tuple [.str "going", .str "y", .tuple [.str "x", .str "n", .str "a", .str "x", L], .tuple [.str "tell", .str "x"]], .tuple [.str "going", .str "y", .tuple [.str "x", .str "n", .str "a", .str "x", M], .tuple [.str "tell", .str "x"]]], .no]) (fun N q => ?_) ?_
  · walk_at "X"
    exact q _ _ ⟨rfl, rfl⟩
  rintro _ τ ⟨rfl, rfl⟩
  walk_at "X"
  rw [lcW_c]
  walk_at "X"
  refine ⟨_, rfl, (far_no hL (by omega)).1, ?_⟩
  rw [(far_no hL (by omega)).2]
  walk_at "X"
  refine gNotB_b ?_
  rw [show (!decide (false = false)) = false from rfl]
  walk_at "X"
  rw [lcW_c]
  walk_at "X"
  refine ⟨_, rfl, (far_no hM (by omega)).1, ?_⟩
  rw [(far_no hM (by omega)).2]
  walk_at "X"
  refine gNotB_b ?_
  rw [show (!decide (false = false)) = false from rfl]
  walk_at "X"
  rw [lcW_c]
  walk_at "X"
  refine ⟨_, rfl, (far_no hL2 (by omega)).1, ?_⟩
  rw [(far_no hL2 (by omega)).2]
  walk_at "X"
  refine gNotB_b ?_
  rw [show (!decide (false = false)) = false from rfl]
  walk_at "X"
  rw [lcW_c]
  walk_at "X"
  refine ⟨_, rfl, (far_no hM2 (by omega)).1, ?_⟩
  rw [(far_no hM2 (by omega)).2]
  walk_at "X"
  refine gNotB_b ?_
  rw [show (!decide (false = false)) = false from rfl]
  walk_at "X"
  exact h
theorem ok__law_long {f : Addr} {fd : FuncData} (T : Txt K mg ca) (F : Fun K "_law_long" "_law_long" s__law_long f fd) (k__law_wide : KnownG P w K mg base (theT (Ts ca)) "_law_wide" ["_law_many_here"] 8 (FF__law_wide)) :
    FnG P w K mg base 9 f fd ["_law_deep", "_law_many_here"] (spD (theT (Ts ca)) K (FF__law_long)) := by
  refine okG F sc__law_long (by walk_at "v") (by decide) fun cdv A outer s H E G Fp hcd hr => ⟨_, (dss_cons (ds_set (i := 2) sc__law_long.nd rfl (by first | exact .inl rfl | exact .inr rfl) (de_tup (da_cons de_str (da_cons de_str da_nil))))
      (dss_cons (ds_for PassesOwn.never rfl (di_range1 (by rfl) T.b_range (da_cons (de_op op_sub od_I0 (de_var (pv 0)) de_int) da_nil)) (dg_nm (i := 3) sc__law_long.nd rfl (by first | exact .inl rfl | exact .inr rfl))
        (dss_one (ds_if (dt_w (dw_and (dt_cmp op_gtA od_cmp (de_var (pv 1)) de_int (nomark _)) (dw_and1 (dt_cmp (op_eqA hr.units) (od_eq rfl) (de_op op_mod od_I (de_var (pv 3)) de_int) de_int (nomark _)))))
          (dss_one (ds_set (i := 2) sc__law_long.nd rfl (by first | exact .inl rfl | exact .inr rfl) (de_tup (da_cons de_str (da_cons de_str (da_cons (de_tup (da_cons de_str (da_cons de_str (da_cons de_str (da_cons de_str (da_cons (de_callG rfl k__law_wide (hr.mono (by decide)) (by rfl) (da_cons (de_var (pv 1)) da_nil)) da_nil)))))) (da_cons (de_var (pv 2)) da_nil)))))))
          (dss_one (ds_set (i := 2) sc__law_long.nd rfl (by first | exact .inl rfl | exact .inr rfl) (de_tup (da_cons de_str (da_cons de_str (da_cons (de_tup (da_cons de_str (da_cons (de_op op_sub od_I0 (de_var (pv 3)) de_int) da_nil))) (da_cons (de_tup (da_cons de_str da_nil)) (da_cons (de_var (pv 2)) da_nil)))))))))))
      (dss_one (ds_retR (dr_own (pv 2)))))), ?_⟩
  dsimp only [Bk.T, theT]
  rintro rs τ Q ⟨d, m, rfl, h1, h2, h3, q⟩
  walk_at "X"
  refine ⟨by omega, ?_⟩
  refine for_inv (fun i env τ' => τ' = τ ∧ ∃ y x3, PlA y ∧ env = [.d (.int (d : Nat)), .d (.int (m : Nat)), .d y, x3]) _ _ _ ⟨rfl, _, _, letN_pla 0, rfl⟩ ?_ ?_
  · rintro i y env _ ei ⟨rfl, z, x3, hz, rfl⟩ kn hkn
    obtain ⟨v, rfl⟩ := rgI_mem (List.mem_of_getElem? ei)
    walk_at "X"
    have go : PlA (.tuple [.str "let", .str "y", .tuple [.str "plus", .int (v - 9)], .tuple [.str "x"], z]) := .tup _ (five_in (lit_pla (by decide +kernel)) (lit_pla (by decide +kernel)) (.tup _ (two_in (lit_pla (by decide +kernel)) (.int _))) (.tup _ fun x hx => by rw [List.mem_singleton.mp hx]; exact lit_pla (by decide +kernel)) hz)
    refine kAndT_and (c := decide (v % 9 = 4)) (fun _ Q' q => ?_) ?_
    · walk_at "X"
      exact q
    refine kIfS_of (fun e => ?_) fun e => ?_
    · rw [Bool.and_eq_true, decide_eq_true_eq] at e
      walk_at "X"
      refine ⟨m, rfl, by omega, Nat.lt_of_le_of_lt h3 (by decide), fun w hw => ?_⟩
      walk_at "X"
      exact hkn _ _ ⟨rfl, _, _, .tup _ (four_in (lit_pla (by decide +kernel)) (lit_pla (by decide +kernel)) (.tup _ (five_in (lit_pla (by decide +kernel)) (lit_pla (by decide +kernel)) (lit_pla (by decide +kernel)) (lit_pla (by decide +kernel)) hw)) hz), rfl⟩
    · walk_at "X"
      exact hkn _ _ ⟨rfl, _, _, go, rfl⟩
  rintro env _ ⟨rfl, z, x3, hz, rfl⟩
  walk_at "X"
  exact q z hz
theorem ok__law_bounds {f : Addr} {fd : FuncData} (T : Txt K mg ca) (F : Fun K "_law_bounds" "_law_bounds" s__law_bounds f fd) (k__law_long : KnownG P w K mg base (theT (Ts ca)) "_law_long" ["_law_deep", "_law_many_here"] 9 (FF__law_long)) (k__law_next : Known P w K mg base (theT (Ts ca)) "_law_next" ["_law_draw", "_law_many_here"] 2 (FF_next)) (k__law_wide : KnownG P w K mg base (theT (Ts ca)) "_law_wide" ["_law_many_here"] 8 (FF__law_wide)) :
    FnG P w K mg base 10 f fd ["_law_draw"] (spD (theT (Ts ca)) K (FF__law_bounds)) := by
  refine okG F sc__law_bounds (by walk_at "v") (by decide) fun cdv A outer s H E G Fp hcd hr => ⟨_, (dss_cons (ds_set (i := 1) sc__law_bounds.nd rfl (by first | exact .inl rfl | exact .inr rfl) (de_tup (da_cons (de_neg de_int) (da_cons de_int (da_cons de_int (da_cons de_int (da_cons de_bl (da_cons de_bl (da_cons de_bl (da_cons (de_neg de_int) (da_cons de_int da_nil)))))))))))
      (dss_cons (ds_set (i := 2) sc__law_bounds.nd rfl (by first | exact .inl rfl | exact .inr rfl) (de_tup (da_cons de_str (da_cons de_str da_nil))))
      (dss_cons (ds_set (i := 3) sc__law_bounds.nd rfl (by first | exact .inl rfl | exact .inr rfl) (de_lst (da_cons (de_callG rfl k__law_wide (hr.mono (by decide)) (by rfl) (da_cons (de_op op_addA (od_add rfl) de_int (de_callK rfl k__law_next (hr.r.mono (by decide)) (by rfl) (da_cons (de_var (pv 0)) (da_cons de_int da_nil)))) da_nil)) (da_cons (de_callG rfl k__law_long (hr.mono (by decide)) (by rfl) (da_cons (de_op op_addA (od_add rfl) de_int (de_callK rfl k__law_next (hr.r.mono (by decide)) (by rfl) (da_cons (de_var (pv 0)) (da_cons de_int da_nil)))) (da_cons de_int da_nil))) da_nil))))
      (dss_cons (ds_set (i := 3) sc__law_bounds.nd rfl (by first | exact .inl rfl | exact .inr rfl) (de_op op_addA (od_add rfl) (de_var (pv 3)) (de_lst (da_cons (de_callG rfl k__law_long (hr.mono (by decide)) (by rfl) (da_cons de_int (da_cons (de_op op_addA (od_add rfl) de_int (de_callK rfl k__law_next (hr.r.mono (by decide)) (by rfl) (da_cons (de_var (pv 0)) (da_cons de_int da_nil)))) da_nil))) (da_cons (de_callG rfl k__law_long (hr.mono (by decide)) (by rfl) (da_cons (de_op op_addA (od_add rfl) de_int (de_callK rfl k__law_next (hr.r.mono (by decide)) (by rfl) (da_cons (de_var (pv 0)) (da_cons de_int da_nil)))) (da_cons de_int da_nil))) da_nil)))))
      (dss_cons (ds_set (i := 4) sc__law_bounds.nd rfl (by first | exact .inl rfl | exact .inr rfl) (de_tup (da_cons de_str (da_cons de_str (da_cons (de_tup (da_cons de_str (da_cons de_str (da_cons de_str (da_cons de_str (da_cons (de_var (pv 2)) da_nil)))))) (da_cons (de_var (pv 2)) da_nil))))))
      (dss_cons (ds_app (ps_expr (pe_bm PySem.F.plainAttrs_list PySem.F.slot_list_append PySem.F.type_list_append mt_append (pv 3) (pa_cons (de_tup (da_cons de_str (da_cons de_str (da_cons (de_tup (da_cons de_str (da_cons de_str (da_cons de_str (da_cons de_str (da_cons (de_var (pv 4)) da_nil)))))) (da_cons (de_var (pv 2)) da_nil))))) pa_nil))))
      (dss_cons (ds_app (ps_expr (pe_bm PySem.F.plainAttrs_list PySem.F.slot_list_append PySem.F.type_list_append mt_append (pv 3) (pa_cons (de_tup (da_cons de_str (da_cons de_str (da_cons (de_tup (da_cons de_str (da_cons de_str (da_cons de_str (da_cons de_str (da_cons (de_var (pv 2)) da_nil)))))) (da_cons (de_var (pv 4)) da_nil))))) pa_nil))))
      (dss_cons (ds_set (i := 5) sc__law_bounds.nd rfl (by first | exact .inl rfl | exact .inr rfl) (de_tup (da_cons de_str (da_cons de_str (da_cons (de_tup (da_cons de_str da_nil)) (da_cons (de_tup (da_cons de_str da_nil)) (da_cons (de_var (pv 4)) da_nil)))))))
      (dss_cons (ds_app (ps_expr (pe_bm PySem.F.plainAttrs_list PySem.F.slot_list_append PySem.F.type_list_append mt_append (pv 3) (pa_cons (de_tup (da_cons de_str (da_cons de_str (da_cons (de_tup (da_cons de_str (da_cons de_str (da_cons de_str (da_cons de_str (da_cons (de_var (pv 5)) da_nil)))))) (da_cons (de_var (pv 2)) da_nil))))) pa_nil))))
      (dss_cons (ds_set (i := 3) sc__law_bounds.nd rfl (by first | exact .inl rfl | exact .inr rfl) (de_op op_addA (od_add rfl) (de_var (pv 3)) (de_lst (da_cons (de_tup (da_cons de_str (da_cons de_str (da_cons de_str (da_cons (de_op op_addA (od_add rfl) (de_neg de_int) (de_callK rfl k__law_next (hr.r.mono (by decide)) (by rfl) (da_cons (de_var (pv 0)) (da_cons de_int da_nil)))) (da_cons (de_var (pv 2)) (da_cons (de_var (pv 2)) da_nil))))))) (da_cons (de_tup (da_cons de_str (da_cons de_str (da_cons de_str (da_cons de_int (da_cons (de_var (pv 2)) (da_cons (de_var (pv 2)) da_nil))))))) da_nil)))))
      (dss_cons (ds_app (ps_expr (pe_bm PySem.F.plainAttrs_list PySem.F.slot_list_append PySem.F.type_list_append mt_append (pv 3) (pa_cons (de_tup (da_cons de_str (da_cons de_str (da_cons de_str (da_cons (de_ix ix_A (od_ix rfl) (de_lst (da_cons de_int (da_cons (de_neg de_int) (da_cons (de_neg de_int) da_nil)))) (de_callK rfl k__law_next (hr.r.mono (by decide)) (by rfl) (da_cons (de_var (pv 0)) (da_cons de_int da_nil))) (fun _ _ => rfl)) (da_cons (de_var (pv 2)) (da_cons (de_var (pv 2)) da_nil))))))) pa_nil))))
      (dss_cons (ds_frz (i := 3) (ds_setLc (i := 6) (own := [("_law_term_here", 7)]) rfl sc__law_bounds.nd rfl rfl (sw_true rfl rfl rfl (by decide +kernel)) (di_seq rfl (de_var (pv 3))) (blkOk_by (by kernel_rfl)) (by decide) (fun _ _ _ _ _ => (dg_nm (i := 7) sc__law_bounds.nd rfl (by first | exact .inl rfl | exact .inr rfl))) (fun _ _ _ _ _ => dts_nil) (fun _ _ _ _ _ => (de_tup (da_cons (de_tup (da_cons (de_tup (da_cons de_str (da_cons (de_var (pv 1)) da_nil))) da_nil)) (da_cons (de_var (pv 1)) (da_cons (de_var (pv 7)) da_nil)))))))
      (dss_cons (ds_app (ps_expr (pe_bm PySem.F.plainAttrs_list PySem.F.slot_list_append PySem.F.type_list_append mt_append (pv 6) (pa_cons (de_tup (da_cons (de_op op_mulT (od_mulTM rfl) (de_tup (da_cons (de_tup (da_cons de_str (da_cons (de_var (pv 1)) da_nil))) da_nil)) (de_op op_addA (od_add rfl) de_int (de_callK rfl k__law_next (hr.r.mono (by decide)) (by rfl) (da_cons (de_var (pv 0)) (da_cons de_int da_nil))))) (da_cons (de_var (pv 1)) (da_cons (de_var (pv 2)) da_nil)))) pa_nil))))
      (dss_one (ds_ret (de_op op_addA (od_add rfl) (de_var (pv 6)) (de_lst (da_cons (de_tup (da_cons (de_tup da_nil) (da_cons (de_var (pv 1)) (da_cons (de_var (pv 2)) da_nil)))) (da_cons (de_tup (da_cons (de_tup da_nil) (da_cons (de_var (pv 1)) da_nil))) (da_cons (de_tup (da_cons (de_tup da_nil) (da_cons (de_var (pv 1)) (da_cons (de_var (pv 2)) (da_cons (de_tup da_nil) da_nil))))) da_nil)))))))))))))))))))), ?_⟩
  dsimp only [Bk.T, theT]
  rintro rs τ Q ⟨a, b, cs, rfl, rfl, hb, q⟩
  have hu := usual_pla
  have hle := letN_pla 0
  refine sq_seq (fun e τ' => τ' = ⟨.on a b, cs⟩ ∧ e = [.raw (.ref a), .d allK.D, .no, .no, .no, .no, .no, .no]) (fun N h => ?_) ?_
  · walk_at "X"
    exact h _ _ ⟨rfl, rfl⟩
  rintro _ _ ⟨rfl, rfl⟩
  refine sq_seq (fun e τ' => τ' = ⟨.on a b, cs⟩ ∧ e = [.raw (.ref a), .d allK.D, .d (letN 0), .no, .no, .no, .no, .no]) (fun N h => ?_) ?_
  · walk_at "X"
    exact h _ _ ⟨rfl, rfl⟩
  rintro _ _ ⟨rfl, rfl⟩
  generalize letN 0 = lf at hle ⊢
  refine sq_seq (fun e τ' => ∃ b2 x y, PlA x ∧ PlA y ∧ b ≤ b2 + 2 ∧ τ' = ⟨.on a b2, cs⟩ ∧ e = [.raw (.ref a), .d allK.D, .d lf, .ol [x, y], .no, .no, .no, .no]) (fun N h => ?_) ?_
  · walk_at "X"
    refine nextT (by omega) (by decide) (by decide) fun n0 a0 b0 => ?_
    walk_at "X"
    rw [show (39 : Int) + n0 = ((39 + n0.toNat : Nat) : Int) by omega]
    refine wide_call (by omega) (by have : n0.toNat < 4 := by omega
                                    show _ < 256
                                    omega) (by decide) fun x hx => ?_
    walk_at "X"
    refine nextT (by omega) (by decide) (by decide) fun n1 a1 b1 => ?_
    walk_at "X"
    refine ⟨19 + n1.toNat, 0, by rw [show (19 : Int) + n1 = ((19 + n1.toNat : Nat) : Int) by omega]; rfl, by omega, by omega, by omega, fun y hy => ?_⟩
    walk_at "X"
    exact h _ _ ⟨_, x, y, hx, hy, by omega, rfl, rfl⟩
  rintro _ _ ⟨b2, x1, x2, hx1, hx2, hb2, rfl, rfl⟩
  refine sq_seq (fun e τ' => ∃ b3 y z, PlA y ∧ PlA z ∧ b ≤ b3 + 4 ∧ τ' = ⟨.on a b3, cs⟩ ∧ e = [.raw (.ref a), .d allK.D, .d lf, .ol [x1, x2, y, z], .no, .no, .no, .no]) (fun N h => ?_) ?_
  · walk_at "X"
    refine nextT (by omega) (by decide) (by decide) fun n0 a0 b0 => ?_
    walk_at "X"
    refine ⟨6, 15 + n0.toNat, by rw [show (15 : Int) + n0 = ((15 + n0.toNat : Nat) : Int) by omega]; rfl, by omega, by omega, by omega, fun y hy => ?_⟩
    walk_at "X"
    refine nextT (by omega) (by decide) (by decide) fun n1 a1 b1 => ?_
    walk_at "X"
    refine ⟨19 + n1.toNat, 1, by rw [show (19 : Int) + n1 = ((19 + n1.toNat : Nat) : Int) by omega]; rfl, by omega, by omega, by omega, fun z hz => ?_⟩
    walk_at "X"
    exact h _ _ ⟨_, y, z, hy, hz, by omega, rfl, rfl⟩
  rintro _ _ ⟨b3, x3, x4, hx3, hx4, hb3, rfl, rfl⟩
  have h4 : ∀ y ∈ [x1, x2, x3, x4], PlA y := four_in hx1 hx2 hx3 hx4
  have hl4 : ([x1, x2, x3, x4] : List D).length = 4 := rfl
  generalize ([x1, x2, x3, x4] : List D) = ys at h4 hl4 ⊢
  refine sq_seq (fun e τ' => ∃ go, PlA go ∧ τ' = ⟨.on a b3, cs⟩ ∧ e = [.raw (.ref a), .d allK.D, .d lf, .ol ys, .d go, .no, .no, .no]) (fun N h => ?_) ?_
  · walk_at "X"
    exact h _ _ ⟨_, by (repeat (first | assumption | exact lit_pla (by decide +kernel) | exact PlA.int _ | exact pl_nil | refine pl_cons ?_ ?_)), rfl, rfl⟩
  rintro _ _ ⟨go, hgo, rfl, rfl⟩
  refine sq_seq (fun e τ' => ∃ ys : List D, ys.length = 5 ∧ (∀ y ∈ ys, PlA y) ∧ τ' = ⟨.on a b3, cs⟩ ∧ e = [.raw (.ref a), .d allK.D, .d lf, .ol ys, .d go, .no, .no, .no]) (fun N h => ?_) ?_
  · walk_at "X"
    refine ⟨by rw [sizeLine_eq]; omega, ?_⟩
    exact h _ _ ⟨_, by rw [List.length_append, hl4]; rfl, all_snoc28 h4 (by (repeat (first | assumption | exact lit_pla (by decide +kernel) | exact PlA.int _ | exact pl_nil | refine pl_cons ?_ ?_))), rfl, rfl⟩
  clear h4 hl4
  rintro _ _ ⟨ys, hl4, h4, rfl, rfl⟩
  refine sq_seq (fun e τ' => ∃ ys : List D, ys.length = 6 ∧ (∀ y ∈ ys, PlA y) ∧ τ' = ⟨.on a b3, cs⟩ ∧ e = [.raw (.ref a), .d allK.D, .d lf, .ol ys, .d go, .no, .no, .no]) (fun N h => ?_) ?_
  · walk_at "X"
    refine ⟨by rw [sizeLine_eq]; omega, ?_⟩
    exact h _ _ ⟨_, by rw [List.length_append, hl4]; rfl, all_snoc28 h4 (by (repeat (first | assumption | exact lit_pla (by decide +kernel) | exact PlA.int _ | exact pl_nil | refine pl_cons ?_ ?_))), rfl, rfl⟩
  clear h4 hl4
  rintro _ _ ⟨ys, hl4, h4, rfl, rfl⟩
  refine sq_seq (fun e τ' => ∃ lt, PlA lt ∧ τ' = ⟨.on a b3, cs⟩ ∧ e = [.raw (.ref a), .d allK.D, .d lf, .ol ys, .d go, .d lt, .no, .no]) (fun N h => ?_) ?_
  · walk_at "X"
    exact h _ _ ⟨_, by (repeat (first | assumption | exact lit_pla (by decide +kernel) | exact PlA.int _ | exact pl_nil | refine pl_cons ?_ ?_)), rfl, rfl⟩
  rintro _ _ ⟨lt, hlt, rfl, rfl⟩
  refine sq_seq (fun e τ' => ∃ ys : List D, ys.length = 7 ∧ (∀ y ∈ ys, PlA y) ∧ τ' = ⟨.on a b3, cs⟩ ∧ e = [.raw (.ref a), .d allK.D, .d lf, .ol ys, .d go, .d lt, .no, .no]) (fun N h => ?_) ?_
  · walk_at "X"
    refine ⟨by rw [sizeLine_eq]; omega, ?_⟩
    exact h _ _ ⟨_, by rw [List.length_append, hl4]; rfl, all_snoc28 h4 (by (repeat (first | assumption | exact lit_pla (by decide +kernel) | exact PlA.int _ | exact pl_nil | refine pl_cons ?_ ?_))), rfl, rfl⟩
  clear h4 hl4
  rintro _ _ ⟨ys, hl4, h4, rfl, rfl⟩
  refine sq_seq (fun e τ' => ∃ (ys : List D) (b4 : Nat), b3 ≤ b4 + 1 ∧ ys.length = 9 ∧ (∀ y ∈ ys, PlA y) ∧ τ' = ⟨.on a b4, cs⟩ ∧ e = [.raw (.ref a), .d allK.D, .d lf, .ol ys, .d go, .d lt, .no, .no]) (fun N h => ?_) ?_
  · walk_at "X"
    refine nextT (by omega) (by decide) (by decide) fun n0 a0 b0 => ?_
    walk_at "X"
    refine ⟨by rw [sizeLine_eq]; omega, ?_⟩
    refine h _ _ ⟨_, _, by omega, by rw [List.length_append, hl4]; rfl, fun y hy => ?_, rfl, rfl⟩
    rcases List.mem_append.mp hy with hy | hy
    · exact h4 y hy
    · exact two_in (P := PlA) (by (repeat (first | assumption | exact lit_pla (by decide +kernel) | exact PlA.int _ | exact pl_nil | refine pl_cons ?_ ?_))) (by (repeat (first | assumption | exact lit_pla (by decide +kernel) | exact PlA.int _ | exact pl_nil | refine pl_cons ?_ ?_))) y hy
  clear h4 hl4
  rintro _ _ ⟨ys, b4, hb4, hl4, h4, rfl, rfl⟩
  refine sq_seq (fun e τ' => ∃ (ys : List D) (b4 : Nat), b3 ≤ b4 + 2 ∧ ys.length = 10 ∧ (∀ y ∈ ys, PlA y) ∧ τ' = ⟨.on a b4, cs⟩ ∧ e = [.raw (.ref a), .d allK.D, .d lf, .ol ys, .d go, .d lt, .no, .no]) (fun N h => ?_) ?_
  · walk_at "X"
    refine nextT (by omega) (by decide) (by decide) fun n0 a0 b0 => ?_
    walk_at "X"
    refine kAt_of a0 (by simpa using b0) fun z ez hz => ?_
    obtain ⟨v, rfl⟩ : ∃ v : Int, z = .int v := by
      simp only [List.mem_cons, List.not_mem_nil, or_false] at hz
      rcases hz with rfl | rfl | rfl <;> exact ⟨_, rfl⟩
    walk_at "X"
    refine ⟨by rw [sizeLine_eq]; omega, ?_⟩
    exact h _ _ ⟨_, _, by omega, by rw [List.length_append, hl4]; rfl, all_snoc28 h4 (by (repeat (first | assumption | exact lit_pla (by decide +kernel) | exact PlA.int _ | exact pl_nil | refine pl_cons ?_ ?_))), rfl, rfl⟩
  clear h4 hl4 hb4
  rintro _ _ ⟨ys, b4, hb4, hl4, h4, rfl, rfl⟩
  refine sq_seq (fun e τ' => ∃ zs : List D, zs.length = 10 ∧ (∀ y ∈ zs, PlA y) ∧ τ' = ⟨.on a b4, cs⟩ ∧ e = [.raw (.ref a), .d allK.D, .d lf, .d (.list ys), .d go, .d lt, .ol zs, .no]) (fun N h => ?_) ?_
  · walk_at "X"
    refine lc_inv (fun j acc τ => τ = ⟨.on a b4, cs⟩ ∧ acc.length = j ∧ ∀ y ∈ acc, PlA y) _ _ ⟨rfl, rfl, nofun⟩ ?_ (by rw [sizeLine_eq]; omega) ?_
    · rintro j x acc τ ej ⟨rfl, hl, hc⟩ ha kc k0 h1 h2
      have hx := h4 x (List.mem_of_getElem? ej)
      walk_at "X"
      exact h1 _ _ ⟨rfl, by rw [List.length_append, hl]; rfl, all_snoc28 hc (by (repeat (first | assumption | exact lit_pla (by decide +kernel) | exact PlA.int _ | exact pl_nil | refine pl_cons ?_ ?_)))⟩
    rintro acc τ ⟨rfl, hl, hc⟩
    walk_at "X"
    exact h _ _ ⟨acc, by omega, hc, rfl, rfl⟩
  rintro _ _ ⟨zs, hzl, hz, rfl, rfl⟩
  refine sq_seq (fun e τ' => ∃ (us : List D) (b5 : Nat), b4 ≤ b5 + 1 ∧ us.length = 11 ∧ (∀ y ∈ us, PlA y) ∧ τ' = ⟨.on a b5, cs⟩ ∧ e = [.raw (.ref a), .d allK.D, .d lf, .d (.list ys), .d go, .d lt, .ol us, .no]) (fun N h => ?_) ?_
  · walk_at "X"
    refine nextT (by omega) (by decide) (by decide) fun n0 a0 b0 => ?_
    walk_at "X"
    refine ⟨_, 3 + n0, rfl, rfl, by simp, by omega, by simp, ?_⟩
    walk_at "X"
    refine ⟨by rw [sizeLine_eq]; omega, ?_⟩
    have hR : PlA (.tuple (List.replicate (3 + n0).toNat [PyData.tuple [PyData.str (Str.ofString "x"), allK.D]]).flatten) := .tup _ fun y hy => by
      rw [List.mem_singleton.mp (rep_mem hy)]
      (repeat (first | assumption | exact lit_pla (by decide +kernel) | exact PlA.int _ | exact pl_nil | refine pl_cons ?_ ?_))
    exact h _ _ ⟨_, _, by omega, by rw [List.length_append, hzl]; rfl, all_snoc28 hz (by (repeat (first | assumption | exact lit_pla (by decide +kernel) | exact PlA.int _ | exact pl_nil | refine pl_cons ?_ ?_))), rfl, rfl⟩
  rintro _ _ ⟨us, b5, hb5, hul, hu2, rfl, rfl⟩
  walk_at "X"
  refine ⟨by rw [sizeLine_eq]; omega, ?_⟩
  refine q _ b5 (by omega) (by rw [List.length_append, hul]; simp) fun y hy => ?_
  rcases List.mem_append.mp hy with hy | hy
  · exact hu2 y hy
  · exact three_in (P := PlA) (by (repeat (first | assumption | exact lit_pla (by decide +kernel) | exact PlA.int _ | exact pl_nil | refine pl_cons ?_ ?_))) (by (repeat (first | assumption | exact lit_pla (by decide +kernel) | exact PlA.int _ | exact pl_nil | refine pl_cons ?_ ?_))) (by (repeat (first | assumption | exact lit_pla (by decide +kernel) | exact PlA.int _ | exact pl_nil | refine pl_cons ?_ ?_))) y hy
theorem ok__law_places (j : Nat) {f : Addr} {fd : FuncData} (T : Txt K mg ca) (F : Fun K "_law_places" "_law_places" s__law_places f fd) (k__law_within : KnownG P w K mg base (theT (Ts ca)) "_law_within" ["_law_term_here"] 1 (FF__law_within)) (k__law_places : KnownG P w K mg base (theT (Ts ca)) "_law_places" ["_law_term_here"] (1 + 1 * j) (FF__law_places_ j)) :
    FnG P w K mg base (1 + 1 * j + 1) f fd ["_law_term_here"] (spD (theT (Ts ca)) K (FF__law_places_ (j + 1))) := by
  refine okG F sc__law_places (by walk_at "v") (by decide) fun cdv A outer s H E G Fp hcd hr => ⟨_, (dss_cons (ds_set (i := 1) sc__law_places.nd rfl (by first | exact .inl rfl | exact .inr rfl) (de_lst (da_cons (de_var (pv 0)) da_nil)))
      (dss_cons (ds_for PassesOwn.never rfl (di_seq rfl (de_callG rfl k__law_within (hr.mono (by omega)) (by rfl) (da_cons (de_var (pv 0)) da_nil))) (dg_nm (i := 2) sc__law_places.nd rfl (by first | exact .inl rfl | exact .inr rfl))
        (dss_one (ds_set (i := 1) sc__law_places.nd rfl (by first | exact .inl rfl | exact .inr rfl) (de_op op_addA (od_add rfl) (de_var (pv 1)) (de_callG rfl k__law_places (hr.mono (by omega)) (by rfl) (da_cons (de_var (pv 2)) da_nil))))))
      (dss_one (ds_retR (dr_own (pv 1)))))), ?_⟩
  dsimp only [Bk.T, theT]
  rintro rs τ Q ⟨n, x, rfl, hg, hn, hl, h⟩
  cases n with
  | zero => cases hg
  | succ n =>
    obtain ⟨hf, hg⟩ := good_succ.mp hg
    walk_at "X"
    refine ⟨x, rfl, hf, ?_⟩
    walk_at "X"
    refine for_inv (fun i env τ' => τ' = τ ∧ ∃ x2, env = [.d x, .ol (x :: ((kidsD x).take i).flatMap (placesD n)), x2]) (kidsD x) _ _ ⟨rfl, _, rfl⟩ ?_ ?_
    · rintro i y env _ ei ⟨rfl, x2, rfl⟩ kn hkn
      have hy := List.mem_of_getElem? ei
      have hly : ((kidsD x).flatMap (placesD n)).length + 1 ≤ 1000 := hl
      have hle : (((kidsD x).take (i + 1)).flatMap (placesD n)).length ≤ ((kidsD x).flatMap (placesD n)).length := fm_take _ _ _
      have hadd : ((kidsD x).take (i + 1)).flatMap (placesD n) = ((kidsD x).take i).flatMap (placesD n) ++ placesD n y := by
        rw [List.take_add_one, ei, List.flatMap_append]
        simp
      rw [hadd, List.length_append] at hle
      walk_at "X"
      refine places_call hn (hg y hy) (by omega) ?_
      walk_at "X"
      refine ⟨by rw [sizeLine_eq]; omega, ?_⟩
      refine hkn _ _ ⟨rfl, .d y, ?_⟩
      rw [hadd]
    rintro env _ ⟨rfl, x2, rfl⟩
    rw [List.take_length]
    walk_at "X"
    exact h
theorem ok__law_term (j : Nat) {f : Addr} {fd : FuncData} (T : Txt K mg ca) (F : Fun K "_law_term" "_law_term" s__law_term f fd) (k__law_next : Known P w K mg base (theT (Ts ca)) "_law_next" ["_law_draw", "_law_many_here"] 2 (FF_next)) (k__law_one : KnownG P w K mg base (theT (Ts ca)) "_law_one" ["_law_draw", "_law_known"] 3 (FF__law_one)) (k__law_term : KnownG P w K mg base (theT (Ts ca)) "_law_term" ["_law_draw", "_law_room", "_law_deep", "_law_known", "_law_fresh", "_law_is_inner"] (3 + 1 * j) (FF__law_term_ j)) (k__law_deed : KnownG P w K mg base (theT (Ts ca)) "_law_deed" ["_law_draw", "_law_many_here"] 3 (FF__law_deed)) :
    FnG P w K mg base (3 + 1 * j + 1) f fd ["_law_draw", "_law_room", "_law_deep", "_law_known", "_law_fresh", "_law_is_inner"] (spD (theT (Ts ca)) K (FF__law_term_ (j + 1))) := by
  refine okG F sc__law_term (by walk_at "v") (by decide) fun cdv A outer s H E G Fp hcd hr => ⟨_, (dss_cons (ds_setC (ps_asg (de_op op_sub od_I0 (de_ixC (pe_ix ix_A (de_var (pv 1)) de_int (fun _ _ => rfl))) de_int) (pg_sub (de_var (pv 1)) de_int set_list)))
      (dss_cons (ds_set (i := 6) sc__law_term.nd rfl (by first | exact .inl rfl | exact .inr rfl) (de_if (dt_w (dw_and (dt_cmp op_gtA od_cmp (de_ixC (pe_ix ix_A (de_var (pv 1)) de_int (fun _ _ => rfl))) de_int (nomark _)) (dw_and (dt_cmp op_ltA od_cmp (de_var (pv 2)) de_int (nomark _)) (dw_and1 (dt_cmp op_gtA od_cmp (de_lenC rfl (pe_callB call_len (by rfl) T.b_len (by decide +kernel) (pa_cons (de_var (pv 4)) pa_nil))) de_int (nomark _)))))) (de_callK rfl k__law_next (hr.r.mono (by omega)) (by rfl) (da_cons (de_var (pv 0)) (da_cons de_int da_nil))) de_int))
      (dss_cons (ds_if (dt_cmp (op_eqA hr.units) (od_eq rfl) (de_var (pv 6)) de_int (nomark _))
        (dss_one (ds_ret (de_tup (da_cons de_str (da_cons (de_callG rfl k__law_one (hr.mono (by omega)) (by rfl) (da_cons (de_var (pv 0)) (da_cons (de_var (pv 3)) da_nil))) da_nil)))))
        dss_nil)
      (dss_cons (ds_if (dt_w (dw_and (dt_cmp op_gtA od_cmp (de_var (pv 6)) de_int (nomark _)) (dw_and1 (dt_not (dt_tru rfl (de_var (pv 5)))))))
        (dss_cons (ds_par3 (i := 7) (j := 8) (l := 9) rfl sc__law_term.nd rfl rfl rfl (by decide) (by decide) (by decide) rfl rfl rfl (da_cons (de_popC (pe_bm0 PySem.F.plainAttrs_list PySem.F.slot_list_pop PySem.F.type_list_pop mt_pop (de_var (pv 4)))) (da_cons (de_popC (pe_bm0 PySem.F.plainAttrs_list PySem.F.slot_list_pop PySem.F.type_list_pop mt_pop (de_var (pv 4)))) (da_cons (de_popC (pe_bm0 PySem.F.plainAttrs_list PySem.F.slot_list_pop PySem.F.type_list_pop mt_pop (de_var (pv 4)))) da_nil))) rfl)
        (dss_cons (ds_par (i := 10) (j := 11) rfl sc__law_term.nd rfl rfl (by decide) rfl rfl (da_cons (de_callG rfl k__law_one (hr.mono (by omega)) (by rfl) (da_cons (de_var (pv 0)) (da_cons (de_var (pv 3)) da_nil))) (da_cons (de_callG rfl k__law_one (hr.mono (by omega)) (by rfl) (da_cons (de_var (pv 0)) (da_cons (de_var (pv 3)) da_nil))) da_nil)) rfl)
        (dss_cons (ds_set (i := 12) sc__law_term.nd rfl (by first | exact .inl rfl | exact .inr rfl) (de_callG rfl k__law_term (hr.mono (by omega)) (by rfl) (da_cons (de_var (pv 0)) (da_cons (de_cel (de_lst (da_cons (de_callK rfl k__law_next (hr.r.mono (by omega)) (by rfl) (da_cons (de_var (pv 0)) (da_cons de_int da_nil))) da_nil))) (da_cons (de_op op_addA (od_add rfl) (de_var (pv 2)) de_int) (da_cons (de_op op_addA (od_add rfl) (de_var (pv 3)) (de_lst (da_cons (de_var (pv 8)) (da_cons (de_var (pv 9)) da_nil)))) (da_cons (de_var (pv 4)) (da_cons de_bl da_nil))))))))
        (dss_cons (ds_set (i := 13) sc__law_term.nd rfl (by first | exact .inl rfl | exact .inr rfl) (de_callG rfl k__law_term (hr.mono (by omega)) (by rfl) (da_cons (de_var (pv 0)) (da_cons (de_var (pv 1)) (da_cons (de_op op_addA (od_add rfl) (de_var (pv 2)) de_int) (da_cons (de_op op_addA (od_add rfl) (de_var (pv 3)) (de_lst (da_cons (de_var (pv 7)) da_nil))) (da_cons (de_var (pv 4)) (da_cons de_bl da_nil))))))))
        (dss_one (ds_ret (de_tup (da_cons de_str (da_cons (de_var (pv 7)) (da_cons (de_tup (da_cons (de_var (pv 10)) (da_cons (de_var (pv 8)) (da_cons (de_var (pv 9)) (da_cons (de_var (pv 11)) (da_cons (de_var (pv 12)) da_nil)))))) (da_cons (de_var (pv 13)) da_nil)))))))))))
        dss_nil)
      (dss_cons (ds_if (dt_cmp op_gtA od_cmp (de_var (pv 6)) de_int (nomark _))
        (dss_cons (ds_set (i := 14) sc__law_term.nd rfl (by first | exact .inl rfl | exact .inr rfl) (de_ix ix_A (od_ix rfl) (de_lst (da_cons de_str (da_cons de_str da_nil))) (de_callK rfl k__law_next (hr.r.mono (by omega)) (by rfl) (da_cons (de_var (pv 0)) (da_cons de_int da_nil))) (fun _ _ => rfl)))
        (dss_cons (ds_set (i := 8) sc__law_term.nd rfl (by first | exact .inl rfl | exact .inr rfl) (de_ix ix_A (od_ix rfl) (de_lst (da_cons (de_callK rfl k__law_next (hr.r.mono (by omega)) (by rfl) (da_cons (de_var (pv 0)) (da_cons de_int da_nil))) (da_cons (de_op op_sub od_I0 (de_callK rfl k__law_next (hr.r.mono (by omega)) (by rfl) (da_cons (de_var (pv 0)) (da_cons de_int da_nil))) de_int) da_nil))) (de_callTy call_intA cd_int (by rfl) T.b_int (by decide +kernel) (da_cons (de_cmp (op_eqA hr.units) (od_eq rfl) (de_var (pv 14)) de_str (nomark _)) da_nil)) (fun _ _ => rfl)))
        (dss_cons (ds_set (i := 15) sc__law_term.nd rfl (by first | exact .inl rfl | exact .inr rfl) (de_callG rfl k__law_term (hr.mono (by omega)) (by rfl) (da_cons (de_var (pv 0)) (da_cons (de_var (pv 1)) (da_cons (de_op op_addA (od_add rfl) (de_var (pv 2)) de_int) (da_cons (de_var (pv 3)) (da_cons (de_var (pv 4)) (da_cons (de_var (pv 5)) da_nil))))))))
        (dss_cons (ds_set (i := 7) sc__law_term.nd rfl (by first | exact .inl rfl | exact .inr rfl) (de_callG rfl k__law_one (hr.mono (by omega)) (by rfl) (da_cons (de_var (pv 0)) (da_cons (de_var (pv 3)) da_nil))))
        (dss_one (ds_ret (de_tup (da_cons de_str (da_cons (de_var (pv 7)) (da_cons (de_var (pv 14)) (da_cons (de_var (pv 8)) (da_cons (de_var (pv 15)) (da_cons (de_callG rfl k__law_term (hr.mono (by omega)) (by rfl) (da_cons (de_var (pv 0)) (da_cons (de_var (pv 1)) (da_cons (de_op op_addA (od_add rfl) (de_var (pv 2)) de_int) (da_cons (de_var (pv 3)) (da_cons (de_var (pv 4)) (da_cons (de_var (pv 5)) da_nil))))))) da_nil)))))))))))))
        dss_nil)
      (dss_cons (ds_set (i := 16) sc__law_term.nd rfl (by first | exact .inl rfl | exact .inr rfl) (de_op op_addA (od_add rfl) de_int (de_callK rfl k__law_next (hr.r.mono (by omega)) (by rfl) (da_cons (de_var (pv 0)) (da_cons de_int da_nil)))))
      (dss_cons (ds_set (i := 17) sc__law_term.nd rfl (by first | exact .inl rfl | exact .inr rfl) (de_callTy call_tuple_of (cd_tuple rfl) (by rfl) T.b_tuple (by decide +kernel) (da_cons (de_lc (own := [("_law_k", 18)]) rfl sc__law_term.nd (di_range1 (by rfl) T.b_range (da_cons (de_var (pv 16)) da_nil)) (blkOk_by (by kernel_rfl)) (by decide) (fun _ _ _ _ _ => (dg_nm (i := 18) sc__law_term.nd rfl (by first | exact .inl rfl | exact .inr rfl))) (fun _ _ _ _ _ => dts_nil) (fun _ _ _ _ _ => (de_callG rfl k__law_one (hr.mono (by omega)) (by rfl) (da_cons (de_var (pv 0)) (da_cons (de_var (pv 3)) da_nil))))) da_nil)))
      (dss_cons (ds_set (i := 7) sc__law_term.nd rfl (by first | exact .inl rfl | exact .inr rfl) (de_popC (pe_bm0 PySem.F.plainAttrs_list PySem.F.slot_list_pop PySem.F.type_list_pop mt_pop (de_var (pv 4)))))
      (dss_one (ds_ret (de_tup (da_cons de_str (da_cons (de_var (pv 7)) (da_cons (de_callG rfl k__law_deed (hr.mono (by omega)) (by rfl) (da_cons (de_var (pv 0)) (da_cons (de_var (pv 16)) da_nil))) (da_cons (de_var (pv 17)) (da_cons (de_callG rfl k__law_term (hr.mono (by omega)) (by rfl) (da_cons (de_var (pv 0)) (da_cons (de_var (pv 1)) (da_cons (de_op op_addA (od_add rfl) (de_var (pv 2)) de_int) (da_cons (de_op op_addA (od_add rfl) (de_var (pv 3)) (de_lst (da_cons (de_var (pv 7)) da_nil))) (da_cons (de_var (pv 4)) (da_cons (de_var (pv 5)) da_nil))))))) da_nil)))))))))))))))), ?_⟩
  dsimp only [Bk.T, theT]
  rintro rs τ Q ⟨a, b, cs, pr, pf, r, n, ks, fs, g, rfl, rfl, hne, hcr, hcf, hk1, hk2, hks, hf1, hfs, hr, hn, hn3, hn20, hb, q⟩
  have h1r := cg_same (c := .ls [.int (r - 1)]) hcr
  have h1f : cget (cset cs pr (.ls [.int (r - 1)])) pf = some (.ls (fs.map .str)) := by rw [cg_ne hne]; exact hcf
  have h1k : ∀ q c, q ≠ pr → q ≠ pf → cget cs q = some c → cget (cset cs pr (.ls [.int (r - 1)])) q = some c := fun q c h1 _ h => by rw [cg_ne (Ne.symm h1)]; exact h
  refine sq_seq (fun e τ' => τ' = ⟨.on a b, cset cs pr (.ls [.int (r - 1)])⟩ ∧ e = [.raw (.ref a), .raw (.ref pr), .d (.int (21 - (n : Int))), .d (.list (ks.map .str)), .raw (.ref pf), .d (.bool g), .no, .no, .no, .no, .no, .no, .no, .no, .no, .no, .no, .no, .no]) (fun N h => ?_) ?_
  · walk_at "X"
    refine ⟨pr, rfl, ?_⟩
    walk_at "X"
    refine ⟨_, 0, rfl, hcr, ?_⟩
    walk_at "X"
    refine ⟨_, rfl, ?_⟩
    walk_at "X"
    refine ⟨pr, rfl, ?_⟩
    walk_at "X"
    exact ⟨_, 0, 0, rfl, hcr, rfl, h _ _ ⟨rfl, rfl⟩⟩
  rintro _ _ ⟨rfl, rfl⟩
  generalize cset cs pr (.ls [.int (r - 1)]) = cs1 at h1r h1f h1k ⊢
  have leaf : ∀ (s : Str) (b' : Nat), b ≤ b' + 20 → isNameS s = true → Q (.d (.tuple [.str "tell", .str s])) ⟨.on a b', cs1⟩ := fun s b' hb' hs => by
    obtain ⟨n, rfl⟩ : ∃ m, n = m + 1 := ⟨n - 1, by omega⟩
    exact q _ 1 (r - 1) fs b' cs1 (.tell hs) (by cases g <;> simp only [if_true, if_false, Bool.false_eq_true] <;> omega) (by omega) (Nat.le_refl _) hfs (by omega) h1r h1f h1k
  have hb1 : 20 ≤ b := by
    unfold needT at hb
    cases g <;> simp only [if_true, if_false, Bool.false_eq_true] at hb <;> omega
  refine sq_seq (fun e τ' => ∃ (w : Int) (b2 : Nat), τ' = ⟨.on a b2, cs1⟩ ∧ b ≤ b2 + 1 ∧ (0 ≤ w ∧ w < 9) ∧ (w ≠ 0 → 2 ≤ r ∧ 4 ≤ n ∧ 4 ≤ fs.length) ∧ e = [.raw (.ref a), .raw (.ref pr), .d (.int (21 - (n : Int))), .d (.list (ks.map .str)), .raw (.ref pf), .d (.bool g), .d (.int w), .no, .no, .no, .no, .no, .no, .no, .no, .no, .no, .no, .no]) (fun N h => ?_) ?_
  · walk_at "X"
    refine ⟨pr, rfl, ?_⟩
    walk_at "X"
    refine ⟨_, 0, rfl, h1r, ?_⟩
    walk_at "X"
    refine kAndT_and (c := decide (4 ≤ n) && decide (4 ≤ fs.length)) (fun _ Q' q' => ?_) ?_
    · walk_at "X"
      rw [show decide ((21 : Int) - (n : Int) < 18) = decide (4 ≤ n) from decide_eq_decide.mpr (by omega)]
      refine kAndT_and (c := decide (4 ≤ fs.length)) (fun _ Q' q' => ?_) q'
      walk_at "X"
      refine ⟨pf, _, rfl, h1f, ?_⟩
      walk_at "X"
      rw [List.length_map, show decide ((3 : Int) < (fs.length : Int)) = decide (4 ≤ fs.length) from decide_eq_decide.mpr (by omega)]
      exact q'
    walk_at "X"
    refine kIf_join (fun x τ' => ∃ (w : Int) (b2 : Nat), τ' = ⟨.on a b2, cs1⟩ ∧ b ≤ b2 + 1 ∧ (0 ≤ w ∧ w < 9) ∧ (w ≠ 0 → 2 ≤ r ∧ 4 ≤ n ∧ 4 ≤ fs.length) ∧ x = .d (.int w)) (fun e Q' q' => ?_) (fun _ Q' q' => ?_) ?_
    · rw [Bool.and_eq_true, Bool.and_eq_true, decide_eq_true_eq, decide_eq_true_eq, decide_eq_true_eq] at e
      walk_at "X"
      refine nextT (by omega) (by decide) (by decide) fun w w0 w1 => ?_
      exact q' _ _ ⟨w, _, rfl, by omega, ⟨w0, w1⟩, fun _ => ⟨by omega, e.2.1, e.2.2⟩, rfl⟩
    · walk_at "X"
      exact q' _ _ ⟨0, _, rfl, by omega, by omega, fun z => absurd rfl z, rfl⟩
    rintro _ _ ⟨w, b2, rfl, hb2, hw, hwn, rfl⟩
    walk_at "X"
    exact h _ _ ⟨w, b2, rfl, hb2, hw, hwn, rfl⟩
  rintro _ _ ⟨w, b2, rfl, hb2, hw, hwn, rfl⟩
  refine sq_seq (fun e τ' => τ' = ⟨.on a b2, cs1⟩ ∧ w ≠ 0 ∧ e = [.raw (.ref a), .raw (.ref pr), .d (.int (21 - (n : Int))), .d (.list (ks.map .str)), .raw (.ref pf), .d (.bool g), .d (.int w), .no, .no, .no, .no, .no, .no, .no, .no, .no, .no, .no, .no]) (fun N h => ?_) ?_
  · walk_at "X"
    refine kIfS_of (fun e => ?_) fun e => ?_
    · walk_at "X"
      refine ⟨a, b2, cs1, ks, rfl, rfl, by omega, hk1, by omega, fun s b3 hb3 hs => ?_⟩
      walk_at "X"
      exact leaf s b3 (by omega) (hks s hs)
    · walk_at "X"
      exact h _ _ ⟨rfl, of_decide_eq_false e, rfl⟩
  rintro _ _ ⟨rfl, hw0, rfl⟩
  obtain ⟨hr2, hn4, hf4⟩ := hwn hw0
  obtain ⟨m, hm⟩ : ∃ m, n = m + 1 := ⟨n - 1, by omega⟩
  have e21 : (21 : Int) - (n : Int) + 1 = 21 - (m : Int) := by omega
  have hks2 : ∀ (l : List Str), (∀ s ∈ l, isNameS s = true) → ∀ s ∈ ks ++ l, isNameS s = true := fun l hl s hs => by
    rcases List.mem_append.mp hs with hs | hs
    · exact hks s hs
    · exact hl s hs
  refine sq_seq (fun e τ' => τ' = ⟨.on a b2, cs1⟩ ∧ e = [.raw (.ref a), .raw (.ref pr), .d (.int (21 - (n : Int))), .d (.list (ks.map .str)), .raw (.ref pf), .d (.bool g), .d (.int w), .no, .no, .no, .no, .no, .no, .no, .no, .no, .no, .no, .no]) (fun N h => ?_) ?_
  · walk_at "X"
    refine kAndT_and (c := !g) (fun _ Q' q' => ?_) ?_
    · walk_at "X"
      exact q'
    refine kIfS_of (fun e => ?_) fun e => ?_
    · rw [Bool.and_eq_true, Bool.not_eq_true'] at e
      obtain ⟨_, rfl⟩ := e
      have hbg : 20 * (9 * (r - 1) + 1) ≤ b := by
        unfold needT at hb
        simp only [Bool.false_eq_true, if_false] at hb
        omega
      obtain ⟨f1, s1, rfl⟩ := fs_last (fs := fs) (by omega)
      obtain ⟨f2, s2, rfl⟩ := fs_last (fs := f1) (by rw [List.length_append, List.length_singleton] at hf4; omega)
      obtain ⟨f3, s3, rfl⟩ := fs_last (fs := f2) (by rw [List.length_append, List.length_append, List.length_singleton, List.length_singleton] at hf4; omega)
      have hfs3 : ∀ s ∈ f3, isNameS s = true := fun s hs => hfs s (by simp [hs])
      have hs1 : isNameS s1 = true := hfs s1 (by simp)
      have hs2 : isNameS s2 = true := hfs s2 (by simp)
      have hs3 : isNameS s3 = true := hfs s3 (by simp)
      simp only [List.length_append, List.length_singleton] at hf1 hf4
      walk_at "X"
      refine ⟨pf, _, _, rfl, by rw [h1f, map_snoc], ?_⟩
      walk_at "X"
      refine ⟨pf, _, _, rfl, by rw [cg_same h1f, map_snoc], ?_⟩
      walk_at "X"
      refine ⟨pf, _, _, rfl, by rw [cg_same (cg_same h1f), map_snoc], ?_⟩
      have h3f := cg_same (c := .ls (f3.map .str)) (cg_same (c := .ls ((f3 ++ [s3]).map .str)) (cg_same (c := .ls (((f3 ++ [s3]) ++ [s2]).map .str)) h1f))
      have h3r : cget (cset (cset (cset cs1 pf (.ls (((f3 ++ [s3]) ++ [s2]).map .str))) pf (.ls ((f3 ++ [s3]).map .str))) pf (.ls (f3.map .str))) pr = some (.ls [.int (r - 1)]) := by rw [cg_ne (Ne.symm hne), cg_ne (Ne.symm hne), cg_ne (Ne.symm hne)]; exact h1r
      have h3k : ∀ q c, q ≠ pr → q ≠ pf → cget cs q = some c → cget (cset (cset (cset cs1 pf (.ls (((f3 ++ [s3]) ++ [s2]).map .str))) pf (.ls ((f3 ++ [s3]).map .str))) pf (.ls (f3.map .str))) q = some c := fun q c x1 x2 hq => by rw [cg_ne (Ne.symm x2), cg_ne (Ne.symm x2), cg_ne (Ne.symm x2)]; exact h1k q c x1 x2 hq
      generalize cset (cset (cset cs1 pf (.ls (((f3 ++ [s3]) ++ [s2]).map .str))) pf (.ls ((f3 ++ [s3]).map .str))) pf (.ls (f3.map .str)) = cs2 at h3f h3r h3k ⊢
      walk_at "X"
      refine ⟨a, b2, cs2, ks, rfl, rfl, by omega, hk1, by omega, fun t1 b3 hb3 ht1 => ?_⟩
      walk_at "X"
      refine ⟨a, b3, cs2, ks, rfl, rfl, by omega, hk1, by omega, fun t2 b4 hb4 ht2 => ?_⟩
      walk_at "X"
      refine nextT (by omega) (by decide) (by decide) fun n0 a0 b0 => ?_
      walk_at "X"
      intro p hp
      refine ⟨by rw [List.length_map, sizeLine_eq]; omega, ?_⟩
      obtain ⟨hp1, h4r⟩ := cg_new (d := .ls [.int n0]) hp h3r
      obtain ⟨hp2, h4f⟩ := cg_new (d := .ls [.int n0]) hp h3f
      have h4k : ∀ q c, q ≠ pr → q ≠ pf → cget cs q = some c → q ≠ p ∧ cget ((p, .ls [.int n0]) :: cs2) q = some c := fun q c x1 x2 hq => by
        have := cg_new (d := .ls [.int n0]) hp (h3k q c x1 x2 hq)
        exact ⟨Ne.symm this.1, this.2⟩
      have h4p : cget ((p, .ls [.int n0]) :: cs2) p = some (.ls [.int n0]) := cget_hd
      generalize ((p, .ls [.int n0]) :: cs2 : List (Addr × Cel)) = cs3 at h4r h4f h4k h4p ⊢
      rw [e21, show ks.map PyData.str ++ [PyData.str s2, PyData.str s3] = (ks ++ [s2, s3]).map .str by simp]
      refine term_call (n := m) (r := n0) (fs := f3) (by omega) hp2 h4p h4f (by rw [List.length_append]; omega) (by rw [List.length_append]; show ks.length + 2 + _ ≤ _; omega) (hks2 [s2, s3] (by simp [hs2, hs3])) (by omega) hfs3 (by omega) (by omega) (by omega) (by unfold needT; simp only [if_true]; omega) fun x k r' fs' b' cs' hx hk hr' hfl hfn hb' hcr' hcf' hkeep => ?_
      have hk7 : k ≤ 7 := by
        simp only [if_true] at hk
        omega
      walk_at "X"
      obtain ⟨r1n, hcr'⟩ : pr ≠ p ∧ cget cs' pr = some (.ls [.int (r - 1)]) := ⟨Ne.symm hp1, hkeep pr _ (Ne.symm hp1) hne h4r⟩
      have h5k : ∀ q c, q ≠ pr → q ≠ pf → cget cs q = some c → cget cs' q = some c := fun q c x1 x2 hq => hkeep q c (h4k q c x1 x2 hq).1 x2 (h4k q c x1 x2 hq).2
      refine ⟨by rw [List.length_map, sizeLine_eq]; omega, ?_⟩
      rw [e21, ← map_snoc]
      refine term_call (n := m) (r := r - 1) (fs := fs') (by omega) hne hcr' hcf' (by simp) (by rw [List.length_append, List.length_singleton]; omega) (hks2 [s1] (by simpa using hs1)) (by omega) hfn (by omega) (by omega) (by omega) (by unfold needT; simp only [Bool.false_eq_true, if_false]; omega) fun y l r2 fs2 b6 cs6 hy hl hrr hfl2 hfn2 hb6 hcr2 hcf2 hkeep2 => ?_
      walk_at "X"
      refine q _ (k + l + 1) r2 fs2 b6 cs6 (by rw [hm]; exact .going hs1 (hks t1 ht1) hs2 hs3 (hks t2 ht2) hx (by omega) hy) ?_ (by omega) (by simp only [List.length_append, List.length_singleton]; omega) hfn2 (by omega) hcr2 hcf2 (fun q c x1 x2 hq => hkeep2 q c x1 x2 (h5k q c x1 x2 hq))
      simp only [Bool.false_eq_true, if_false] at hl ⊢
      omega
    · walk_at "X"
      exact h _ _ ⟨rfl, rfl⟩
  rintro _ _ ⟨rfl, rfl⟩
  refine sq_seq (fun e τ' => τ' = ⟨.on a b2, cs1⟩ ∧ e = [.raw (.ref a), .raw (.ref pr), .d (.int (21 - (n : Int))), .d (.list (ks.map .str)), .raw (.ref pf), .d (.bool g), .d (.int w), .no, .no, .no, .no, .no, .no, .no, .no, .no, .no, .no, .no]) (fun N h => ?_) ?_
  · walk_at "X"
    refine kIfS_of (fun e => ?_) fun e => ?_
    · walk_at "X"
      refine nextT (by omega) (by decide) (by decide) fun n0 a0 b0 => ?_
      walk_at "X"
      refine kAt_of a0 (by simpa using b0) fun z ez hz => ?_
      simp only [List.mem_cons, List.not_mem_nil, or_false] at hz
      rcases hz with rfl | rfl
      · clear ez a0 b0
        clear n0
        walk_at "X"
        refine nextT (by omega) (by decide) (by decide) fun n1 a1 b1 => ?_
        walk_at "X"
        refine nextT (by omega) (by decide) (by decide) fun n2 a2 b2' => ?_
        walk_at "X"
        rw [show (PyData.str (Str.ofString "many")).eqv (PyData.str (Str.ofString "sum")) = false by rw [str_eqv]; decide, if_neg (show ¬ (false = true) by decide), show atI [PyData.int n1, PyData.int (n2 - 15)] 0 = some (.int n1) from rfl]
        walk_at "X"
        have hb60 := need_3 hb hr2
        rw [e21]
        refine term_call (n := m) (r := r - 1) (fs := fs) (by omega) hne h1r h1f hk1 (by omega) hks hf1 hfs (by omega) (by omega) (by omega) (need_1 hb hr2 (by omega)) fun x k r' fs' b' cs' hx hk hr' hfl hfn hb' hcr' hcf' hkeep => ?_
        have hnx := need_2 (b' := b' - 3) hb hr2 hr' hk (by have := need_2 (b' := b') hb hr2 hr' hk (by omega); have := need_0 (g := g) r'; omega)
        have hn0 := need_0 (g := g) r'
        walk_at "X"
        refine ⟨a, b', cs', ks, rfl, rfl, by omega, hk1, by omega, fun s b3 hb3 hs => ?_⟩
        walk_at "X"
        rw [e21]
        refine term_call (n := m) (r := r') (fs := fs') (by omega) hne hcr' hcf' hk1 (by omega) hks (by omega) hfn (by omega) (by omega) (by omega) (by omega) fun y l r2 fs2 b4 cs4 hy hl hrr hfl2 hfn2 hb4 hcr2 hcf2 hkeep2 => ?_
        walk_at "X"
        exact q _ (k + l + 1) r2 fs2 b4 cs4 (by rw [hm]; exact .many (hks s hs) ⟨by omega, by omega⟩ hx hy) (size_2 hr2 hk hl) (by omega) (by omega) hfn2 (by omega) hcr2 hcf2 (fun q c x1 x2 hq => hkeep2 q c x1 x2 (hkeep q c x1 x2 (h1k q c x1 x2 hq)))
      · clear ez a0 b0
        clear n0
        walk_at "X"
        refine nextT (by omega) (by decide) (by decide) fun n1 a1 b1 => ?_
        walk_at "X"
        refine nextT (by omega) (by decide) (by decide) fun n2 a2 b2' => ?_
        walk_at "X"
        rw [show (PyData.str (Str.ofString "sum")).eqv (PyData.str (Str.ofString "sum")) = true by rw [str_eqv]; decide, if_pos rfl, show atI [PyData.int n1, PyData.int (n2 - 15)] 1 = some (.int (n2 - 15)) from rfl]
        walk_at "X"
        have hb60 := need_3 hb hr2
        rw [e21]
        refine term_call (n := m) (r := r - 1) (fs := fs) (by omega) hne h1r h1f hk1 (by omega) hks hf1 hfs (by omega) (by omega) (by omega) (need_1 hb hr2 (by omega)) fun x k r' fs' b' cs' hx hk hr' hfl hfn hb' hcr' hcf' hkeep => ?_
        have hnx := need_2 (b' := b' - 3) hb hr2 hr' hk (by have := need_2 (b' := b') hb hr2 hr' hk (by omega); have := need_0 (g := g) r'; omega)
        have hn0 := need_0 (g := g) r'
        walk_at "X"
        refine ⟨a, b', cs', ks, rfl, rfl, by omega, hk1, by omega, fun s b3 hb3 hs => ?_⟩
        walk_at "X"
        rw [e21]
        refine term_call (n := m) (r := r') (fs := fs') (by omega) hne hcr' hcf' hk1 (by omega) hks (by omega) hfn (by omega) (by omega) (by omega) (by omega) fun y l r2 fs2 b4 cs4 hy hl hrr hfl2 hfn2 hb4 hcr2 hcf2 hkeep2 => ?_
        walk_at "X"
        exact q _ (k + l + 1) r2 fs2 b4 cs4 (by rw [hm]; exact .sum (hks s hs) ⟨by omega, by omega⟩ hx hy) (size_2 hr2 hk hl) (by omega) (by omega) hfn2 (by omega) hcr2 hcf2 (fun q c x1 x2 hq => hkeep2 q c x1 x2 (hkeep q c x1 x2 (h1k q c x1 x2 hq)))
    · walk_at "X"
      exact h _ _ ⟨rfl, rfl⟩
  rintro _ _ ⟨rfl, rfl⟩
  walk_at "X"
  refine nextT (by omega) (by decide) (by decide) fun n0 a0 b0 => ?_
  walk_at "X"
  obtain ⟨f, s1, rfl⟩ := fs_last (fs := fs) (by omega)
  have hfs3 : ∀ s ∈ f, isNameS s = true := fun s hs => hfs s (by simp [hs])
  have hs1 : isNameS s1 = true := hfs s1 (by simp)
  simp only [List.length_append, List.length_singleton] at hf1 hf4
  refine ⟨by omega, ?_⟩
  have hN : (1 + n0).toNat = 1 ∨ (1 + n0).toNat = 2 := by omega
  refine lc_inv (fun j acc τ => ∃ (b5 : Nat) (l : List Str), τ = ⟨.on a b5, cs1⟩ ∧ b2 - 1 ≤ b5 + 3 * j ∧ acc = l.map .str ∧ l.length = j ∧ ∀ s ∈ l, isNameS s = true) _ _ ⟨b2 - 1, [], rfl, by omega, rfl, rfl, nofun⟩ ?_ (by rw [rgI_len, sizeLine_eq]; omega) ?_
  · rintro i x acc τ ej ⟨b5, l, rfl, hb5, rfl, hl, hc⟩ ha kc k0 h1 h2
    obtain ⟨hj, rfl⟩ := rgI_get ej
    walk_at "X"
    refine ⟨a, b5, cs1, ks, rfl, rfl, by omega, hk1, by omega, fun s b6 hb6 hs => ?_⟩
    walk_at "X"
    refine h1 _ _ ⟨b6, l ++ [s], rfl, by omega, by simp, by simp [hl], fun d hd => ?_⟩
    rcases List.mem_append.mp hd with hd | hd
    · exact hc d hd
    · rw [List.mem_singleton.mp hd]; exact hks s hs
  rintro acc τ ⟨b5, l, rfl, hb5, rfl, hl, hc⟩
  rw [rgI_len] at hl hb5
  walk_at "X"
  refine ⟨pf, _, _, rfl, by rw [h1f, map_snoc], ?_⟩
  walk_at "X"
  refine ⟨a, b5, _, 1 + n0, rfl, rfl, by omega, by omega, fun d b6 hb6 hd hdn => ?_⟩
  walk_at "X"
  refine ⟨by rw [List.length_map, sizeLine_eq]; omega, ?_⟩
  rw [e21, ← map_snoc]
  have h2f := cg_same (c := .ls (f.map .str)) h1f
  have h2r : cget (cset cs1 pf (.ls (f.map .str))) pr = some (.ls [.int (r - 1)]) := by rw [cg_ne (Ne.symm hne)]; exact h1r
  have h2k : ∀ q c, q ≠ pr → q ≠ pf → cget cs q = some c → cget (cset cs1 pf (.ls (f.map .str))) q = some c := fun q c x1 x2 hq => by rw [cg_ne (Ne.symm x2)]; exact h1k q c x1 x2 hq
  generalize cset cs1 pf (.ls (f.map .str)) = cs2 at h2f h2r h2k ⊢
  refine term_call (n := m) (r := r - 1) (fs := f) (by omega) hne h2r h2f (by simp) (by rw [List.length_append, List.length_singleton]; omega) (hks2 [s1] (by simpa using hs1)) (by omega) hfs3 (by omega) (by omega) (by omega) (need_1 hb hr2 (by omega)) fun x k r' fs' b' cs' hx hk hr' hfl hfn hb' hcr' hcf' hkeep => ?_
  walk_at "X"
  exact q _ (k + 1) r' fs' b' cs' (by rw [hm]; exact .lt hs1 hd hc (by omega) hx) (size_1 hr2 hk) (by omega) (by rw [List.length_append, List.length_singleton]; omega) hfn (by omega) hcr' hcf' (fun q c x1 x2 hq => hkeep q c x1 x2 (h2k q c x1 x2 hq))
theorem ok__law_program {f : Addr} {fd : FuncData} (T : Txt K mg ca) (F : Fun K "_law_program" "_law_program" s__law_program f fd) (k__law_names : KnownG P w K mg base (theT (Ts ca)) "_law_names" ["_law_draw", "_law_many_here"] 3 (FF__law_names)) (k__law_next : Known P w K mg base (theT (Ts ca)) "_law_next" ["_law_draw", "_law_many_here"] 2 (FF_next)) (k__law_term : KnownG P w K mg base (theT (Ts ca)) "_law_term" ["_law_draw", "_law_room", "_law_deep", "_law_known", "_law_fresh", "_law_is_inner"] 23 (FF__law_term)) (k__law_places : KnownG P w K mg base (theT (Ts ca)) "_law_places" ["_law_term_here"] 21 (FF__law_places)) (k__law_kind : KnownG P w K mg base (theT (Ts ca)) "_law_kind" ["_law_draw"] 3 (FF__law_kind)) :
    FnG P w K mg base 24 f fd ["_law_draw"] (spD (theT (Ts ca)) K (FF__law_program)) := by
  refine FnG.dropG ?_
  refine okG F sc__law_program (by walk_at "w") (by decide) fun cdv A outer s H E G Fp hcd hr => ⟨_, (dss_cons (ds_set (i := 1) sc__law_program.nd rfl (by first | exact .inl rfl | exact .inr rfl) (de_cel (de_callG rfl k__law_names (hr.mono (by decide)) (by rfl) (da_cons (de_var (pv 0)) (da_cons de_int da_nil)))))
      (dss_cons (ds_setLc (i := 2) (own := [("_law_k", 4)]) rfl sc__law_program.nd rfl rfl (sw_true rfl rfl rfl (by decide +kernel)) (di_range1 (by rfl) T.b_range (da_cons (de_op op_addA (od_add rfl) de_int (de_callK rfl k__law_next (hr.r.mono (by decide)) (by rfl) (da_cons (de_var (pv 0)) (da_cons de_int da_nil)))) da_nil)) (blkOk_by (by kernel_rfl)) (by decide) (fun _ _ _ _ _ => (dg_nm (i := 4) sc__law_program.nd rfl (by first | exact .inl rfl | exact .inr rfl))) (fun _ _ _ _ _ => dts_nil) (fun _ _ _ _ _ => (de_popC (pe_bm0 PySem.F.plainAttrs_list PySem.F.slot_list_pop PySem.F.type_list_pop mt_pop (de_var (pv 1))))))
      (dss_cons (ds_frz (i := 2) (ds_set (i := 3) sc__law_program.nd rfl (by first | exact .inl rfl | exact .inr rfl) (de_callG rfl k__law_term (hr.mono (by decide)) (by rfl) (da_cons (de_var (pv 0)) (da_cons (de_cel (de_lst (da_cons (de_ix ix_A (od_ix rfl) (de_lst (da_cons de_int (da_cons de_int (da_cons de_int (da_cons de_int da_nil))))) (de_callK rfl k__law_next (hr.r.mono (by decide)) (by rfl) (da_cons (de_var (pv 0)) (da_cons de_int da_nil))) (fun _ _ => rfl)) da_nil))) (da_cons de_int (da_cons (de_var (pv 2)) (da_cons (de_var (pv 1)) (da_cons de_bl da_nil)))))))))
      (dss_cons (ds_if (dt_cmp op_gtA od_cmp (de_callB call_len (cd_len rfl) (by rfl) T.b_len (by decide +kernel) (da_cons (de_callG rfl k__law_places (hr.mono (by decide)) (by rfl) (da_cons (de_var (pv 3)) da_nil)) da_nil)) de_int (nomark _))
        (dss_one (ds_set (i := 3) sc__law_program.nd rfl (by first | exact .inl rfl | exact .inr rfl) (de_tup (da_cons de_str (da_cons (de_ix ix_A (od_ix rfl) (de_var (pv 2)) de_int (fun _ _ => rfl)) da_nil)))))
        dss_nil)
      (dss_one (ds_ret (de_tup (da_cons (de_callTy call_tuple_of (cd_tuple rfl) (by rfl) T.b_tuple (by decide +kernel) (da_cons (de_lc (own := [("_law_name", 5)]) rfl sc__law_program.nd (di_seq rfl (de_var (pv 2))) (blkOk_by (by kernel_rfl)) (by decide) (fun _ _ _ _ _ => (dg_nm (i := 5) sc__law_program.nd rfl (by first | exact .inl rfl | exact .inr rfl))) (fun _ _ _ _ _ => dts_nil) (fun _ _ _ _ _ => (de_tup (da_cons (de_var (pv 5)) (da_cons (de_callG rfl k__law_kind (hr.mono (by decide)) (by rfl) (da_cons (de_var (pv 0)) da_nil)) da_nil))))) da_nil)) (da_cons (de_callG rfl k__law_kind (hr.mono (by decide)) (by rfl) (da_cons (de_var (pv 0)) da_nil)) (da_cons (de_var (pv 3)) da_nil)))))))))), ?_⟩
  dsimp only [Bk.T, theT]
  rintro rs τ Q2 ⟨Q, ⟨a, b, rfl, rfl, hb, q⟩, rfl⟩
  refine sq_seq (fun e τ' => ∃ (b1 : Nat) (pf : Addr) (fs : List Str), b ≤ b1 + 1000 ∧ fs.length = 40 ∧ (∀ s ∈ fs, isNameS s = true) ∧ τ' = ⟨.on a b1, [(pf, .ls (fs.map .str))]⟩ ∧ e = [.raw (.ref a), .raw (.ref pf), .no, .no, .no, .no]) (fun N h => ?_) ?_
  · walk_at "X"
    refine ⟨a, b, [], rfl, rfl, by omega, fun ws b1 hb1 hwl hws => ?_⟩
    walk_at "X"
    intro p hp
    exact h _ _ ⟨b1, p, ws, hb1, hwl, hws, rfl, rfl⟩
  rintro _ _ ⟨b1, pf, fs, hb1, hfl, hfs, rfl, rfl⟩
  refine sq_seq (fun e τ' => ∃ (b2 : Nat) (ks fs : List Str), b ≤ b2 + 1001 ∧ fs.length ≤ 40 ∧ (∀ s ∈ fs, isNameS s = true) ∧ (1 ≤ ks.length ∧ ks.length ≤ 4) ∧ (∀ s ∈ ks, isNameS s = true) ∧ τ' = ⟨.on a b2, [(pf, .ls (fs.map .str))]⟩ ∧ e = [.raw (.ref a), .raw (.ref pf), .ol (ks.map .str), .no, .no, .no]) (fun N h => ?_) ?_
  · walk_at "X"
    refine nextT (by omega) (by decide) (by decide) fun n0 a0 b0 => ?_
    walk_at "X"
    refine ⟨by omega, ?_⟩
    refine lc_inv (fun j acc τ => ∃ (l g : List Str), τ = ⟨.on a (b1 - 1), [(pf, .ls (g.map .str))]⟩ ∧ acc = l.map .str ∧ l.length = j ∧ g.length + j = 40 ∧ (∀ s ∈ l, isNameS s = true) ∧ ∀ s ∈ g, isNameS s = true) _ _ ⟨[], fs, rfl, rfl, rfl, by omega, nofun, hfs⟩ ?_ (by rw [rgI_len, sizeLine_eq]; omega) ?_
    · rintro j x acc τ ej ⟨l, g, rfl, rfl, hl, hg, hln, hgn⟩ ha kc k0 h1 h2
      obtain ⟨hj, rfl⟩ := rgI_get ej
      obtain ⟨g, s, rfl⟩ := fs_last (fs := g) (by omega)
      rw [List.length_append, List.length_singleton] at hg
      walk_at "X"
      refine ⟨pf, _, _, rfl, by rw [cget_hd, map_snoc], ?_⟩
      rw [cset_hd]
      walk_at "X"
      refine h1 _ _ ⟨l ++ [s], g, rfl, by simp, by simp [hl], by omega, fun d hd => ?_, fun d hd => hgn d (by simp [hd])⟩
      rcases List.mem_append.mp hd with hd | hd
      · exact hln d hd
      · rw [List.mem_singleton.mp hd]; exact hgn s (by simp)
    rintro acc τ ⟨l, g, rfl, rfl, hl, hg, hln, hgn⟩
    rw [rgI_len] at hl hg
    walk_at "X"
    exact h _ _ ⟨_, l, g, by omega, by omega, hgn, ⟨by omega, by omega⟩, hln, rfl, rfl⟩
  rintro _ _ ⟨b2, ks, gs, hb2, hgl, hgs, hkl, hks, rfl, rfl⟩
  refine sq_seq (fun e τ' => ∃ (b3 : Nat) (k : Nat) (x : D) (cs : List (Addr × Cel)), b ≤ b3 + 8000 ∧ OkT 20 false k x ∧ k ≤ 200 ∧ τ' = ⟨.on a b3, cs⟩ ∧ e = [.raw (.ref a), .raw (.ref pf), .d (.list (ks.map .str)), .d x, .no, .no]) (fun N h => ?_) ?_
  · walk_at "X"
    refine nextT (by omega) (by decide) (by decide) fun n0 a0 b0 => ?_
    walk_at "X"
    refine kAt_of a0 (by simpa using b0) fun z ez hz => ?_
    obtain ⟨r, rfl, hr2, hr14⟩ : ∃ r : Int, z = .int r ∧ 2 ≤ r ∧ r ≤ 14 := by
      simp only [List.mem_cons, List.not_mem_nil, or_false] at hz
      rcases hz with rfl | rfl | rfl | rfl <;> exact ⟨_, rfl, by decide, by decide⟩
    clear ez hz
    walk_at "X"
    intro p hp
    have hpp : p ≠ pf := fun z => hp (by rw [z]; simp)
    refine term_call (j := 20) (n := 20) (r := r) (fs := gs) (by omega) hpp cget_hd (by rw [cget_tl hpp]; exact cget_hd) hkl.1 (by omega) hks (by omega) hgs hr14 (by omega) (by omega) (by unfold needT; simp only [Bool.false_eq_true, if_false]; omega) fun x k r' fs' b' cs' hx hk hr' _ _ hb' _ _ _ => ?_
    simp only [Bool.false_eq_true, if_false] at hk
    walk_at "X"
    exact h _ _ ⟨b', k, x, cs', by omega, hx, by omega, rfl, rfl⟩
  rintro _ _ ⟨b3, k, x, cs, hb3, hx, hk, rfl, rfl⟩
  refine sq_seq (fun e τ' => ∃ (k : Nat) (x : D), OkT 20 false k x ∧ k ≤ 40 ∧ τ' = ⟨.on a b3, cs⟩ ∧ e = [.raw (.ref a), .raw (.ref pf), .d (.list (ks.map .str)), .d x, .no, .no]) (fun N h => ?_) ?_
  · obtain ⟨_, hgx, hpx⟩ := okT_cost hx
    walk_at "X"
    refine ⟨20, x, rfl, hgx, by decide, by omega, ?_⟩
    walk_at "X"
    rw [hpx]
    refine kIfS_of (fun e => ?_) fun e => ?_
    · walk_at "X"
      refine kAt_of (by decide) (by rw [List.length_map]; omega) fun z ez hz => ?_
      obtain ⟨s, hs, rfl⟩ := List.mem_map.mp hz
      walk_at "X"
      exact h _ _ ⟨1, _, .tell (hks s hs), by decide, rfl, rfl⟩
    · have e := of_decide_eq_false e
      walk_at "X"
      exact h _ _ ⟨k, x, hx, by omega, rfl, rfl⟩
  clear hx hk
  clear k x
  rintro _ _ ⟨k, x, hx, hk, rfl, rfl⟩
  walk_at "X"
  refine lc_invA (fun s : Str => PyData.str s) (fun j acc τ => ∃ (ps : List (Str × D)) (b4 : Nat), τ = ⟨.on a b4, cs⟩ ∧ b3 ≤ b4 + 30 * j ∧ acc = ps.map (fun p => .tuple [.str p.1, p.2]) ∧ ps.length = j ∧ ∀ p ∈ ps, isNameS p.1 = true ∧ isKindD p.2 = true) ks _ ⟨[], b3, rfl, by omega, rfl, rfl, nofun⟩ ?_ (by rw [sizeLine_eq]; omega) ?_
  · rintro j s acc τ ej ⟨ps, b4, rfl, hb4, rfl, hl, hps⟩ ha kc k0 h1 h2
    have hj : j < ks.length := (List.getElem?_eq_some_iff.mp ej).1
    walk_at "X"
    refine ⟨a, b4, cs, rfl, rfl, by omega, fun y b5 hb5 hy => ?_⟩
    walk_at "X"
    refine h1 _ _ ⟨ps ++ [(s, y)], b5, rfl, by omega, by simp, by simp [hl], fun d hd => ?_⟩
    rcases List.mem_append.mp hd with hd | hd
    · exact hps d hd
    · rw [List.mem_singleton.mp hd]
      exact ⟨hks s (List.mem_of_getElem? ej), hy⟩
  rintro acc τ ⟨ps, b4, rfl, hb4, rfl, hl, hps⟩
  walk_at "X"
  refine ⟨a, b4, cs, rfl, rfl, by omega, fun y b5 hb5 hy => ?_⟩
  walk_at "X"
  exact ⟨⟨_, _, _, rfl, rfl⟩, ⟨cs, by simp⟩, q _ b5 (by omega) (prog_ok (by omega) hps hy hx hk)⟩
theorem ok__law_many (j : Nat) {f : Addr} {fd : FuncData} (T : Txt K mg ca) (F : Fun K "_law_many" "_law_many" s__law_many f fd) (k__law_inner : KnownG P w K mg base (theT (Ts ca)) "_law_inner" ["_law_thing"] 4 (FF__law_inner)) (k__law_many : KnownG P w K mg base (theT (Ts ca)) "_law_many" ["_law_thing", "_law_deep", "_law_is_inside"] (4 + 1 * j) (FF__law_many_ j)) :
    FnG P w K mg base (4 + 1 * j + 1) f fd ["_law_thing", "_law_deep", "_law_is_inside"] (spD (theT (Ts ca)) K (FF__law_many_ (j + 1))) := by
  refine okG F sc__law_many (by walk_at "v") (by decide) fun cdv A outer s H E G Fp hcd hr => ⟨_, (dss_cons (ds_set (i := 3) sc__law_many.nd rfl (by first | exact .inl rfl | exact .inr rfl) (de_callG rfl k__law_inner (hr.mono (by omega)) (by rfl) (da_cons (de_var (pv 0)) da_nil)))
      (dss_cons (ds_if (dt_w (dw_or (dt_cmp op_isN od_isN (de_var (pv 3)) de_non (nomark _)) (dw_or (dt_cmp op_gtA od_cmp (de_var (pv 1)) de_int (nomark _)) (dw_or1 (dt_w (dw_and (dt_tru rfl (de_var (pv 2))) (dw_and1 (dt_cmp (op_eqA hr.units) (od_eq rfl) (de_ix ix_A (od_ix rfl) (de_var (pv 0)) de_int (fun _ _ => rfl)) de_str (nomark _)))))))))
        (dss_one (ds_ret de_int))
        dss_nil)
      (dss_cons (ds_set (i := 4) sc__law_many.nd rfl (by first | exact .inl rfl | exact .inr rfl) de_int)
      (dss_cons (ds_frz (i := 3) (ds_for PassesOwn.never rfl (di_enum2 rfl (by rfl) T.b_enumerate (da_cons (de_var (pv 3)) da_nil)) (dg_tp rfl rfl (dg_cons (dg_nm (i := 5) sc__law_many.nd rfl (by first | exact .inl rfl | exact .inr rfl)) (dg_cons (dg_nm (i := 6) sc__law_many.nd rfl (by first | exact .inl rfl | exact .inr rfl)) dg_nil)))
        (dss_cons (ds_set (i := 7) sc__law_many.nd rfl (by first | exact .inl rfl | exact .inr rfl) (de_or rfl (de_var (pv 2)) (de_one (de_and rfl (de_cmp (op_eqA hr.units) (od_eq rfl) (de_ix ix_A (od_ix rfl) (de_var (pv 0)) de_int (fun _ _ => rfl)) de_str (nomark _)) (de_one (de_cmp (op_eqA hr.units) (od_eq rfl) (de_var (pv 5)) de_int (nomark _)))))))
        (dss_cons (ds_set (i := 8) sc__law_many.nd rfl (by first | exact .inl rfl | exact .inr rfl) (de_callG rfl k__law_many (hr.mono (by omega)) (by rfl) (da_cons (de_var (pv 6)) (da_cons (de_op op_addA (od_add rfl) (de_var (pv 1)) de_int) (da_cons (de_var (pv 7)) da_nil)))))
        (dss_one (ds_set (i := 4) sc__law_many.nd rfl (by first | exact .inl rfl | exact .inr rfl) (de_op op_addA (od_add rfl) (de_op op_addA (od_add rfl) (de_var (pv 4)) (de_var (pv 8))) (de_op op_mulB (od_mulB rfl) de_int (de_callTy call_intA cd_int (by rfl) T.b_int (by decide +kernel) (da_cons (de_and rfl (de_cmp (op_eqA hr.units) (od_eq rfl) (de_ix ix_A (od_ix rfl) (de_var (pv 0)) de_int (fun _ _ => rfl)) de_str (nomark _)) (de_and rfl (de_cmp (op_eqA hr.units) (od_eq rfl) (de_var (pv 5)) de_int (nomark _)) (de_one (de_cmp op_gtA od_cmp (de_var (pv 8)) de_int (nomark _))))) da_nil))))))))))
      (dss_one (ds_retR (dr_own (pv 4)))))))), ?_⟩
  dsimp only [Bk.T, theT]
  rintro rs τ Q ⟨n, g, x, rfl, hx, hn, hn20, h⟩
  walk_at "X"
  refine ⟨x, rfl, hx, fun hf => ?_, fun hf => ?_⟩
  · have e20 : decide ((20 : Int) < 21 - (n : Int)) = decide (n = 0) := decide_eq_decide.mpr (by omega)
    rcases form_inv hf with ⟨a, rfl⟩ | ⟨a, n1, n2, n3, n4, t, u, rfl⟩ | ⟨a, b, c, t, rfl⟩ | ⟨a, b, c, t, u, rfl⟩
    · rw [show kidsD (.tuple [.str "tell", a]) = [] from rfl]
      walk_at "X"
      rw [e20]
      refine kOrT_or (c := g && false) (fun _ Q' q => ?_) ?_
      · walk_at "X"
        refine kAndT_and (c := false) (fun _ Q2 q2 => ?_) q
        walk_at "X"
        first | exact q2 | exact Qc (by rw [str_eqv]; decide) q2
      cases n with
      | zero => refine kIfS_of (fun _ => by walk_at "X"; exact h) (fun e => by simp at e)
      | succ n =>
        have hi := hx.kid
        have e21 : (21 : Int) - ((n + 1 : Nat) : Int) + 1 = 21 - (n : Int) := by omega
        rw [many_ok (by rw [hf, go_tell]; rfl)] at h
        refine kIfS_cast (c := false) (by simp) ?_
        walk_at "X"
        rw [show enumD [] = [] from rfl, forW_n]
        walk_at "X"
        exact h
    · rw [show kidsD (.tuple [.str "going", a, .tuple [n1, n2, n3, n4, t], u]) = [t, u] from rfl]
      walk_at "X"
      rw [e20]
      refine kOrT_or (c := g && true) (fun _ Q' q => ?_) ?_
      · walk_at "X"
        refine kAndT_and (c := true) (fun _ Q2 q2 => ?_) q
        walk_at "X"
        first | exact q2 | exact Qc (by rw [str_eqv]; decide) q2
      cases n with
      | zero => refine kIfS_of (fun _ => by walk_at "X"; exact h) (fun e => by simp at e)
      | succ n =>
        have hi := hx.kid
        have e21 : (21 : Int) - ((n + 1 : Nat) : Int) + 1 = 21 - (n : Int) := by omega
        cases g with
        | true =>
          refine kIfS_cast (c := true) (by simp) ?_
          walk_at "X"
          rw [many_bad (by rw [hf, go_going]; rfl)] at h
          exact h
        | false =>
          refine kIfS_cast (c := false) (by simp) ?_
          rw [many_ok (by rw [hf, go_going]; rfl)] at h
          walk_at "X"
          rw [show enumD [t, u] = [.tuple [.int 0, t], .tuple [.int 1, u]] from rfl, forW_c]
          walk_at "X"
          rw [e21]
          refine many_call (by omega) (hi t (by show t ∈ [t, u]; simp)) (by omega) ?_
          walk_at "X"
          refine ⟨by split <;> (unfold CMul; exact .inl ⟨by decide, by decide⟩), ?_⟩
          rw [forW_c]
          walk_at "X"
          rw [e21]
          refine many_call (by omega) (hi u (by show u ∈ [t, u]; simp)) (by omega) ?_
          walk_at "X"
          refine ⟨by rw [if_neg (by decide)]; unfold CMul; exact .inl ⟨by decide, by decide⟩, ?_⟩
          have h : Q (.d (.int ((1 + manyD n true t + (if true = true ∧ 16 < manyD n true t then 100 else 0) + manyD n false u : Nat) : Int))) τ := by
            have h : Q (.d (.int ((1 + manyD n (false || isGoD (.tuple [.str "going", a, .tuple [n1, n2, n3, n4, t], u])) t + (if isGoD (.tuple [.str "going", a, .tuple [n1, n2, n3, n4, t], u]) = true ∧ 16 < manyD n (false || isGoD (.tuple [.str "going", a, .tuple [n1, n2, n3, n4, t], u])) t then 100 else 0) + manyD n false u : Nat) : Int))) τ := h
            rw [go_going, Bool.false_or] at h
            exact h
          refine Qi_cast ?_ h
          by_cases z : 16 < manyD n true t
          · have z2 : (16 : Int) < (manyD n true t : Nat) := by omega
            simp only [z, z2, decide_true, if_true, and_self, Bool.false_eq_true, if_false]
            omega
          · have z2 : ¬ (16 : Int) < (manyD n true t : Nat) := by omega
            simp only [z, z2, decide_false, if_true, and_false, Bool.false_eq_true, if_false]
            omega
    · rw [show kidsD (.tuple [.str "let", a, b, c, t]) = [t] from rfl]
      walk_at "X"
      rw [e20]
      refine kOrT_or (c := g && false) (fun _ Q' q => ?_) ?_
      · walk_at "X"
        refine kAndT_and (c := false) (fun _ Q2 q2 => ?_) q
        walk_at "X"
        first | exact q2 | exact Qc (by rw [str_eqv]; decide) q2
      cases n with
      | zero => refine kIfS_of (fun _ => by walk_at "X"; exact h) (fun e => by simp at e)
      | succ n =>
        have hi := hx.kid
        have e21 : (21 : Int) - ((n + 1 : Nat) : Int) + 1 = 21 - (n : Int) := by omega
        rw [many_ok (by rw [hf, go_let]; rfl)] at h
        refine kIfS_cast (c := false) (by simp) ?_
        walk_at "X"
        rw [show enumD [t] = [.tuple [.int 0, t]] from rfl, forW_c]
        walk_at "X"
        refine kOrV (c := false) (fun _ Q' q => ?_) ?_
        · walk_at "X"
          exact q
        rw [Bool.or_false]
        walk_at "X"
        rw [e21]
        refine many_call (by omega) (hi t (by show t ∈ [t]; simp)) (by omega) ?_
        walk_at "X"
        refine ⟨by rw [if_neg (by decide)]; unfold CMul; exact .inl ⟨by decide, by decide⟩, ?_⟩
        have h : Q (.d (.int ((1 + manyD n g t : Nat) : Int))) τ := h
        rw [show (1 : Int) + (manyD n g t : Nat) + 100 * (if false = true then 1 else 0) = ((1 + manyD n g t : Nat) : Int) by rw [if_neg (by decide)]; omega]
        exact h
    · rw [show kidsD (.tuple [.str "part", a, b, c, t, u]) = [t, u] from rfl]
      walk_at "X"
      rw [e20]
      refine kOrT_or (c := g && false) (fun _ Q' q => ?_) ?_
      · walk_at "X"
        refine kAndT_and (c := false) (fun _ Q2 q2 => ?_) q
        walk_at "X"
        first | exact q2 | exact Qc (by rw [str_eqv]; decide) q2
      cases n with
      | zero => refine kIfS_of (fun _ => by walk_at "X"; exact h) (fun e => by simp at e)
      | succ n =>
        have hi := hx.kid
        have e21 : (21 : Int) - ((n + 1 : Nat) : Int) + 1 = 21 - (n : Int) := by omega
        rw [many_ok (by rw [hf, go_part]; rfl)] at h
        refine kIfS_cast (c := false) (by simp) ?_
        walk_at "X"
        rw [show enumD [t, u] = [.tuple [.int 0, t], .tuple [.int 1, u]] from rfl, forW_c]
        walk_at "X"
        refine kOrV (c := false) (fun _ Q' q => ?_) ?_
        · walk_at "X"
          exact q
        rw [Bool.or_false]
        walk_at "X"
        rw [e21]
        refine many_call (by omega) (hi t (by show t ∈ [t, u]; simp)) (by omega) ?_
        walk_at "X"
        refine ⟨by rw [if_neg (by decide)]; unfold CMul; exact .inl ⟨by decide, by decide⟩, ?_⟩
        rw [forW_c]
        walk_at "X"
        refine kOrV (c := false) (fun _ Q' q => ?_) ?_
        · walk_at "X"
          exact q
        rw [Bool.or_false]
        walk_at "X"
        rw [e21]
        refine many_call (by omega) (hi u (by show u ∈ [t, u]; simp)) (by omega) ?_
        walk_at "X"
        refine ⟨by rw [if_neg (by decide)]; unfold CMul; exact .inl ⟨by decide, by decide⟩, ?_⟩
        have h : Q (.d (.int ((1 + manyD n g t + 0 + manyD n g u : Nat) : Int))) τ := by
          have h : Q (.d (.int ((1 + manyD n (g || isGoD (.tuple [.str "part", a, b, c, t, u])) t + (if isGoD (.tuple [.str "part", a, b, c, t, u]) = true ∧ 16 < manyD n (g || isGoD (.tuple [.str "part", a, b, c, t, u])) t then 100 else 0) + manyD n g u : Nat) : Int))) τ := h
          rw [go_part, Bool.or_false, if_neg (by simp)] at h
          exact h
        refine Qi_cast ?_ h
        rw [if_neg (by decide)]
        omega
  · walk_at "X"
    rw [many_bad (by rw [hf]; rfl)] at h
    exact h
theorem ok__law_is_told {f : Addr} {fd : FuncData} (T : Txt K mg ca) (F : Fun K "_law_is_told" "_law_is_told" s__law_is_told f fd) (k__law_is_kind : KnownG P w K mg base (theT (Ts ca)) "_law_is_kind" ["_law_thing"] 3 (FF__law_is_kind)) (k__law_is : KnownG P w K mg base (theT (Ts ca)) "_law_is" ["_law_sort", "_law_thing"] 1 (FF__law_is)) (k__law_many : KnownG P w K mg base (theT (Ts ca)) "_law_many" ["_law_thing", "_law_deep", "_law_is_inside"] 28 (FF__law_many)) :
    FnG P w K mg base 29 f fd ["_law_thing"] (spD (theT (Ts ca)) K (FF__law_is_told)) := by
  refine okG F sc__law_is_told (by walk_at "v") (by decide) fun cdv A outer s H E G Fp hcd hr => ⟨_, (dss_cons (ds_if (dt_w (dw_or (dt_not (dt_tru rfl (de_callB call_isi (cd_isi rfl) (by rfl) T.b_isinstance (by decide +kernel) (da_cons (de_var (pv 0)) (da_cons (de_ty (n := "tuple") (by rfl) T.b_tuple (by decide +kernel)) da_nil))))) (dw_or (dt_cmp (op_neA hr.units) (od_ne rfl) (de_callB call_len (cd_len rfl) (by rfl) T.b_len (by decide +kernel) (da_cons (de_var (pv 0)) da_nil)) de_int (nomark _)) (dw_or (dt_not (dt_tru rfl (de_callB call_isi (cd_isi rfl) (by rfl) T.b_isinstance (by decide +kernel) (da_cons (de_ix ix_A (od_ix rfl) (de_var (pv 0)) de_int (fun _ _ => rfl)) (da_cons (de_ty (n := "tuple") (by rfl) T.b_tuple (by decide +kernel)) da_nil))))) (dw_or1 (dt_cmp op_gtA od_cmp (de_callB call_len (cd_len rfl) (by rfl) T.b_len (by decide +kernel) (da_cons (de_ix ix_A (od_ix rfl) (de_var (pv 0)) de_int (fun _ _ => rfl)) da_nil)) de_int (nomark _)))))))
        (dss_one (ds_ret de_bl))
        dss_nil)
      (dss_cons (ds_for PassesOwn.never rfl (di_seq rfl (de_ix ix_A (od_ix rfl) (de_var (pv 0)) de_int (fun _ _ => rfl))) (dg_nm (i := 1) sc__law_is_told.nd rfl (by first | exact .inl rfl | exact .inr rfl))
        (dss_one (ds_if (dt_w (dw_or (dt_not (dt_tru rfl (de_callB call_isi (cd_isi rfl) (by rfl) T.b_isinstance (by decide +kernel) (da_cons (de_var (pv 1)) (da_cons (de_ty (n := "tuple") (by rfl) T.b_tuple (by decide +kernel)) da_nil))))) (dw_or (dt_cmp (op_neA hr.units) (od_ne rfl) (de_callB call_len (cd_len rfl) (by rfl) T.b_len (by decide +kernel) (da_cons (de_var (pv 1)) da_nil)) de_int (nomark _)) (dw_or (dt_not (dt_tru rfl (de_callG rfl k__law_is (hr.mono (by decide)) (by rfl) (da_cons de_str (da_cons (de_ix ix_A (od_ix rfl) (de_var (pv 1)) de_int (fun _ _ => rfl)) da_nil))))) (dw_or1 (dt_not (dt_tru rfl (de_callG rfl k__law_is_kind (hr.mono (by decide)) (by rfl) (da_cons (de_ix ix_A (od_ix rfl) (de_var (pv 1)) de_int (fun _ _ => rfl)) da_nil)))))))))
          (dss_one (ds_ret de_bl))
          dss_nil)))
      (dss_one (ds_ret (de_and rfl (de_callG rfl k__law_is_kind (hr.mono (by decide)) (by rfl) (da_cons (de_ix ix_A (od_ix rfl) (de_var (pv 0)) de_int (fun _ _ => rfl)) da_nil)) (de_one (de_cmp op_leA od_cmp (de_callG rfl k__law_many (hr.mono (by decide)) (by rfl) (da_cons (de_ix ix_A (od_ix rfl) (de_var (pv 0)) de_int (fun _ _ => rfl)) (da_cons de_int (da_cons de_bl da_nil)))) de_int (nomark _)))))))), ?_⟩
  dsimp only [Bk.T, theT]
  rintro rs τ Q ⟨x, rfl, hx, h⟩
  walk_at "X"
  cases hx with
  | tup xs hx =>
    walk_at "X"
    match xs, hx, h with
    | [], hx, h => walk_at "X"; exact h
    | [a], hx, h => walk_at "X"; exact h
    | [a, b], hx, h => walk_at "X"; exact h
    | [a, b, c], hx, h =>
      have ha := hx a (by simp)
      have hb := hx b (by simp)
      have hc := hx c (by simp)
      walk_at "X"
      cases ha with
      | tup ps hp =>
        walk_at "X"
        rw [show decide ((4 : Int) < (ps.length : Int)) = !decide (ps.length ≤ 4) by
          rw [Bool.eq_iff_iff, Bool.not_eq_true', decide_eq_true_eq, decide_eq_false_iff_not]
          omega]
        have h : Q (.d (.bool ((decide (ps.length ≤ 4) && ps.all paramD) && (isKindD b && wholeD c)))) τ := h
        refine kIfS_of (fun e => ?_) fun e => ?_
        · walk_at "X"
          rw [Bool.not_eq_true'] at e
          rw [e] at h
          exact h
        rw [Bool.not_eq_false'] at e
        rw [e, Bool.true_and] at h
        walk_at "X"
        refine for_inv (fun j env τ' => τ' = τ ∧ (∃ x1, env = [.d (.tuple [.tuple ps, b, c]), x1]) ∧ (ps.take j).all paramD = true) ps _ _ ⟨rfl, ⟨_, rfl⟩, rfl⟩ ?_ ?_
        · rintro j p env τ' ej ⟨rfl, ⟨x1, rfl⟩, ha⟩ kn hkn
          have hpj := hp p (List.mem_of_getElem? ej)
          have no : paramD p = false → Q (.d (.bool false)) τ' := fun z => by
            have : ps.all paramD = false := by
              rw [Bool.eq_false_iff, Ne, List.all_eq_true]
              intro q
              rw [q p (List.mem_of_getElem? ej)] at z
              cases z
            rw [this, Bool.false_and] at h
            exact h
          have yes : paramD p = true → (ps.take (j + 1)).all paramD = true := fun z => by
            rw [List.take_add_one, ej, List.all_append, ha]
            simp [z]
          walk_at "X"
          cases hpj with
          | tup qs hq =>
            walk_at "X"
            match qs, hq, no, yes with
            | [], hq, no, yes => walk_at "X"; exact no rfl
            | [a], hq, no, yes => walk_at "X"; exact no rfl
            | [a, k], hq, no, yes =>
              have hqa := hq a (by simp)
              have hqk := hq k (by simp)
              walk_at "X"
              refine ⟨"name", a, rfl, hqa, by decide, ?_⟩
              walk_at "X"
              have no : (isNameD a && isKindD k) = false → Q (.d (.bool false)) τ' := no
              have yes : (isNameD a && isKindD k) = true → (ps.take (j + 1)).all paramD = true := yes
              refine kOrT_or (c := !isKindD k) (fun _ Q' q => ?_) ?_
              · walk_at "X"
                refine ⟨k, rfl, hqk, ?_⟩
                walk_at "X"
                exact q
              rw [sort_name, ← Bool.not_and]
              refine kIfS_of (fun e => ?_) fun e => ?_
              · walk_at "X"
                exact no (by rw [Bool.not_eq_true'] at e; exact e)
              · rw [Bool.not_eq_false'] at e
                walk_at "X"
                exact hkn _ _ ⟨rfl, ⟨_, rfl⟩, yes e⟩
            | a :: k :: d :: r, hq, no, yes =>
              walk_at "X"
              refine kOrT_cast (c := true) (by rw [decide_eq_false (by omega)]; rfl) ?_
              walk_at "X"
              exact no rfl
          | _ => walk_at "X"; exact no rfl
        rintro env _ ⟨rfl, ⟨x1, rfl⟩, ha⟩
        rw [List.take_length] at ha
        rw [ha, Bool.true_and] at h
        walk_at "X"
        refine ⟨b, rfl, hb, ?_⟩
        walk_at "X"
        refine kAndB_and (c := wholeD c) (fun e Q' q => ?_) (by walk_at "X"; exact h)
        walk_at "X"
        refine many_call (n := 20) (j := 24) (by decide) hc (by decide) ?_
        walk_at "X"
        rw [← many_whole] at q
        rw [show decide (((manyD 20 false c : Nat) : Int) ≤ 40) = decide (manyD 20 false c ≤ 40) from decide_eq_decide.mpr (by omega)]
        exact q
      | _ => walk_at "X"; exact h
    | a :: b :: c :: d :: t, hx, h =>
      walk_at "X"
      rw [decide_eq_false (show ¬ ((t.length + 1 + 1 + 1 + 1 : Nat) : Int) = 3 by omega)]
      walk_at "X"
      exact h
  | _ => walk_at "X"; exact h
theorem ok__law_right {f : Addr} {fd : FuncData} (T : Txt K mg ca) (F : Fun K "_law_right" "_law_right" s__law_right f fd) (k_is_program : Known P w K mg base (theT (Ts ca)) "is_program" ["thing"] 7 (FF_is_program)) (k__law_is_told : KnownG P w K mg base (theT (Ts ca)) "_law_is_told" ["_law_thing"] 29 (FF__law_is_told)) :
    FnG P w K mg base 30 f fd ["_law_thing"] (spD (theT (Ts ca)) K (FF__law_right)) := by
  refine okG F sc__law_right (by walk_at "v") (by decide) fun cdv A outer s H E G Fp hcd hr => ⟨_, (dss_cons (ds_set (i := 1) sc__law_right.nd rfl (by first | exact .inl rfl | exact .inr rfl) (de_callK rfl k_is_program (hr.r.mono (by decide)) (by rfl) (da_cons (de_var (pv 0)) da_nil)))
      (dss_one (ds_ret (de_and rfl (de_callB call_isi (cd_isi rfl) (by rfl) T.b_isinstance (by decide +kernel) (da_cons (de_var (pv 1)) (da_cons (de_ty (n := "bool") (by rfl) T.b_bool (by decide +kernel)) da_nil))) (de_one (de_cmp (op_eqA hr.units) (od_eq rfl) (de_var (pv 1)) (de_callG rfl k__law_is_told (hr.mono (by decide)) (by rfl) (da_cons (de_var (pv 0)) da_nil)) (nomark _))))))), ?_⟩
  dsimp only [Bk.T, theT]
  rintro rs τ Q ⟨x, rfl, hx, h⟩
  walk_at "X"
  refine ⟨x, rfl, hx, ?_⟩
  walk_at "X"
  refine ⟨x, rfl, hx, ?_⟩
  walk_at "X"
  exact h
theorem ok__law_bent (j : Nat) {f : Addr} {fd : FuncData} (T : Txt K mg ca) (F : Fun K "_law_bent" "_law_bent" s__law_bent f fd) (k__law_next : Known P w K mg base (theT (Ts ca)) "_law_next" ["_law_draw", "_law_many_here"] 2 (FF_next)) (k__law_bent : KnownG P w K mg base (theT (Ts ca)) "_law_bent" ["_law_draw", "_law_thing"] (2 + 1 * j) (FF__law_bent_ j)) :
    FnG P w K mg base (2 + 1 * j + 1) f fd ["_law_draw", "_law_thing"] (spD (theT (Ts ca)) K (FF__law_bent_ (j + 1))) := by
  refine okG F sc__law_bent (by walk_at "v") (by decide) fun cdv A outer s H E G Fp hcd hr => ⟨_, (dss_cons (ds_if (dt_w (dw_and (dt_tru rfl (de_callB call_isi (cd_isi rfl) (by rfl) T.b_isinstance (by decide +kernel) (da_cons (de_var (pv 1)) (da_cons (de_ty (n := "tuple") (by rfl) T.b_tuple (by decide +kernel)) da_nil)))) (dw_and (dt_cmp (op_ne0 hr.units) (od_eq0 rfl) (de_var (pv 1)) (de_tup da_nil) (nomark _)) (dw_and1 (dt_cmp op_gtA od_cmp (de_callK rfl k__law_next (hr.r.mono (by omega)) (by rfl) (da_cons (de_var (pv 0)) (da_cons de_int da_nil))) de_int (nomark _))))))
        (dss_cons (ds_set (i := 2) sc__law_bent.nd rfl (by first | exact .inl rfl | exact .inr rfl) (de_callK rfl k__law_next (hr.r.mono (by omega)) (by rfl) (da_cons (de_var (pv 0)) (da_cons (de_callB call_len (cd_len rfl) (by rfl) T.b_len (by decide +kernel) (da_cons (de_var (pv 1)) da_nil)) da_nil))))
        (dss_cons (ds_if (dt_cmp (op_eqA hr.units) (od_eq rfl) (de_callK rfl k__law_next (hr.r.mono (by omega)) (by rfl) (da_cons (de_var (pv 0)) (da_cons de_int da_nil))) de_int (nomark _))
          (dss_one (ds_ret (de_op op_addA (od_add rfl) (de_op op_addA (od_add rfl) (de_slice rfl (de_var (pv 1)) do_none (do_some (de_var (pv 2)))) (de_op op_mulT (od_mulTM rfl) (de_slice rfl (de_var (pv 1)) (do_some (de_var (pv 2))) (do_some (de_op op_addA (od_add rfl) (de_var (pv 2)) de_int))) (de_op op_mulB (od_mulB rfl) de_int (de_callK rfl k__law_next (hr.r.mono (by omega)) (by rfl) (da_cons (de_var (pv 0)) (da_cons de_int da_nil)))))) (de_slice rfl (de_var (pv 1)) (do_some (de_op op_addA (od_add rfl) (de_var (pv 2)) de_int)) do_none))))
          dss_nil)
        (dss_one (ds_ret (de_op op_addA (od_add rfl) (de_op op_addA (od_add rfl) (de_slice rfl (de_var (pv 1)) do_none (do_some (de_var (pv 2)))) (de_tup (da_cons (de_callG rfl k__law_bent (hr.mono (by omega)) (by rfl) (da_cons (de_var (pv 0)) (da_cons (de_ix ix_A (od_ix rfl) (de_var (pv 1)) (de_var (pv 2)) (fun _ _ => rfl)) da_nil))) da_nil))) (de_slice rfl (de_var (pv 1)) (do_some (de_op op_addA (od_add rfl) (de_var (pv 2)) de_int)) do_none))))))
        dss_nil)
      (dss_cons (ds_set (i := 3) sc__law_bent.nd rfl (by first | exact .inl rfl | exact .inr rfl) (de_lst (da_cons de_non (da_cons de_int (da_cons de_bl (da_cons de_str (da_cons de_str (da_cons de_str (da_cons de_str (da_cons de_str (da_cons (de_tup da_nil) (da_cons (de_tup (da_cons de_str da_nil)) (da_cons (de_tup (da_cons de_str (da_cons de_str (da_cons de_str da_nil)))) (da_cons (de_lst (da_cons de_str da_nil)) (da_cons de_emp (da_cons (de_neg de_int) (da_cons de_int (da_cons de_int (da_cons (de_neg de_int) da_nil)))))))))))))))))))
      (dss_cons (ds_set (i := 3) sc__law_bent.nd rfl (by first | exact .inl rfl | exact .inr rfl) (de_op op_addA (od_add rfl) (de_var (pv 3)) (de_lst (da_cons de_int (da_cons de_int (da_cons (de_neg de_int) (da_cons de_str (da_cons de_str (da_cons de_str (da_cons (de_tup (da_cons de_str da_nil)) (da_cons (de_tup (da_cons de_str (da_cons de_int da_nil))) (da_cons (de_tup (da_cons de_str da_nil)) (da_cons (de_tup (da_cons de_str (da_cons de_str da_nil))) (da_cons de_int (da_cons de_bl da_nil)))))))))))))))
      (dss_one (ds_ret (de_ix ix_A (od_ix rfl) (de_op op_addA (od_add rfl) (de_var (pv 3)) (de_lst (da_cons (de_if (dt_tru rfl (de_callB call_isi (cd_isi rfl) (by rfl) T.b_isinstance (by decide +kernel) (da_cons (de_var (pv 1)) (da_cons (de_ty (n := "tuple") (by rfl) T.b_tuple (by decide +kernel)) da_nil)))) (de_callTy call_list_of (cd_list rfl) (by rfl) T.b_list (by decide +kernel) (da_cons (de_var (pv 1)) da_nil)) (de_var (pv 1))) da_nil))) (de_callK rfl k__law_next (hr.r.mono (by omega)) (by rfl) (da_cons (de_var (pv 0)) (da_cons de_int da_nil))) (fun _ _ => rfl))))))), ?_⟩
  dsimp only [Bk.T, theT]
  rintro rs τ Q ⟨a, b, cs, n, L, x, rfl, rfl, hx, hns, hn, hL, hb, q⟩
  refine sq_seq (fun e τ' => ∃ x2 b2, e = [.raw (.ref a), .d x, x2, .no] ∧ τ' = ⟨.on a b2, cs⟩ ∧ b ≤ b2 + 1) (fun N h => ?_) ?_
  · cases hx with
    | tup xs hxs =>
      walk_at "X"
      refine kAndT_any (fun c τ' => ∃ b2, τ' = ⟨.on a b2, cs⟩ ∧ b ≤ b2 + 1 ∧ (c = true → xs ≠ [])) (fun _ => ⟨b, rfl, by omega, nofun⟩) (fun e Q' q' => ?_) ?_
      · walk_at "X"
        refine nextT (by omega) (by decide) (by decide) fun n0 a0 b0 => ?_
        walk_at "X"
        exact q' _ _ ⟨_, rfl, by omega, fun _ z => by rw [z] at e; cases e⟩
      rintro c _ ⟨b2, rfl, hb2, hc⟩
      refine kIfS_of (fun ec => ?_) fun ec => ?_
      · have hne := hc ec
        have hl1 : 1 ≤ xs.length := by
          cases xs with
          | nil => exact absurd rfl hne
          | cons a t => rw [List.length_cons]; omega
        cases n with
        | zero => exact absurd rfl (hns xs)
        | succ n =>
          obtain ⟨hll, hns2⟩ := hns xs rfl
          walk_at "X"
          refine nextT (by omega) (by omega) (by omega) fun i i0 i1 => ?_
          walk_at "X"
          refine nextT (by omega) (by decide) (by decide) fun n2 a2 b2' => ?_
          walk_at "X"
          refine kIfS_of (fun e9 => ?_) fun e9 => ?_
          · walk_at "X"
            refine nextT (by omega) (by decide) (by decide) fun n3 a3 b3 => ?_
            walk_at "X"
            refine ⟨by unfold CMul; exact .inl ⟨by decide, by decide⟩, ?_⟩
            refine ⟨_, 2 * n3, rfl, rfl, cut_ne i0 i1, ⟨by omega, by omega⟩, by have := cutD_len xs (some i) (some (i + 1)); omega, ?_⟩
            have hrl : (List.replicate (2 * n3).toNat (cutL xs (some i) (some (i + 1)))).flatten.length ≤ 2 * L := by
              have hc := cutD_len xs (some i) (some (i + 1))
              have ht : (2 * n3).toNat ≤ 2 := by omega
              have := Nat.mul_le_mul ht (Nat.le_trans hc hll)
              rw [List.length_flatten, List.map_replicate, List.sum_replicate_nat]
              exact this
            have hrm : ∀ y ∈ (List.replicate (2 * n3).toNat (cutL xs (some i) (some (i + 1)))).flatten, y ∈ xs := fun y hy => cut_mem (rep_mem hy)
            generalize (List.replicate (2 * n3).toNat (cutL xs (some i) (some (i + 1)))).flatten = R at hrl hrm ⊢
            walk_at "X"
            have hp := cutD_len xs none (some i)
            have hs := cutD_len xs (some (i + 1)) none
            have hpm : ∀ z ∈ cutL xs none (some i), z ∈ xs := fun z hz => cut_mem hz
            have hsm : ∀ z ∈ cutL xs (some (i + 1)) none, z ∈ xs := fun z hz => cut_mem hz
            generalize cutL xs none (some i) = A at hp hpm ⊢
            generalize cutL xs (some (i + 1)) none = C at hs hsm ⊢
            have hall : ∀ z ∈ A ++ R ++ C, PlA z ∧ nst (4 * L + 8) n z := fun z hz => by
              have hz : z ∈ xs := by
                rcases List.mem_append.mp hz with hz | hz
                · rcases List.mem_append.mp hz with hz | hz
                  · exact hpm z hz
                  · exact hrm z hz
                · exact hsm z hz
              exact ⟨hxs z hz, nst_wide (by omega) (hns2 z hz)⟩
            refine ⟨by rw [sizeLine_eq]; omega, by rw [List.length_append, sizeLine_eq]; omega, q _ _ (by omega) (.tup _ fun z hz => (hall z hz).1) (nst_succ (nst_tup (by rw [List.length_append, List.length_append]; omega) fun z hz => (hall z hz).2))⟩
          · walk_at "X"
            refine kAt_of i0 i1 fun z ez hz => ?_
            walk_at "X"
            refine bent_call (n := n) (L := L) (by omega) (hxs z hz) (hns2 z hz) hL (by omega) fun y b4 hb4 hy hyn => ?_
            walk_at "X"
            have hp := cutD_len xs none (some i)
            have hs := cutD_len xs (some (i + 1)) none
            have hpm : ∀ z ∈ cutL xs none (some i), z ∈ xs := fun z hz => cut_mem hz
            have hsm : ∀ z ∈ cutL xs (some (i + 1)) none, z ∈ xs := fun z hz => cut_mem hz
            generalize cutL xs none (some i) = A at hp hpm ⊢
            generalize cutL xs (some (i + 1)) none = C at hs hsm ⊢
            have hall : ∀ z ∈ A ++ [y] ++ C, PlA z ∧ nst (4 * L + 8) (n + 1) z := fun z hz => by
              rcases List.mem_append.mp hz with hz | hz
              · rcases List.mem_append.mp hz with hz | hz
                · exact ⟨hxs z (hpm z hz), nst_succ (nst_wide (by omega) (hns2 z (hpm z hz)))⟩
                · rw [List.mem_singleton.mp hz]; exact ⟨hy, hyn⟩
              · exact ⟨hxs z (hsm z hz), nst_succ (nst_wide (by omega) (hns2 z (hsm z hz)))⟩
            refine ⟨by rw [sizeLine_eq]; omega, by rw [List.length_append, List.length_singleton, sizeLine_eq]; omega, q _ _ (by omega) (.tup _ fun z hz => (hall z hz).1) (nst_tup (by rw [List.length_append, List.length_append, List.length_singleton]; omega) fun z hz => (hall z hz).2)⟩
      · walk_at "X"
        exact h _ _ ⟨_, _, rfl, rfl, by omega⟩
    | _ => walk_at "X"; exact h _ _ ⟨_, _, rfl, rfl, by omega⟩
  rintro _ _ ⟨x2, b2, rfl, rfl, hb2⟩
  refine sq_seq (fun e τ' => ∃ ys, e = [.raw (.ref a), .d x, x2, .ol ys] ∧ τ' = ⟨.on a b2, cs⟩ ∧ ys.length = 17 ∧ ∀ y ∈ ys, PlA y ∧ nst 3 1 y) (fun N h => ?_) ?_
  · walk_at "X"
    refine h _ _ ⟨_, rfl, rfl, rfl, fun y hy => ?_⟩
    exact pnB_ok (List.all_eq_true.mp (by decide +kernel) y hy)
  rintro _ _ ⟨ys, rfl, rfl, hyl, hys⟩
  refine sq_seq (fun e τ' => ∃ ys, e = [.raw (.ref a), .d x, x2, .ol ys] ∧ τ' = ⟨.on a b2, cs⟩ ∧ ys.length = 29 ∧ ∀ y ∈ ys, PlA y ∧ nst 3 1 y) (fun N h => ?_) ?_
  · walk_at "X"
    refine ⟨by rw [sizeLine_eq]; omega, ?_⟩
    refine h _ _ ⟨_, rfl, rfl, by rw [List.length_append, hyl]; rfl, fun y hy => ?_⟩
    rcases List.mem_append.mp hy with hy | hy
    · exact hys y hy
    · exact pnB_ok (List.all_eq_true.mp (by decide +kernel) y hy)
  rintro _ _ ⟨ys, rfl, rfl, hyl, hys⟩
  walk_at "X"
  have fin : ∀ v : D, PlA v → nst (4 * L + 8) (n + 1) v → ys.length + 1 ≤ sizeLine ∧ FF_next [.raw (.ref a), .d (.int 30)] ⟨.on a b2, cs⟩ (kOp2 gIx (.ol (ys ++ [v])) (kRet { nx := fun x τ' => Q (SV.d PyData.none) τ', rt := Q })) := fun v hv hvn => by
    refine ⟨by rw [sizeLine_eq]; omega, ?_⟩
    refine nextT (by omega) (by decide) (by decide) fun n3 a3 b3 => ?_
    walk_at "X"
    refine kAt_of a3 (by rw [List.length_append, hyl]; exact b3) fun z ez hz => ?_
    walk_at "X"
    rcases List.mem_append.mp hz with hz | hz
    · exact q _ _ (by omega) (hys z hz).1 (nst_le (nst_wide (by omega) (hys z hz).2) (by omega))
    · rw [List.mem_singleton.mp hz]
      exact q _ _ (by omega) hv hvn
  have hw : nst (4 * L + 8) (n + 1) x := nst_succ (nst_wide (by omega) hns)
  cases hx with
  | tup xs hxs =>
    walk_at "X"
    exact fin _ (.lst xs hxs) (nst_flat (by intro xs; nofun))
  | non => walk_at "X"; exact fin _ .non hw
  | bl c => walk_at "X"; exact fin _ (.bl c) hw
  | int i => walk_at "X"; exact fin _ (.int i) hw
  | str s hs => walk_at "X"; exact fin _ (.str s hs) hw
  | emp => walk_at "X"; exact fin _ .emp hw
  | lst xs hxs => walk_at "X"; exact fin _ (.lst xs hxs) hw
theorem ok_law {f : Addr} {fd : FuncData} (T : Txt K mg ca) (F : Fun K "law" "law" s_law f fd) (k__law_far_right : KnownG P w K mg base (theT (Ts ca)) "_law_far_right" [] 8 (FF__law_far_right)) (k__law_begin : Known P w K mg base (theT (Ts ca)) "_law_begin" ["_law_script"] 1 (FF_begin)) (k__law_program : KnownG P w K mg base (theT (Ts ca)) "_law_program" ["_law_draw"] 24 (FF__law_program)) (k__law_right : KnownG P w K mg base (theT (Ts ca)) "_law_right" ["_law_thing"] 30 (FF__law_right)) (k_is_program : Known P w K mg base (theT (Ts ca)) "is_program" ["thing"] 7 (FF_is_program)) (k__law_bent : KnownG P w K mg base (theT (Ts ca)) "_law_bent" ["_law_draw", "_law_thing"] 66 (FF__law_bent)) (k__law_bounds : KnownG P w K mg base (theT (Ts ca)) "_law_bounds" ["_law_draw"] 10 (FF__law_bounds)) :
    FnG P w K mg base 67 f fd ["_law_script"] (spD (theT (Ts ca)) K (FF_lawT)) := by
  refine okG F sc_law (by walk_at "v") (by decide) fun cdv A outer s H E G Fp hcd hr => ⟨_, (dss_cons (ds_if (dt_not (dt_tru rfl (de_callG0 rfl k__law_far_right (hr.mono (by decide)) (by rfl))))
        (dss_one (ds_ret de_bl))
        dss_nil)
      (dss_cons (ds_set (i := 1) sc_law.nd rfl (by first | exact .inl rfl | exact .inr rfl) (de_callK rfl k__law_begin (hr.r.mono (by decide)) (by rfl) (da_cons (de_var (pv 0)) da_nil)))
      (dss_cons (ds_for PassesOwn.never rfl (di_range1 (by rfl) T.b_range (da_cons de_int da_nil)) (dg_nm (i := 2) sc_law.nd rfl (by first | exact .inl rfl | exact .inr rfl))
        (dss_cons (ds_set (i := 3) sc_law.nd rfl (by first | exact .inl rfl | exact .inr rfl) (de_callG rfl k__law_program (hr.mono (by decide)) (by rfl) (da_cons (de_var (pv 1)) da_nil)))
        (dss_cons (ds_set (i := 4) sc_law.nd rfl (by first | exact .inl rfl | exact .inr rfl) (de_callB (cr_reprE hr.g hr.un) (cd_reprE rfl) (by rfl) T.b_repr (by decide +kernel) (da_cons (de_var (pv 3)) da_nil)))
        (dss_cons (ds_if (dt_w (dw_or (dt_cmp op_notBl od_notB (de_callK rfl k_is_program (hr.r.mono (by decide)) (by rfl) (da_cons (de_var (pv 3)) da_nil)) de_bl (nomark _)) (dw_or (dt_not (dt_tru rfl (de_callG rfl k__law_right (hr.mono (by decide)) (by rfl) (da_cons (de_var (pv 3)) da_nil)))) (dw_or1 (dt_cmp (op_neA hr.units) (od_ne rfl) (de_callB (cr_reprE hr.g hr.un) (cd_reprE rfl) (by rfl) T.b_repr (by decide +kernel) (da_cons (de_var (pv 3)) da_nil)) (de_var (pv 4)) (nomark _))))))
          (dss_one (ds_ret de_bl))
          dss_nil)
        (dss_one (ds_for PassesOwn.never rfl (di_range1 (by rfl) T.b_range (da_cons de_int da_nil)) (dg_nm (i := 5) sc_law.nd rfl (by first | exact .inl rfl | exact .inr rfl))
          (dss_cons (ds_set (i := 6) sc_law.nd rfl (by first | exact .inl rfl | exact .inr rfl) (de_callG rfl k__law_bent (hr.mono (by decide)) (by rfl) (da_cons (de_var (pv 1)) (da_cons (de_var (pv 3)) da_nil))))
          (dss_one (ds_if (dt_w (dw_or (dt_not (dt_tru rfl (de_callG rfl k__law_right (hr.mono (by decide)) (by rfl) (da_cons (de_var (pv 6)) da_nil)))) (dw_or1 (dt_not (dt_tru rfl (de_callG rfl k__law_right (hr.mono (by decide)) (by rfl) (da_cons (de_callG rfl k__law_bent (hr.mono (by decide)) (by rfl) (da_cons (de_var (pv 1)) (da_cons (de_var (pv 6)) da_nil))) da_nil)))))))
            (dss_one (ds_ret de_bl))
            dss_nil)))))))))
      (dss_cons (ds_if (dt_cmp (op_ne0 hr.units) (od_eq0 rfl) (de_lc (own := [("_law_one_here", 8)]) rfl sc_law.nd (di_seq rfl (de_callG rfl k__law_bounds (hr.mono (by decide)) (by rfl) (da_cons (de_var (pv 1)) da_nil))) (blkOk_by (by kernel_rfl)) (by decide) (fun _ _ _ _ _ => (dg_nm (i := 8) sc_law.nd rfl (by first | exact .inl rfl | exact .inr rfl))) (fun _ _ _ _ _ => (dts_one (dt_not (dt_tru rfl (de_callG rfl k__law_right (hr.mono (by decide)) (by rfl) (da_cons (de_var (pv 8)) da_nil)))))) (fun _ _ _ _ _ => (de_var (pv 8)))) (de_lst da_nil) (nomark _))
        (dss_one (ds_ret de_bl))
        dss_nil)
      (dss_cons (ds_set (i := 7) sc_law.nd rfl (by first | exact .inl rfl | exact .inr rfl) (de_lst (da_cons de_non (da_cons de_int (da_cons de_str (da_cons (de_lst da_nil) (da_cons de_emp (da_cons (de_tup da_nil) (da_cons (de_tup (da_cons (de_tup da_nil) (da_cons (de_tup da_nil) (da_cons (de_tup da_nil) da_nil)))) (da_cons (de_tup (da_cons (de_lst da_nil) (da_cons (de_tup da_nil) (da_cons (de_tup da_nil) da_nil)))) (da_cons (de_tup (da_cons (de_tup (da_cons de_non da_nil)) (da_cons de_non (da_cons de_non da_nil)))) da_nil)))))))))))
      (dss_one (ds_frz (i := 7) (ds_ret (de_cmp (op_eq0 hr.units) (od_eq0 rfl) (de_lc (own := [("_law_thing", 9)]) rfl sc_law.nd (di_seq rfl (de_var (pv 7))) (blkOk_by (by kernel_rfl)) (by decide) (fun _ _ _ _ _ => (dg_nm (i := 9) sc_law.nd rfl (by first | exact .inl rfl | exact .inr rfl))) (fun _ _ _ _ _ => (dts_one (dt_not (dt_tru rfl (de_callG rfl k__law_right (hr.mono (by decide)) (by rfl) (da_cons (de_var (pv 9)) da_nil)))))) (fun _ _ _ _ _ => (de_var (pv 9)))) (de_lst da_nil) (nomark _)))))))))), ?_⟩
  dsimp only [Bk.T, theT]
  rintro rs τ Q ⟨ns, rfl, hns, hτ, h⟩
  refine sq_seq (fun e τ' => τ' = τ ∧ e = [.d (.list (ns.map .int)), .no, .no, .no, .no, .no, .no, .no, .no, .no]) (fun N hN => ?_) ?_
  · walk_at "X"
    refine ⟨rfl, ?_⟩
    walk_at "X"
    exact hN _ _ ⟨rfl, rfl⟩
  rintro _ _ ⟨rfl, rfl⟩
  refine sq_seq (fun e τ' => ∃ a, τ' = ⟨.on a 1152921504606846976, []⟩ ∧ e = [.d (.list (ns.map .int)), .raw (.ref a), .no, .no, .no, .no, .no, .no, .no, .no]) (fun N hN => ?_) ?_
  · walk_at "X"
    refine ⟨ns, [], rfl, hns, hτ, fun a => ?_⟩
    walk_at "X"
    exact hN _ _ ⟨a, rfl, rfl⟩
  rintro _ _ ⟨a, rfl, rfl⟩
  refine sq_seq (fun e τ' => ∃ (b : Nat) (x2 x3 x4 x5 x6 : SV), τ' = ⟨.on a b, []⟩ ∧ 1000000 ≤ b ∧ e = [.d (.list (ns.map .int)), .raw (.ref a), x2, x3, x4, x5, x6, .no, .no, .no]) (fun N hN => ?_) ?_
  · walk_at "X"
    refine ⟨by decide, ?_⟩
    refine for_inv (fun j env τ' => ∃ (b : Nat) (x2 x3 x4 x5 x6 : SV), τ' = ⟨.on a b, []⟩ ∧ 1152921504606846976 ≤ b + 20000 * j ∧ env = [.d (.list (ns.map .int)), .raw (.ref a), x2, x3, x4, x5, x6, .no, .no, .no]) _ _ _ ⟨_, _, _, _, _, _, rfl, by omega, rfl⟩ ?_ ?_
    · rintro j v env _ ej ⟨b, x2, x3, x4, x5, x6, rfl, hb, rfl⟩ kn hkn
      obtain ⟨hj, rfl⟩ := rgI_get ej
      have hj : j < 4 := hj
      walk_at "X"
      refine ⟨a, b, rfl, rfl, by omega, fun x b2 hb2 hx => ?_⟩
      have hrep := hx.rb.rep (by decide) (by decide)
      walk_at "X"
      refine gReprE_ok hrep ?_
      walk_at "X"
      refine ⟨x, rfl, hx.pl, ?_⟩
      rw [hx.is]
      walk_at "X"
      refine gNotB_b ?_
      rw [show (!decide (true = true)) = false from rfl]
      walk_at "X"
      refine ⟨x, rfl, hx.pl, ?_⟩
      walk_at "X"
      refine gReprE_ok hrep ?_
      walk_at "X"
      refine kIfS_cast (c := false) (by rw [str_eqv]; simp) ?_
      walk_at "X"
      refine ⟨by decide, ?_⟩
      refine for_inv (fun i env τ' => ∃ (b3 : Nat) (y5 y6 : SV), τ' = ⟨.on a b3, []⟩ ∧ b2 ≤ b3 + 1000 * i ∧ env = [.d (.list (ns.map .int)), .raw (.ref a), .d (.int (0 + (j : Nat))), .d x, .d (.str x.shown), y5, y6, .no, .no, .no]) _ _ _ ⟨b2, _, _, rfl, by omega, rfl⟩ ?_ ?_
      · rintro i v env _ ei ⟨b3, y5, y6, rfl, hb3, rfl⟩ kn2 hkn2
        obtain ⟨hi, rfl⟩ := rgI_get ei
        have hi : i < 2 := hi
        walk_at "X"
        refine bent_call (j := 64) (n := 50) (L := 9) (by decide) hx.pl hx.ns (by decide) (by omega) fun y b4 hb4 hy hyn => ?_
        walk_at "X"
        refine ⟨y, rfl, hy, ?_⟩
        walk_at "X"
        refine bent_call (j := 64) (n := 51) (L := 44) (by decide) hy hyn (by decide) (by omega) fun z b5 hb5 hz hzn => ?_
        walk_at "X"
        refine ⟨z, rfl, hz, ?_⟩
        walk_at "X"
        exact hkn2 _ _ ⟨b5, _, _, rfl, by omega, rfl⟩
      rintro env _ ⟨b3, y5, y6, rfl, hb3, rfl⟩
      rw [rgI_len] at hb3
      have hb3 : b2 ≤ b3 + 1000 * 2 := hb3
      exact hkn _ _ ⟨b3, _, _, _, _, _, rfl, by omega, rfl⟩
    rintro env _ ⟨b, x2, x3, x4, x5, x6, rfl, hb, rfl⟩
    rw [rgI_len] at hb
    have hb : 1152921504606846976 ≤ b + 20000 * 4 := hb
    walk_at "X"
    exact hN _ _ ⟨b, x2, x3, x4, x5, x6, rfl, by omega, rfl⟩
  rintro _ _ ⟨b, x2, x3, x4, x5, x6, rfl, hb, rfl⟩
  refine sq_seq (fun e τ' => ∃ (b : Nat), τ' = ⟨.on a b, []⟩ ∧ e = [.d (.list (ns.map .int)), .raw (.ref a), x2, x3, x4, x5, x6, .no, .no, .no]) (fun N hN => ?_) ?_
  · walk_at "X"
    refine ⟨a, b, [], rfl, rfl, by omega, fun xs b2 hb2 hxl hxs => ?_⟩
    walk_at "X"
    rw [show xs = xs.map (fun x : D => x) from (List.map_id _).symm]
    refine lc_filt (fun x : D => x) (fun x => x) (fun _ => false) xs (fun x hx kc k0 z1 z2 => ?_) (by rw [sizeLine_eq]; omega) ?_
    · walk_at "X"
      refine ⟨x, rfl, hxs x hx, ?_⟩
      walk_at "X"
      exact z2 rfl
    rw [show xs.filter (fun _ => false) = [] from List.filter_eq_nil_iff.mpr fun _ _ => by simp]
    walk_at "X"
    exact hN _ _ ⟨b2, rfl, rfl⟩
  clear hb
  clear b
  rintro _ _ ⟨b, rfl, rfl⟩
  refine sq_seq (fun e τ' => ∃ ys : List D, (∀ y ∈ ys, PlA y) ∧ ys.length ≤ 9 ∧ τ' = ⟨.on a b, []⟩ ∧ e = [.d (.list (ns.map .int)), .raw (.ref a), x2, x3, x4, x5, x6, .ol ys, .no, .no]) (fun N hN => ?_) ?_
  · walk_at "X"
    refine hN _ _ ⟨_, fun y hy => ?_, by simp, rfl, rfl⟩
    simp only [List.mem_cons, List.not_mem_nil, or_false] at hy
    rcases hy with rfl | rfl | rfl | rfl | rfl | rfl | rfl | rfl | rfl
    · exact .non
    · exact .int _
    · exact lit_pla (by decide +kernel)
    · exact .lst _ nofun
    · exact .emp
    · exact pl_nil
    · exact .tup _ (three_in pl_nil pl_nil pl_nil)
    · exact .tup _ (three_in (.lst _ nofun) pl_nil pl_nil)
    · exact .tup _ (three_in (pl_cons .non pl_nil) .non .non)
  rintro _ _ ⟨ys, hys, hyl, rfl, rfl⟩
  walk_at "X"
  rw [show ys = ys.map (fun x : D => x) from (List.map_id _).symm]
  refine lc_filt (fun x : D => x) (fun x => x) (fun _ => false) ys (fun x hx kc k0 z1 z2 => ?_) (by rw [sizeLine_eq]; omega) ?_
  · walk_at "X"
    refine ⟨x, rfl, hys x hx, ?_⟩
    walk_at "X"
    exact z2 rfl
  rw [show ys.filter (fun _ => false) = [] from List.filter_eq_nil_iff.mpr fun _ _ => by simp]
  walk_at "X"
  exact h _
end
/-! the defs of a law, known -/
section
variable {P : Program} {w : World} {K : PySem.W.Frag} {mg : Str → Option Value} {base : Heap} {S : Sto} {x : Str} {ps : List Str} {k : Nat} {f : Addr} {fd : FuncData}
theorem Known.o1 {FF : FW S.T} (h : FnOk P w K mg base CX0 k f fd ps (spD S K FF)) (m : mg x = some (.ref f)) (kp : PySem.W.keepIn K (.ref f) = true) (b : Binds K fd ps []) : Known P w K mg base S x ps k FF := ⟨f, fd, h, m, kp, b⟩
theorem KnownG.o1 {FF : FW S.T} (h : FnG P w K mg base k f fd ps (spD S K FF)) (m : mg x = some (.ref f)) (kp : PySem.W.keepIn K (.ref f) = true) (b : Binds K fd ps []) : KnownG P w K mg base S x ps k FF := ⟨f, fd, h, m, kp, b⟩
theorem KnownX.o1 {FX : FWX S.T} (h : FnOk P w K mg base (L2.CX P w) k f fd ps (spDX S K FX)) (m : mg x = some (.ref f)) (kp : PySem.W.keepIn K (.ref f) = true) (b : Binds K fd ps []) : KnownX P w K mg base S x ps k FX := ⟨f, fd, h, m, kp, b⟩
theorem fun_ex {qual : Str} {st : Stmt} {oc : Value} {od an : Option Addr} {osl : Array (Option Value)} {kV doc pm cdv ct : Value} (l : K.lookup f = some ⟨oc, od, .func (PySem.W.fnOf x qual (defArgs st) (defBody st) (defScope st) .none kV doc pm an cdv ct), osl⟩)
    (c : PySem.W.codeIn K cdv qual = true) (k : PySem.W.keepIn K (.ref f) = true) : ∃ fd, Fun K x qual st f fd := ⟨_, fun_mk l c k⟩
end
theorem us0 {P : List Value → Prop} (h : P []) (us : List Value) (hl : us.length = 0) : P us := match us, hl with | [], _ => h
theorem us6 {P : List Value → Prop} (h : ∀ a0, ∀ a1, ∀ a2, ∀ a3, ∀ a4, ∀ a5, P [a0, a1, a2, a3, a4, a5]) (us : List Value) (hl : us.length = 6) : P us := match us, hl with | [a0, a1, a2, a3, a4, a5], _ => h a0 a1 a2 a3 a4 a5
theorem us2 {P : List Value → Prop} (h : ∀ a0, ∀ a1, P [a0, a1]) (us : List Value) (hl : us.length = 2) : P us := match us, hl with | [a0, a1], _ => h a0 a1
theorem us1 {P : List Value → Prop} (h : ∀ a0, P [a0]) (us : List Value) (hl : us.length = 1) : P us := match us, hl with | [a0], _ => h a0
theorem us3 {P : List Value → Prop} (h : ∀ a0, ∀ a1, ∀ a2, P [a0, a1, a2]) (us : List Value) (hl : us.length = 3) : P us := match us, hl with | [a0, a1, a2], _ => h a0 a1 a2
theorem bd_is_whole {K : PySem.W.Frag} {f : Addr} {fd : FuncData} (F : Fun K "is_whole" "is_whole" s_is_whole f fd) : Binds K fd ["thing", "least", "most"] [] := F.binds fun _ _ _ _ _ _ => us3 fun _ _ _ => rfl
theorem bd_is_name {K : PySem.W.Frag} {f : Addr} {fd : FuncData} (F : Fun K "is_name" "is_name" s_is_name f fd) : Binds K fd ["thing"] [] := F.binds fun _ _ _ _ _ _ => us1 fun _ => rfl
theorem bd_is_number {K : PySem.W.Frag} {f : Addr} {fd : FuncData} (F : Fun K "is_number" "is_number" s_is_number f fd) : Binds K fd ["thing"] [] := F.binds fun _ _ _ _ _ _ => us1 fun _ => rfl
theorem bd_is_deed {K : PySem.W.Frag} {f : Addr} {fd : FuncData} (F : Fun K "is_deed" "is_deed" s_is_deed f fd) : Binds K fd ["thing", "many"] [] := F.binds fun _ _ _ _ _ _ => us2 fun _ _ => rfl
theorem bd_is_part_kinds {K : PySem.W.Frag} {f : Addr} {fd : FuncData} (F : Fun K "is_part" "is_part" s_is_part_kinds f fd) : Binds K fd ["at", "thing"] [] := F.binds fun _ _ _ _ _ _ => us2 fun _ _ => rfl
theorem bd_is_kind {K : PySem.W.Frag} {f : Addr} {fd : FuncData} (F : Fun K "is_kind" "is_kind" s_is_kind f fd) : Binds K fd ["thing"] [] := F.binds fun _ _ _ _ _ _ => us1 fun _ => rfl
theorem bd_are_names {K : PySem.W.Frag} {f : Addr} {fd : FuncData} (F : Fun K "are_names" "are_names" s_are_names f fd) : Binds K fd ["thing", "many"] [] := F.binds fun _ _ _ _ _ _ => us2 fun _ _ => rfl
theorem bd_is_let {K : PySem.W.Frag} {f : Addr} {fd : FuncData} (F : Fun K "is_let" "is_let" s_is_let f fd) : Binds K fd ["thing"] [] := F.binds fun _ _ _ _ _ _ => us1 fun _ => rfl
theorem bd_is_part_terms {K : PySem.W.Frag} {f : Addr} {fd : FuncData} (F : Fun K "is_part" "is_part" s_is_part_terms f fd) : Binds K fd ["thing"] [] := F.binds fun _ _ _ _ _ _ => us1 fun _ => rfl
theorem bd_is_going {K : PySem.W.Frag} {f : Addr} {fd : FuncData} (F : Fun K "is_going" "is_going" s_is_going f fd) : Binds K fd ["thing"] [] := F.binds fun _ _ _ _ _ _ => us1 fun _ => rfl
theorem bd_has_form {K : PySem.W.Frag} {f : Addr} {fd : FuncData} (F : Fun K "has_form" "has_form" s_has_form f fd) : Binds K fd ["thing"] [] := F.binds fun _ _ _ _ _ _ => us1 fun _ => rfl
theorem bd_terms_of {K : PySem.W.Frag} {f : Addr} {fd : FuncData} (F : Fun K "terms_of" "terms_of" s_terms_of f fd) : Binds K fd ["term"] [] := F.binds fun _ _ _ _ _ _ => us1 fun _ => rfl
theorem bd_places_of {K : PySem.W.Frag} {f : Addr} {fd : FuncData} (F : Fun K "places_of" "places_of" s_places_of f fd) : Binds K fd ["term"] [] := F.binds fun _ _ _ _ _ _ => us1 fun _ => rfl
theorem bd_is_whole_term {K : PySem.W.Frag} {f : Addr} {fd : FuncData} (F : Fun K "is_whole_term" "is_whole_term" s_is_whole_term f fd) : Binds K fd ["thing"] [] := F.binds fun _ _ _ _ _ _ => us1 fun _ => rfl
theorem bd_is_param {K : PySem.W.Frag} {f : Addr} {fd : FuncData} (F : Fun K "is_param" "is_param" s_is_param f fd) : Binds K fd ["thing"] [] := F.binds fun _ _ _ _ _ _ => us1 fun _ => rfl
theorem bd_is_program {K : PySem.W.Frag} {f : Addr} {fd : FuncData} (F : Fun K "is_program" "is_program" s_is_program f fd) : Binds K fd ["thing"] [] := F.binds fun _ _ _ _ _ _ => us1 fun _ => rfl
theorem bd__law_begin {K : PySem.W.Frag} {f : Addr} {fd : FuncData} (F : Fun K "_law_begin" "_law_begin" s__law_begin f fd) : Binds K fd ["_law_script"] [] := F.binds fun _ _ _ _ _ _ => us1 fun _ => rfl
theorem bd__law_mixed {K : PySem.W.Frag} {f : Addr} {fd : FuncData} (F : Fun K "_law_mixed" "_law_mixed" s__law_mixed f fd) : Binds K fd ["_law_cell", "_law_k"] [] := F.binds fun _ _ _ _ _ _ => us2 fun _ _ => rfl
theorem bd__law_next {K : PySem.W.Frag} {f : Addr} {fd : FuncData} (F : Fun K "_law_next" "_law_next" s__law_next f fd) : Binds K fd ["_law_draw", "_law_many_here"] [] := F.binds fun _ _ _ _ _ _ => us2 fun _ _ => rfl
theorem bd__law_deed {K : PySem.W.Frag} {f : Addr} {fd : FuncData} (F : Fun K "_law_deed" "_law_deed" s__law_deed f fd) : Binds K fd ["_law_draw", "_law_many_here"] [] := F.binds fun _ _ _ _ _ _ => us2 fun _ _ => rfl
theorem bd__law_kind {K : PySem.W.Frag} {f : Addr} {fd : FuncData} (F : Fun K "_law_kind" "_law_kind" s__law_kind f fd) : Binds K fd ["_law_draw"] [] := F.binds fun _ _ _ _ _ _ => us1 fun _ => rfl
theorem bd__law_names {K : PySem.W.Frag} {f : Addr} {fd : FuncData} (F : Fun K "_law_names" "_law_names" s__law_names f fd) : Binds K fd ["_law_draw", "_law_many_here"] [] := F.binds fun _ _ _ _ _ _ => us2 fun _ _ => rfl
theorem bd__law_one {K : PySem.W.Frag} {f : Addr} {fd : FuncData} (F : Fun K "_law_one" "_law_one" s__law_one f fd) : Binds K fd ["_law_draw", "_law_known"] [] := F.binds fun _ _ _ _ _ _ => us2 fun _ _ => rfl
theorem bd__law_term {K : PySem.W.Frag} {f : Addr} {fd : FuncData} (F : Fun K "_law_term" "_law_term" s__law_term f fd) : Binds K fd ["_law_draw", "_law_room", "_law_deep", "_law_known", "_law_fresh", "_law_is_inner"] [] := F.binds fun _ _ _ _ _ _ => us6 fun _ _ _ _ _ _ => rfl
theorem bd__law_within {K : PySem.W.Frag} {f : Addr} {fd : FuncData} (F : Fun K "_law_within" "_law_within" s__law_within f fd) : Binds K fd ["_law_term_here"] [] := F.binds fun _ _ _ _ _ _ => us1 fun _ => rfl
theorem bd__law_places {K : PySem.W.Frag} {f : Addr} {fd : FuncData} (F : Fun K "_law_places" "_law_places" s__law_places f fd) : Binds K fd ["_law_term_here"] [] := F.binds fun _ _ _ _ _ _ => us1 fun _ => rfl
theorem bd__law_program {K : PySem.W.Frag} {f : Addr} {fd : FuncData} (F : Fun K "_law_program" "_law_program" s__law_program f fd) : Binds K fd ["_law_draw"] [] := F.binds fun _ _ _ _ _ _ => us1 fun _ => rfl
theorem bd__law_is {K : PySem.W.Frag} {f : Addr} {fd : FuncData} (F : Fun K "_law_is" "_law_is" s__law_is f fd) : Binds K fd ["_law_sort", "_law_thing"] [] := F.binds fun _ _ _ _ _ _ => us2 fun _ _ => rfl
theorem bd__law_are {K : PySem.W.Frag} {f : Addr} {fd : FuncData} (F : Fun K "_law_are" "_law_are" s__law_are f fd) : Binds K fd ["_law_sorts", "_law_thing"] [] := F.binds fun _ _ _ _ _ _ => us2 fun _ _ => rfl
theorem bd__law_is_kind {K : PySem.W.Frag} {f : Addr} {fd : FuncData} (F : Fun K "_law_is_kind" "_law_is_kind" s__law_is_kind f fd) : Binds K fd ["_law_thing"] [] := F.binds fun _ _ _ _ _ _ => us1 fun _ => rfl
theorem bd__law_is_deed {K : PySem.W.Frag} {f : Addr} {fd : FuncData} (F : Fun K "_law_is_deed" "_law_is_deed" s__law_is_deed f fd) : Binds K fd ["_law_thing", "_law_many_here"] [] := F.binds fun _ _ _ _ _ _ => us2 fun _ _ => rfl
theorem bd__law_inner {K : PySem.W.Frag} {f : Addr} {fd : FuncData} (F : Fun K "_law_inner" "_law_inner" s__law_inner f fd) : Binds K fd ["_law_thing"] [] := F.binds fun _ _ _ _ _ _ => us1 fun _ => rfl
theorem bd__law_many {K : PySem.W.Frag} {f : Addr} {fd : FuncData} (F : Fun K "_law_many" "_law_many" s__law_many f fd) : Binds K fd ["_law_thing", "_law_deep", "_law_is_inside"] [] := F.binds fun _ _ _ _ _ _ => us3 fun _ _ _ => rfl
theorem bd__law_is_told {K : PySem.W.Frag} {f : Addr} {fd : FuncData} (F : Fun K "_law_is_told" "_law_is_told" s__law_is_told f fd) : Binds K fd ["_law_thing"] [] := F.binds fun _ _ _ _ _ _ => us1 fun _ => rfl
theorem bd__law_right {K : PySem.W.Frag} {f : Addr} {fd : FuncData} (F : Fun K "_law_right" "_law_right" s__law_right f fd) : Binds K fd ["_law_thing"] [] := F.binds fun _ _ _ _ _ _ => us1 fun _ => rfl
theorem bd__law_bent {K : PySem.W.Frag} {f : Addr} {fd : FuncData} (F : Fun K "_law_bent" "_law_bent" s__law_bent f fd) : Binds K fd ["_law_draw", "_law_thing"] [] := F.binds fun _ _ _ _ _ _ => us2 fun _ _ => rfl
theorem bd__law_wide {K : PySem.W.Frag} {f : Addr} {fd : FuncData} (F : Fun K "_law_wide" "_law_wide" s__law_wide f fd) : Binds K fd ["_law_many_here"] [] := F.binds fun _ _ _ _ _ _ => us1 fun _ => rfl
theorem bd__law_long {K : PySem.W.Frag} {f : Addr} {fd : FuncData} (F : Fun K "_law_long" "_law_long" s__law_long f fd) : Binds K fd ["_law_deep", "_law_many_here"] [] := F.binds fun _ _ _ _ _ _ => us2 fun _ _ => rfl
theorem bd__law_bounds {K : PySem.W.Frag} {f : Addr} {fd : FuncData} (F : Fun K "_law_bounds" "_law_bounds" s__law_bounds f fd) : Binds K fd ["_law_draw"] [] := F.binds fun _ _ _ _ _ _ => us1 fun _ => rfl
theorem bd__law_far_right {K : PySem.W.Frag} {f : Addr} {fd : FuncData} (F : Fun K "_law_far_right" "_law_far_right" s__law_far_right f fd) : Binds K fd [] [] := F.binds fun _ _ _ _ _ _ => us0 rfl
theorem all_mk {l : PySem.W.OpenLaw} {w : World} {K : PySem.W.Frag} {h : Heap} {mg : Str → Option Value} {fa f0 f1 f2 f3 f4 f5 f6 f7 f8 f9 f10 f11 f12 f13 f14 f15 f16 f17 f18 f19 f20 f21 f22 f23 f24 f25 f26 f27 f28 f29 f30 f31 f32 f33 f34 f35 f36 f37 f38 f39 f40 : Addr} (ca : Cas) (X : K.In h) (G : h.Ns mainGlobals mg) (hfa : mg "law" = some (.ref fa))
    {od0 an0 od1 an1 od2 an2 od3 an3 od4 an4 od5 an5 od6 an6 od7 an7 od8 an8 od9 an9 od10 an10 od11 an11 od12 an12 od13 an13 od14 an14 od15 an15 od16 an16 od17 an17 od18 an18 od19 an19 od20 an20 od21 an21 od22 an22 od23 an23 od24 an24 od25 an25 od26 an26 od27 an27 od28 an28 od29 an29 od30 an30 od31 an31 od32 an32 od33 an33 od34 an34 od35 an35 od36 an36 od37 an37 od38 an38 od39 an39 od40 an40 : Option Addr} {sl0 sl1 sl2 sl3 sl4 sl5 sl6 sl7 sl8 sl9 sl10 sl11 sl12 sl13 sl14 sl15 sl16 sl17 sl18 sl19 sl20 sl21 sl22 sl23 sl24 sl25 sl26 sl27 sl28 sl29 sl30 sl31 sl32 sl33 sl34 sl35 sl36 sl37 sl38 sl39 sl40 : Array (Option Value)}
    {oc0 kV0 dc0 pm0 ct0 cd0 oc1 kV1 dc1 pm1 ct1 cd1 oc2 kV2 dc2 pm2 ct2 cd2 oc3 kV3 dc3 pm3 ct3 cd3 oc4 kV4 dc4 pm4 ct4 cd4 oc5 kV5 dc5 pm5 ct5 cd5 oc6 kV6 dc6 pm6 ct6 cd6 oc7 kV7 dc7 pm7 ct7 cd7 oc8 kV8 dc8 pm8 ct8 cd8 oc9 kV9 dc9 pm9 ct9 cd9 oc10 kV10 dc10 pm10 ct10 cd10 oc11 kV11 dc11 pm11 ct11 cd11 oc12 kV12 dc12 pm12 ct12 cd12 oc13 kV13 dc13 pm13 ct13 cd13 oc14 kV14 dc14 pm14 ct14 cd14 oc15 kV15 dc15 pm15 ct15 cd15 oc16 kV16 dc16 pm16 ct16 cd16 oc17 kV17 dc17 pm17 ct17 cd17 oc18 kV18 dc18 pm18 ct18 cd18 oc19 kV19 dc19 pm19 ct19 cd19 oc20 kV20 dc20 pm20 ct20 cd20 oc21 kV21 dc21 pm21 ct21 cd21 oc22 kV22 dc22 pm22 ct22 cd22 oc23 kV23 dc23 pm23 ct23 cd23 oc24 kV24 dc24 pm24 ct24 cd24 oc25 kV25 dc25 pm25 ct25 cd25 oc26 kV26 dc26 pm26 ct26 cd26 oc27 kV27 dc27 pm27 ct27 cd27 oc28 kV28 dc28 pm28 ct28 cd28 oc29 kV29 dc29 pm29 ct29 cd29 oc30 kV30 dc30 pm30 ct30 cd30 oc31 kV31 dc31 pm31 ct31 cd31 oc32 kV32 dc32 pm32 ct32 cd32 oc33 kV33 dc33 pm33 ct33 cd33 oc34 kV34 dc34 pm34 ct34 cd34 oc35 kV35 dc35 pm35 ct35 cd35 oc36 kV36 dc36 pm36 ct36 cd36 oc37 kV37 dc37 pm37 ct37 cd37 oc38 kV38 dc38 pm38 ct38 cd38 oc39 kV39 dc39 pm39 ct39 cd39 oc40 kV40 dc40 pm40 ct40 cd40 : Value}
    (a0 : PySem.W.nsIn K mainGlobals "is_whole" = some (some (.ref f0))) (l0 : K.lookup f0 = some ⟨oc0, od0, .func (PySem.W.fnOf "is_whole" "is_whole" (defArgs s_is_whole) (defBody s_is_whole) (defScope s_is_whole) .none kV0 dc0 pm0 an0 cd0 ct0), sl0⟩) (c0 : PySem.W.codeIn K cd0 "is_whole" = true) (k0 : PySem.W.keepIn K (.ref f0) = true)
    (a1 : PySem.W.nsIn K mainGlobals "is_name" = some (some (.ref f1))) (l1 : K.lookup f1 = some ⟨oc1, od1, .func (PySem.W.fnOf "is_name" "is_name" (defArgs s_is_name) (defBody s_is_name) (defScope s_is_name) .none kV1 dc1 pm1 an1 cd1 ct1), sl1⟩) (c1 : PySem.W.codeIn K cd1 "is_name" = true) (k1 : PySem.W.keepIn K (.ref f1) = true)
    (a2 : PySem.W.nsIn K mainGlobals "is_number" = some (some (.ref f2))) (l2 : K.lookup f2 = some ⟨oc2, od2, .func (PySem.W.fnOf "is_number" "is_number" (defArgs s_is_number) (defBody s_is_number) (defScope s_is_number) .none kV2 dc2 pm2 an2 cd2 ct2), sl2⟩) (c2 : PySem.W.codeIn K cd2 "is_number" = true) (k2 : PySem.W.keepIn K (.ref f2) = true)
    (a3 : PySem.W.nsIn K mainGlobals "is_deed" = some (some (.ref f3))) (l3 : K.lookup f3 = some ⟨oc3, od3, .func (PySem.W.fnOf "is_deed" "is_deed" (defArgs s_is_deed) (defBody s_is_deed) (defScope s_is_deed) .none kV3 dc3 pm3 an3 cd3 ct3), sl3⟩) (c3 : PySem.W.codeIn K cd3 "is_deed" = true) (k3 : PySem.W.keepIn K (.ref f3) = true)
    (a4 : PySem.W.nsIn K mainGlobals "is_part_kinds" = some (some (.ref f4))) (l4 : K.lookup f4 = some ⟨oc4, od4, .func (PySem.W.fnOf "is_part" "is_part" (defArgs s_is_part_kinds) (defBody s_is_part_kinds) (defScope s_is_part_kinds) .none kV4 dc4 pm4 an4 cd4 ct4), sl4⟩) (c4 : PySem.W.codeIn K cd4 "is_part" = true) (k4 : PySem.W.keepIn K (.ref f4) = true)
    (a5 : PySem.W.nsIn K mainGlobals "is_kind" = some (some (.ref f5))) (l5 : K.lookup f5 = some ⟨oc5, od5, .func (PySem.W.fnOf "is_kind" "is_kind" (defArgs s_is_kind) (defBody s_is_kind) (defScope s_is_kind) .none kV5 dc5 pm5 an5 cd5 ct5), sl5⟩) (c5 : PySem.W.codeIn K cd5 "is_kind" = true) (k5 : PySem.W.keepIn K (.ref f5) = true)
    (a6 : PySem.W.nsIn K mainGlobals "are_names" = some (some (.ref f6))) (l6 : K.lookup f6 = some ⟨oc6, od6, .func (PySem.W.fnOf "are_names" "are_names" (defArgs s_are_names) (defBody s_are_names) (defScope s_are_names) .none kV6 dc6 pm6 an6 cd6 ct6), sl6⟩) (c6 : PySem.W.codeIn K cd6 "are_names" = true) (k6 : PySem.W.keepIn K (.ref f6) = true)
    (a7 : PySem.W.nsIn K mainGlobals "is_let" = some (some (.ref f7))) (l7 : K.lookup f7 = some ⟨oc7, od7, .func (PySem.W.fnOf "is_let" "is_let" (defArgs s_is_let) (defBody s_is_let) (defScope s_is_let) .none kV7 dc7 pm7 an7 cd7 ct7), sl7⟩) (c7 : PySem.W.codeIn K cd7 "is_let" = true) (k7 : PySem.W.keepIn K (.ref f7) = true)
    (a8 : PySem.W.nsIn K mainGlobals "is_part_terms" = some (some (.ref f8))) (l8 : K.lookup f8 = some ⟨oc8, od8, .func (PySem.W.fnOf "is_part" "is_part" (defArgs s_is_part_terms) (defBody s_is_part_terms) (defScope s_is_part_terms) .none kV8 dc8 pm8 an8 cd8 ct8), sl8⟩) (c8 : PySem.W.codeIn K cd8 "is_part" = true) (k8 : PySem.W.keepIn K (.ref f8) = true)
    (a9 : PySem.W.nsIn K mainGlobals "is_going" = some (some (.ref f9))) (l9 : K.lookup f9 = some ⟨oc9, od9, .func (PySem.W.fnOf "is_going" "is_going" (defArgs s_is_going) (defBody s_is_going) (defScope s_is_going) .none kV9 dc9 pm9 an9 cd9 ct9), sl9⟩) (c9 : PySem.W.codeIn K cd9 "is_going" = true) (k9 : PySem.W.keepIn K (.ref f9) = true)
    (a10 : PySem.W.nsIn K mainGlobals "has_form" = some (some (.ref f10))) (l10 : K.lookup f10 = some ⟨oc10, od10, .func (PySem.W.fnOf "has_form" "has_form" (defArgs s_has_form) (defBody s_has_form) (defScope s_has_form) .none kV10 dc10 pm10 an10 cd10 ct10), sl10⟩) (c10 : PySem.W.codeIn K cd10 "has_form" = true) (k10 : PySem.W.keepIn K (.ref f10) = true)
    (a11 : PySem.W.nsIn K mainGlobals "terms_of" = some (some (.ref f11))) (l11 : K.lookup f11 = some ⟨oc11, od11, .func (PySem.W.fnOf "terms_of" "terms_of" (defArgs s_terms_of) (defBody s_terms_of) (defScope s_terms_of) .none kV11 dc11 pm11 an11 cd11 ct11), sl11⟩) (c11 : PySem.W.codeIn K cd11 "terms_of" = true) (k11 : PySem.W.keepIn K (.ref f11) = true)
    (a12 : PySem.W.nsIn K mainGlobals "places_of" = some (some (.ref f12))) (l12 : K.lookup f12 = some ⟨oc12, od12, .func (PySem.W.fnOf "places_of" "places_of" (defArgs s_places_of) (defBody s_places_of) (defScope s_places_of) .none kV12 dc12 pm12 an12 cd12 ct12), sl12⟩) (c12 : PySem.W.codeIn K cd12 "places_of" = true) (k12 : PySem.W.keepIn K (.ref f12) = true)
    (a13 : PySem.W.nsIn K mainGlobals "is_whole_term" = some (some (.ref f13))) (l13 : K.lookup f13 = some ⟨oc13, od13, .func (PySem.W.fnOf "is_whole_term" "is_whole_term" (defArgs s_is_whole_term) (defBody s_is_whole_term) (defScope s_is_whole_term) .none kV13 dc13 pm13 an13 cd13 ct13), sl13⟩) (c13 : PySem.W.codeIn K cd13 "is_whole_term" = true) (k13 : PySem.W.keepIn K (.ref f13) = true)
    (a14 : PySem.W.nsIn K mainGlobals "is_param" = some (some (.ref f14))) (l14 : K.lookup f14 = some ⟨oc14, od14, .func (PySem.W.fnOf "is_param" "is_param" (defArgs s_is_param) (defBody s_is_param) (defScope s_is_param) .none kV14 dc14 pm14 an14 cd14 ct14), sl14⟩) (c14 : PySem.W.codeIn K cd14 "is_param" = true) (k14 : PySem.W.keepIn K (.ref f14) = true)
    (a15 : PySem.W.nsIn K mainGlobals "is_program" = some (some (.ref f15))) (l15 : K.lookup f15 = some ⟨oc15, od15, .func (PySem.W.fnOf "is_program" "is_program" (defArgs s_is_program) (defBody s_is_program) (defScope s_is_program) .none kV15 dc15 pm15 an15 cd15 ct15), sl15⟩) (c15 : PySem.W.codeIn K cd15 "is_program" = true) (k15 : PySem.W.keepIn K (.ref f15) = true)
    (a16 : PySem.W.nsIn K mainGlobals "_law_begin" = some (some (.ref f16))) (l16 : K.lookup f16 = some ⟨oc16, od16, .func (PySem.W.fnOf "_law_begin" "_law_begin" (defArgs s__law_begin) (defBody s__law_begin) (defScope s__law_begin) .none kV16 dc16 pm16 an16 cd16 ct16), sl16⟩) (c16 : PySem.W.codeIn K cd16 "_law_begin" = true) (k16 : PySem.W.keepIn K (.ref f16) = true)
    (a17 : PySem.W.nsIn K mainGlobals "_law_mixed" = some (some (.ref f17))) (l17 : K.lookup f17 = some ⟨oc17, od17, .func (PySem.W.fnOf "_law_mixed" "_law_mixed" (defArgs s__law_mixed) (defBody s__law_mixed) (defScope s__law_mixed) .none kV17 dc17 pm17 an17 cd17 ct17), sl17⟩) (c17 : PySem.W.codeIn K cd17 "_law_mixed" = true) (k17 : PySem.W.keepIn K (.ref f17) = true)
    (a18 : PySem.W.nsIn K mainGlobals "_law_next" = some (some (.ref f18))) (l18 : K.lookup f18 = some ⟨oc18, od18, .func (PySem.W.fnOf "_law_next" "_law_next" (defArgs s__law_next) (defBody s__law_next) (defScope s__law_next) .none kV18 dc18 pm18 an18 cd18 ct18), sl18⟩) (c18 : PySem.W.codeIn K cd18 "_law_next" = true) (k18 : PySem.W.keepIn K (.ref f18) = true)
    (a19 : PySem.W.nsIn K mainGlobals "_law_deed" = some (some (.ref f19))) (l19 : K.lookup f19 = some ⟨oc19, od19, .func (PySem.W.fnOf "_law_deed" "_law_deed" (defArgs s__law_deed) (defBody s__law_deed) (defScope s__law_deed) .none kV19 dc19 pm19 an19 cd19 ct19), sl19⟩) (c19 : PySem.W.codeIn K cd19 "_law_deed" = true) (k19 : PySem.W.keepIn K (.ref f19) = true)
    (a20 : PySem.W.nsIn K mainGlobals "_law_kind" = some (some (.ref f20))) (l20 : K.lookup f20 = some ⟨oc20, od20, .func (PySem.W.fnOf "_law_kind" "_law_kind" (defArgs s__law_kind) (defBody s__law_kind) (defScope s__law_kind) .none kV20 dc20 pm20 an20 cd20 ct20), sl20⟩) (c20 : PySem.W.codeIn K cd20 "_law_kind" = true) (k20 : PySem.W.keepIn K (.ref f20) = true)
    (a21 : PySem.W.nsIn K mainGlobals "_law_names" = some (some (.ref f21))) (l21 : K.lookup f21 = some ⟨oc21, od21, .func (PySem.W.fnOf "_law_names" "_law_names" (defArgs s__law_names) (defBody s__law_names) (defScope s__law_names) .none kV21 dc21 pm21 an21 cd21 ct21), sl21⟩) (c21 : PySem.W.codeIn K cd21 "_law_names" = true) (k21 : PySem.W.keepIn K (.ref f21) = true)
    (a22 : PySem.W.nsIn K mainGlobals "_law_one" = some (some (.ref f22))) (l22 : K.lookup f22 = some ⟨oc22, od22, .func (PySem.W.fnOf "_law_one" "_law_one" (defArgs s__law_one) (defBody s__law_one) (defScope s__law_one) .none kV22 dc22 pm22 an22 cd22 ct22), sl22⟩) (c22 : PySem.W.codeIn K cd22 "_law_one" = true) (k22 : PySem.W.keepIn K (.ref f22) = true)
    (a23 : PySem.W.nsIn K mainGlobals "_law_term" = some (some (.ref f23))) (l23 : K.lookup f23 = some ⟨oc23, od23, .func (PySem.W.fnOf "_law_term" "_law_term" (defArgs s__law_term) (defBody s__law_term) (defScope s__law_term) .none kV23 dc23 pm23 an23 cd23 ct23), sl23⟩) (c23 : PySem.W.codeIn K cd23 "_law_term" = true) (k23 : PySem.W.keepIn K (.ref f23) = true)
    (a24 : PySem.W.nsIn K mainGlobals "_law_within" = some (some (.ref f24))) (l24 : K.lookup f24 = some ⟨oc24, od24, .func (PySem.W.fnOf "_law_within" "_law_within" (defArgs s__law_within) (defBody s__law_within) (defScope s__law_within) .none kV24 dc24 pm24 an24 cd24 ct24), sl24⟩) (c24 : PySem.W.codeIn K cd24 "_law_within" = true) (k24 : PySem.W.keepIn K (.ref f24) = true)
    (a25 : PySem.W.nsIn K mainGlobals "_law_places" = some (some (.ref f25))) (l25 : K.lookup f25 = some ⟨oc25, od25, .func (PySem.W.fnOf "_law_places" "_law_places" (defArgs s__law_places) (defBody s__law_places) (defScope s__law_places) .none kV25 dc25 pm25 an25 cd25 ct25), sl25⟩) (c25 : PySem.W.codeIn K cd25 "_law_places" = true) (k25 : PySem.W.keepIn K (.ref f25) = true)
    (a26 : PySem.W.nsIn K mainGlobals "_law_program" = some (some (.ref f26))) (l26 : K.lookup f26 = some ⟨oc26, od26, .func (PySem.W.fnOf "_law_program" "_law_program" (defArgs s__law_program) (defBody s__law_program) (defScope s__law_program) .none kV26 dc26 pm26 an26 cd26 ct26), sl26⟩) (c26 : PySem.W.codeIn K cd26 "_law_program" = true) (k26 : PySem.W.keepIn K (.ref f26) = true)
    (a27 : PySem.W.nsIn K mainGlobals "_law_is" = some (some (.ref f27))) (l27 : K.lookup f27 = some ⟨oc27, od27, .func (PySem.W.fnOf "_law_is" "_law_is" (defArgs s__law_is) (defBody s__law_is) (defScope s__law_is) .none kV27 dc27 pm27 an27 cd27 ct27), sl27⟩) (c27 : PySem.W.codeIn K cd27 "_law_is" = true) (k27 : PySem.W.keepIn K (.ref f27) = true)
    (a28 : PySem.W.nsIn K mainGlobals "_law_are" = some (some (.ref f28))) (l28 : K.lookup f28 = some ⟨oc28, od28, .func (PySem.W.fnOf "_law_are" "_law_are" (defArgs s__law_are) (defBody s__law_are) (defScope s__law_are) .none kV28 dc28 pm28 an28 cd28 ct28), sl28⟩) (c28 : PySem.W.codeIn K cd28 "_law_are" = true) (k28 : PySem.W.keepIn K (.ref f28) = true)
    (a29 : PySem.W.nsIn K mainGlobals "_law_is_kind" = some (some (.ref f29))) (l29 : K.lookup f29 = some ⟨oc29, od29, .func (PySem.W.fnOf "_law_is_kind" "_law_is_kind" (defArgs s__law_is_kind) (defBody s__law_is_kind) (defScope s__law_is_kind) .none kV29 dc29 pm29 an29 cd29 ct29), sl29⟩) (c29 : PySem.W.codeIn K cd29 "_law_is_kind" = true) (k29 : PySem.W.keepIn K (.ref f29) = true)
    (a30 : PySem.W.nsIn K mainGlobals "_law_is_deed" = some (some (.ref f30))) (l30 : K.lookup f30 = some ⟨oc30, od30, .func (PySem.W.fnOf "_law_is_deed" "_law_is_deed" (defArgs s__law_is_deed) (defBody s__law_is_deed) (defScope s__law_is_deed) .none kV30 dc30 pm30 an30 cd30 ct30), sl30⟩) (c30 : PySem.W.codeIn K cd30 "_law_is_deed" = true) (k30 : PySem.W.keepIn K (.ref f30) = true)
    (a31 : PySem.W.nsIn K mainGlobals "_law_inner" = some (some (.ref f31))) (l31 : K.lookup f31 = some ⟨oc31, od31, .func (PySem.W.fnOf "_law_inner" "_law_inner" (defArgs s__law_inner) (defBody s__law_inner) (defScope s__law_inner) .none kV31 dc31 pm31 an31 cd31 ct31), sl31⟩) (c31 : PySem.W.codeIn K cd31 "_law_inner" = true) (k31 : PySem.W.keepIn K (.ref f31) = true)
    (a32 : PySem.W.nsIn K mainGlobals "_law_many" = some (some (.ref f32))) (l32 : K.lookup f32 = some ⟨oc32, od32, .func (PySem.W.fnOf "_law_many" "_law_many" (defArgs s__law_many) (defBody s__law_many) (defScope s__law_many) .none kV32 dc32 pm32 an32 cd32 ct32), sl32⟩) (c32 : PySem.W.codeIn K cd32 "_law_many" = true) (k32 : PySem.W.keepIn K (.ref f32) = true)
    (a33 : PySem.W.nsIn K mainGlobals "_law_is_told" = some (some (.ref f33))) (l33 : K.lookup f33 = some ⟨oc33, od33, .func (PySem.W.fnOf "_law_is_told" "_law_is_told" (defArgs s__law_is_told) (defBody s__law_is_told) (defScope s__law_is_told) .none kV33 dc33 pm33 an33 cd33 ct33), sl33⟩) (c33 : PySem.W.codeIn K cd33 "_law_is_told" = true) (k33 : PySem.W.keepIn K (.ref f33) = true)
    (a34 : PySem.W.nsIn K mainGlobals "_law_right" = some (some (.ref f34))) (l34 : K.lookup f34 = some ⟨oc34, od34, .func (PySem.W.fnOf "_law_right" "_law_right" (defArgs s__law_right) (defBody s__law_right) (defScope s__law_right) .none kV34 dc34 pm34 an34 cd34 ct34), sl34⟩) (c34 : PySem.W.codeIn K cd34 "_law_right" = true) (k34 : PySem.W.keepIn K (.ref f34) = true)
    (a35 : PySem.W.nsIn K mainGlobals "_law_bent" = some (some (.ref f35))) (l35 : K.lookup f35 = some ⟨oc35, od35, .func (PySem.W.fnOf "_law_bent" "_law_bent" (defArgs s__law_bent) (defBody s__law_bent) (defScope s__law_bent) .none kV35 dc35 pm35 an35 cd35 ct35), sl35⟩) (c35 : PySem.W.codeIn K cd35 "_law_bent" = true) (k35 : PySem.W.keepIn K (.ref f35) = true)
    (a36 : PySem.W.nsIn K mainGlobals "_law_wide" = some (some (.ref f36))) (l36 : K.lookup f36 = some ⟨oc36, od36, .func (PySem.W.fnOf "_law_wide" "_law_wide" (defArgs s__law_wide) (defBody s__law_wide) (defScope s__law_wide) .none kV36 dc36 pm36 an36 cd36 ct36), sl36⟩) (c36 : PySem.W.codeIn K cd36 "_law_wide" = true) (k36 : PySem.W.keepIn K (.ref f36) = true)
    (a37 : PySem.W.nsIn K mainGlobals "_law_long" = some (some (.ref f37))) (l37 : K.lookup f37 = some ⟨oc37, od37, .func (PySem.W.fnOf "_law_long" "_law_long" (defArgs s__law_long) (defBody s__law_long) (defScope s__law_long) .none kV37 dc37 pm37 an37 cd37 ct37), sl37⟩) (c37 : PySem.W.codeIn K cd37 "_law_long" = true) (k37 : PySem.W.keepIn K (.ref f37) = true)
    (a38 : PySem.W.nsIn K mainGlobals "_law_bounds" = some (some (.ref f38))) (l38 : K.lookup f38 = some ⟨oc38, od38, .func (PySem.W.fnOf "_law_bounds" "_law_bounds" (defArgs s__law_bounds) (defBody s__law_bounds) (defScope s__law_bounds) .none kV38 dc38 pm38 an38 cd38 ct38), sl38⟩) (c38 : PySem.W.codeIn K cd38 "_law_bounds" = true) (k38 : PySem.W.keepIn K (.ref f38) = true)
    (a39 : PySem.W.nsIn K mainGlobals "_law_far_right" = some (some (.ref f39))) (l39 : K.lookup f39 = some ⟨oc39, od39, .func (PySem.W.fnOf "_law_far_right" "_law_far_right" (defArgs s__law_far_right) (defBody s__law_far_right) (defScope s__law_far_right) .none kV39 dc39 pm39 an39 cd39 ct39), sl39⟩) (c39 : PySem.W.codeIn K cd39 "_law_far_right" = true) (k39 : PySem.W.keepIn K (.ref f39) = true)
    (a40 : PySem.W.nsIn K mainGlobals "law" = some (some (.ref f40))) (l40 : K.lookup f40 = some ⟨oc40, od40, .func (PySem.W.fnOf "law" "law" (defArgs s_law) (defBody s_law) (defScope s_law) .none kV40 dc40 pm40 an40 cd40 ct40), sl40⟩) (c40 : PySem.W.codeIn K cd40 "law" = true) (k40 : PySem.W.keepIn K (.ref f40) = true)
    (zb_isinstance : PySem.W.nsIn K mainGlobals "isinstance" = some none)
    (zb_bool : PySem.W.nsIn K mainGlobals "bool" = some none)
    (zb_int : PySem.W.nsIn K mainGlobals "int" = some none)
    (zb_len : PySem.W.nsIn K mainGlobals "len" = some none)
    (zb_str : PySem.W.nsIn K mainGlobals "str" = some none)
    (zb_all : PySem.W.nsIn K mainGlobals "all" = some none)
    (zb_tuple : PySem.W.nsIn K mainGlobals "tuple" = some none)
    (zb_enumerate : PySem.W.nsIn K mainGlobals "enumerate" = some none)
    (zb_range : PySem.W.nsIn K mainGlobals "range" = some none)
    (zb_min : PySem.W.nsIn K mainGlobals "min" = some none)
    (zb_list : PySem.W.nsIn K mainGlobals "list" = some none)
    (zb_zip : PySem.W.nsIn K mainGlobals "zip" = some none)
    (zb_repr : PySem.W.nsIn K mainGlobals "repr" = some none)
    {t_MOST_LETTERS : Tok} (zc_MOST_LETTERS : PySem.W.nsIn K mainGlobals "MOST_LETTERS" = some (some (.int (8) t_MOST_LETTERS)))
    {t_SMALL : Tok} (zc_SMALL : PySem.W.nsIn K mainGlobals "SMALL" = some (some (.str "abcdefghijklmnopqrstuvwxyz" t_SMALL)))
    {t_MOST_NUMBER : Tok} (zc_MOST_NUMBER : PySem.W.nsIn K mainGlobals "MOST_NUMBER" = some (some (.int (20) t_MOST_NUMBER)))
    {p_BY_NUMBER : Addr} {dd_BY_NUMBER : Option Addr} {n_BY_NUMBER : Nat} {sl_BY_NUMBER : Array (Option Value)} {t_BY_NUMBER_0 t_BY_NUMBER_1 t_BY_NUMBER_2 : Tok} (zc_BY_NUMBER : PySem.W.nsIn K mainGlobals "BY_NUMBER" = some (some (.ref p_BY_NUMBER))) (zl_BY_NUMBER : K.lookup p_BY_NUMBER = some ⟨.type "tuple", dd_BY_NUMBER, .seq (List.toArray [.str "plus" t_BY_NUMBER_0, .str "from" t_BY_NUMBER_1, .str "below" t_BY_NUMBER_2]) n_BY_NUMBER, sl_BY_NUMBER⟩)
    {p_OF_ONE : Addr} {dd_OF_ONE : Option Addr} {n_OF_ONE : Nat} {sl_OF_ONE : Array (Option Value)} {t_OF_ONE_0 t_OF_ONE_1 t_OF_ONE_2 t_OF_ONE_3 t_OF_ONE_4 t_OF_ONE_5 t_OF_ONE_6 t_OF_ONE_7 t_OF_ONE_8 : Tok} (zc_OF_ONE : PySem.W.nsIn K mainGlobals "OF_ONE" = some (some (.ref p_OF_ONE))) (zl_OF_ONE : K.lookup p_OF_ONE = some ⟨.type "tuple", dd_OF_ONE, .seq (List.toArray [.str "turn" t_OF_ONE_0, .str "order" t_OF_ONE_1, .str "first" t_OF_ONE_2, .str "last" t_OF_ONE_3, .str "rest" t_OF_ONE_4, .str "least" t_OF_ONE_5, .str "most" t_OF_ONE_6, .str "many" t_OF_ONE_7, .str "sum" t_OF_ONE_8]) n_OF_ONE, sl_OF_ONE⟩)
    {p_OF_TWO : Addr} {dd_OF_TWO : Option Addr} {n_OF_TWO : Nat} {sl_OF_TWO : Array (Option Value)} {t_OF_TWO_0 t_OF_TWO_1 t_OF_TWO_2 : Tok} (zc_OF_TWO : PySem.W.nsIn K mainGlobals "OF_TWO" = some (some (.ref p_OF_TWO))) (zl_OF_TWO : K.lookup p_OF_TWO = some ⟨.type "tuple", dd_OF_TWO, .seq (List.toArray [.str "join" t_OF_TWO_0, .str "put" t_OF_TWO_1, .str "into" t_OF_TWO_2]) n_OF_TWO, sl_OF_TWO⟩)
    {t_MOST_LONG : Tok} (zc_MOST_LONG : PySem.W.nsIn K mainGlobals "MOST_LONG" = some (some (.int (8) t_MOST_LONG)))
    {t_MOST_SUM : Tok} (zc_MOST_SUM : PySem.W.nsIn K mainGlobals "MOST_SUM" = some (some (.int (160) t_MOST_SUM)))
    {p_PARTS : Addr} {dd_PARTS : Option Addr} {n_PARTS : Nat} {sl_PARTS : Array (Option Value)} {t_PARTS_0 t_PARTS_1 t_PARTS_2 t_PARTS_3 t_PARTS_4 t_PARTS_5 t_PARTS_6 t_PARTS_7 t_PARTS_8 : Tok} (zc_PARTS : PySem.W.nsIn K mainGlobals "PARTS" = some (some (.ref p_PARTS))) (zl_PARTS : K.lookup p_PARTS = some ⟨.type "tuple", dd_PARTS, .seq (List.toArray [.str "low" t_PARTS_0, .str "high" t_PARTS_1, .str "few" t_PARTS_2, .str "many" t_PARTS_3, .str "up" t_PARTS_4, .str "down" t_PARTS_5, .str "unlike" t_PARTS_6, .str "from" t_PARTS_7, .str "to" t_PARTS_8]) n_PARTS, sl_PARTS⟩)
    {t_MOST_DEEP : Tok} (zc_MOST_DEEP : PySem.W.nsIn K mainGlobals "MOST_DEEP" = some (some (.int (20) t_MOST_DEEP)))
    {t_MOST_TERMS : Tok} (zc_MOST_TERMS : PySem.W.nsIn K mainGlobals "MOST_TERMS" = some (some (.int (40) t_MOST_TERMS)))
    {t_MOST_GOINGS : Tok} (zc_MOST_GOINGS : PySem.W.nsIn K mainGlobals "MOST_GOINGS" = some (some (.int (1) t_MOST_GOINGS)))
    {t_MOST_INNER : Tok} (zc_MOST_INNER : PySem.W.nsIn K mainGlobals "MOST_INNER" = some (some (.int (16) t_MOST_INNER)))
    {t_MOST_PARAMS : Tok} (zc_MOST_PARAMS : PySem.W.nsIn K mainGlobals "MOST_PARAMS" = some (some (.int (4) t_MOST_PARAMS)))
    {pa_BOUNDS : Addr} {na_BOUNDS : Nat} {hh_BOUNDS_0 : Int} {tk_BOUNDS_0 : Tok} {pv_BOUNDS_0 : Addr} {pd_BOUNDS_0 : Option Addr} {pn_BOUNDS_0 : Nat} {ps_BOUNDS_0 : Array (Option Value)} {tv_BOUNDS_0_0 tv_BOUNDS_0_1 : Tok} {hh_BOUNDS_1 : Int} {tk_BOUNDS_1 : Tok} {pv_BOUNDS_1 : Addr} {pd_BOUNDS_1 : Option Addr} {pn_BOUNDS_1 : Nat} {ps_BOUNDS_1 : Array (Option Value)} {tv_BOUNDS_1_0 tv_BOUNDS_1_1 : Tok}
    (zc_BOUNDS : PySem.W.nsIn K mainGlobals "BOUNDS" = some (some (.ref pa_BOUNDS))) (zl_BOUNDS : K.lookup pa_BOUNDS = some ⟨.type "dict", none, .dict (List.toArray [⟨hh_BOUNDS_0, .str "many" tk_BOUNDS_0, .ref pv_BOUNDS_0⟩, ⟨hh_BOUNDS_1, .str "sum" tk_BOUNDS_1, .ref pv_BOUNDS_1⟩]) na_BOUNDS, #[]⟩) (zw_BOUNDS : PySem.W.KeysLit w.params [⟨hh_BOUNDS_0, .str "many" tk_BOUNDS_0, .ref pv_BOUNDS_0⟩, ⟨hh_BOUNDS_1, .str "sum" tk_BOUNDS_1, .ref pv_BOUNDS_1⟩]) (zy_BOUNDS : (pa_BOUNDS == sysModules) = false)
    (zv_BOUNDS_0 : K.lookup pv_BOUNDS_0 = some ⟨.type "tuple", pd_BOUNDS_0, .seq (List.toArray [.int (0) tv_BOUNDS_0_0, .int (7) tv_BOUNDS_0_1]) pn_BOUNDS_0, ps_BOUNDS_0⟩)
    (zv_BOUNDS_1 : K.lookup pv_BOUNDS_1 = some ⟨.type "tuple", pd_BOUNDS_1, .seq (List.toArray [.int (-160) tv_BOUNDS_1_0, .int (159) tv_BOUNDS_1_1]) pn_BOUNDS_1, ps_BOUNDS_1⟩)
    : ∃ fd : FuncData, (∀ (s : Shared) (v : Value), BindsTo s fd ⟨[v], []⟩ [("_law_script", v)]) ∧ ∀ base : Heap, K.In base → base.Ns mainGlobals mg → (∀ e ∈ tn ca, LamX.TabB base mg e.2.1 e.2.2) → FnG l.prog w K mg base 67 fa fd ["_law_script"] (spD (theT (tsOf (tn ca))) K FF_lawT) := by
  have e := hfa.symm.trans (PySem.W.mg_of X G a40)
  cases e
  have T : Txt K mg ca := ⟨trivial, PySem.W.mg_none_of X G zb_isinstance, PySem.W.mg_none_of X G zb_bool, PySem.W.mg_none_of X G zb_int, PySem.W.mg_none_of X G zb_len, PySem.W.mg_none_of X G zb_str, PySem.W.mg_none_of X G zb_all, PySem.W.mg_none_of X G zb_tuple, PySem.W.mg_none_of X G zb_enumerate, PySem.W.mg_none_of X G zb_range, PySem.W.mg_none_of X G zb_min, PySem.W.mg_none_of X G zb_list, PySem.W.mg_none_of X G zb_zip, PySem.W.mg_none_of X G zb_repr, ⟨t_MOST_LETTERS, PySem.W.mg_of X G zc_MOST_LETTERS⟩, ⟨t_SMALL, PySem.W.mg_of X G zc_SMALL⟩, ⟨t_MOST_NUMBER, PySem.W.mg_of X G zc_MOST_NUMBER⟩, gdat_tup (PySem.W.mg_of X G zc_BY_NUMBER) zl_BY_NUMBER ((.cons (.str _ _) (.cons (.str _ _) (.cons (.str _ _) .nil)))) (by decide), gdat_tup (PySem.W.mg_of X G zc_OF_ONE) zl_OF_ONE ((.cons (.str _ _) (.cons (.str _ _) (.cons (.str _ _) (.cons (.str _ _) (.cons (.str _ _) (.cons (.str _ _) (.cons (.str _ _) (.cons (.str _ _) (.cons (.str _ _) .nil)))))))))) (by decide), gdat_tup (PySem.W.mg_of X G zc_OF_TWO) zl_OF_TWO ((.cons (.str _ _) (.cons (.str _ _) (.cons (.str _ _) .nil)))) (by decide), ⟨t_MOST_LONG, PySem.W.mg_of X G zc_MOST_LONG⟩, ⟨t_MOST_SUM, PySem.W.mg_of X G zc_MOST_SUM⟩, gdat_tup (PySem.W.mg_of X G zc_PARTS) zl_PARTS ((.cons (.str _ _) (.cons (.str _ _) (.cons (.str _ _) (.cons (.str _ _) (.cons (.str _ _) (.cons (.str _ _) (.cons (.str _ _) (.cons (.str _ _) (.cons (.str _ _) .nil)))))))))) (by decide), ⟨t_MOST_DEEP, PySem.W.mg_of X G zc_MOST_DEEP⟩, ⟨t_MOST_TERMS, PySem.W.mg_of X G zc_MOST_TERMS⟩, ⟨t_MOST_GOINGS, PySem.W.mg_of X G zc_MOST_GOINGS⟩, ⟨t_MOST_INNER, PySem.W.mg_of X G zc_MOST_INNER⟩, ⟨t_MOST_PARAMS, PySem.W.mg_of X G zc_MOST_PARAMS⟩⟩
  refine ⟨PySem.W.fnOf "law" "law" (defArgs s_law) (defBody s_law) (defScope s_law) .none kV40 dc40 pm40 an40 cd40 ct40, fun s v => .of_eq rfl, fun base _ _ tb => ?_⟩
  have gd_BOUNDS : GDict mg K w "BOUNDS" [("many", .tuple [.int (0), .int (7)]), ("sum", .tuple [.int (-160), .int (159)])] := gdict_mk (PySem.W.mg_of X G zc_BOUNDS) zl_BOUNDS zw_BOUNDS zy_BOUNDS (.cons ⟨⟨_, rfl⟩, .ref pv_BOUNDS_0, rfl, rp_tupK zv_BOUNDS_0 ((.cons (.int _ _) (.cons (.int _ _) .nil))) (by decide)⟩ (.cons ⟨⟨_, rfl⟩, .ref pv_BOUNDS_1, rfl, rp_tupK zv_BOUNDS_1 ((.cons (.int _ _) (.cons (.int _ _) .nil))) (by decide)⟩ .nil))
  obtain ⟨fd0, F0⟩ := fun_ex (st := s_is_whole) l0 c0 k0
  obtain ⟨fd1, F1⟩ := fun_ex (st := s_is_name) l1 c1 k1
  obtain ⟨fd2, F2⟩ := fun_ex (st := s_is_number) l2 c2 k2
  obtain ⟨fd3, F3⟩ := fun_ex (st := s_is_deed) l3 c3 k3
  obtain ⟨fd4, F4⟩ := fun_ex (st := s_is_part_kinds) l4 c4 k4
  obtain ⟨fd5, F5⟩ := fun_ex (st := s_is_kind) l5 c5 k5
  obtain ⟨fd6, F6⟩ := fun_ex (st := s_are_names) l6 c6 k6
  obtain ⟨fd7, F7⟩ := fun_ex (st := s_is_let) l7 c7 k7
  obtain ⟨fd8, F8⟩ := fun_ex (st := s_is_part_terms) l8 c8 k8
  obtain ⟨fd9, F9⟩ := fun_ex (st := s_is_going) l9 c9 k9
  obtain ⟨fd10, F10⟩ := fun_ex (st := s_has_form) l10 c10 k10
  obtain ⟨fd11, F11⟩ := fun_ex (st := s_terms_of) l11 c11 k11
  obtain ⟨fd12, F12⟩ := fun_ex (st := s_places_of) l12 c12 k12
  obtain ⟨fd13, F13⟩ := fun_ex (st := s_is_whole_term) l13 c13 k13
  obtain ⟨fd14, F14⟩ := fun_ex (st := s_is_param) l14 c14 k14
  obtain ⟨fd15, F15⟩ := fun_ex (st := s_is_program) l15 c15 k15
  obtain ⟨fd16, F16⟩ := fun_ex (st := s__law_begin) l16 c16 k16
  obtain ⟨fd17, F17⟩ := fun_ex (st := s__law_mixed) l17 c17 k17
  obtain ⟨fd18, F18⟩ := fun_ex (st := s__law_next) l18 c18 k18
  obtain ⟨fd19, F19⟩ := fun_ex (st := s__law_deed) l19 c19 k19
  obtain ⟨fd20, F20⟩ := fun_ex (st := s__law_kind) l20 c20 k20
  obtain ⟨fd21, F21⟩ := fun_ex (st := s__law_names) l21 c21 k21
  obtain ⟨fd22, F22⟩ := fun_ex (st := s__law_one) l22 c22 k22
  obtain ⟨fd23, F23⟩ := fun_ex (st := s__law_term) l23 c23 k23
  obtain ⟨fd24, F24⟩ := fun_ex (st := s__law_within) l24 c24 k24
  obtain ⟨fd25, F25⟩ := fun_ex (st := s__law_places) l25 c25 k25
  obtain ⟨fd26, F26⟩ := fun_ex (st := s__law_program) l26 c26 k26
  obtain ⟨fd27, F27⟩ := fun_ex (st := s__law_is) l27 c27 k27
  obtain ⟨fd28, F28⟩ := fun_ex (st := s__law_are) l28 c28 k28
  obtain ⟨fd29, F29⟩ := fun_ex (st := s__law_is_kind) l29 c29 k29
  obtain ⟨fd30, F30⟩ := fun_ex (st := s__law_is_deed) l30 c30 k30
  obtain ⟨fd31, F31⟩ := fun_ex (st := s__law_inner) l31 c31 k31
  obtain ⟨fd32, F32⟩ := fun_ex (st := s__law_many) l32 c32 k32
  obtain ⟨fd33, F33⟩ := fun_ex (st := s__law_is_told) l33 c33 k33
  obtain ⟨fd34, F34⟩ := fun_ex (st := s__law_right) l34 c34 k34
  obtain ⟨fd35, F35⟩ := fun_ex (st := s__law_bent) l35 c35 k35
  obtain ⟨fd36, F36⟩ := fun_ex (st := s__law_wide) l36 c36 k36
  obtain ⟨fd37, F37⟩ := fun_ex (st := s__law_long) l37 c37 k37
  obtain ⟨fd38, F38⟩ := fun_ex (st := s__law_bounds) l38 c38 k38
  obtain ⟨fd39, F39⟩ := fun_ex (st := s__law_far_right) l39 c39 k39
  have F40 := fun_mk (st := s_law) l40 c40 k40
  have q0 : Known l.prog w K mg base (theT (Ts ca)) "is_whole" ["thing", "least", "most"] 1 (FF_is_whole) := .o1 (ok_is_whole T F0 ) (PySem.W.mg_of X G a0) k0 (bd_is_whole F0)
  have q1 : Known l.prog w K mg base (theT (Ts ca)) "is_name" ["thing"] 1 (FF_is_name) := .o1 (ok_is_name T F1 ) (PySem.W.mg_of X G a1) k1 (bd_is_name F1)
  have q11 : Known l.prog w K mg base (theT (Ts ca)) "terms_of" ["term"] 1 (FF_terms_of) := .o1 (ok_terms_of T F11 ) (PySem.W.mg_of X G a11) k11 (bd_terms_of F11)
  have q16 : Known l.prog w K mg base (theT (Ts ca)) "_law_begin" ["_law_script"] 1 (FF_begin) := .o1 (imp_fr (Ts := Ts ca) (ok__law_begin T F16) begin_fr) (PySem.W.mg_of X G a16) k16 (bd__law_begin F16)
  have p17 : Known l.prog w K mg base (theS ((Ts ca).map (·.1))) "_law_mixed" ["_law_cell", "_law_k"] 1 FF__law_mixed := .o1 (ok__law_mixed T F17) (PySem.W.mg_of X G a17) k17 (bd__law_mixed F17)
  have q24 : KnownG l.prog w K mg base (theT (Ts ca)) "_law_within" ["_law_term_here"] 1 (FF__law_within) := .o1 (ok__law_within T F24 ) (PySem.W.mg_of X G a24) k24 (bd__law_within F24)
  have q27 : KnownG l.prog w K mg base (theT (Ts ca)) "_law_is" ["_law_sort", "_law_thing"] 1 (FF__law_is) := .o1 (ok__law_is T F27 ) (PySem.W.mg_of X G a27) k27 (bd__law_is F27)
  have q2 : Known l.prog w K mg base (theT (Ts ca)) "is_number" ["thing"] 2 (FF_is_number) := .o1 (ok_is_number T F2 q0) (PySem.W.mg_of X G a2) k2 (bd_is_number F2)
  have q6 : Known l.prog w K mg base (theT (Ts ca)) "are_names" ["thing", "many"] 2 (FF_are_names) := .o1 (ok_are_names T F6 q1) (PySem.W.mg_of X G a6) k6 (bd_are_names F6)
  have q8 : Known l.prog w K mg base (theT (Ts ca)) "is_part_terms" ["thing"] 2 (FF_is_part_terms) := .o1 (ok_is_part_terms T F8 q0 gd_BOUNDS) (PySem.W.mg_of X G a8) k8 (bd_is_part_terms F8)
  have q12 : Known l.prog w K mg base (theT (Ts ca)) "places_of" ["term"] 2 (FF_places_of) := .o1 (ok_places_of T F12 q11) (PySem.W.mg_of X G a12) k12 (bd_places_of F12)
  have q18 : Known l.prog w K mg base (theT (Ts ca)) "_law_next" ["_law_draw", "_law_many_here"] 2 (FF_next) := .o1 (imp_fr (Ts := Ts ca) (ok__law_next T F18 p17) next_fr) (PySem.W.mg_of X G a18) k18 (bd__law_next F18)
  have q28 : KnownG l.prog w K mg base (theT (Ts ca)) "_law_are" ["_law_sorts", "_law_thing"] 2 (FF__law_are) := .o1 (ok__law_are T F28 q27) (PySem.W.mg_of X G a28) k28 (bd__law_are F28)
  have q3 : Known l.prog w K mg base (theT (Ts ca)) "is_deed" ["thing", "many"] 3 (FF_is_deed) := .o1 (ok_is_deed T F3 q2) (PySem.W.mg_of X G a3) k3 (bd_is_deed F3)
  have q4 : Known l.prog w K mg base (theT (Ts ca)) "is_part_kinds" ["at", "thing"] 3 (FF_is_part_kinds) := .o1 (ok_is_part_kinds T F4 q2 q0) (PySem.W.mg_of X G a4) k4 (bd_is_part_kinds F4)
  have q9 : Known l.prog w K mg base (theT (Ts ca)) "is_going" ["thing"] 3 (FF_is_going) := .o1 (ok_is_going T F9 q6) (PySem.W.mg_of X G a9) k9 (bd_is_going F9)
  have q19 : KnownG l.prog w K mg base (theT (Ts ca)) "_law_deed" ["_law_draw", "_law_many_here"] 3 (FF__law_deed) := .o1 (ok__law_deed T F19 q18) (PySem.W.mg_of X G a19) k19 (bd__law_deed F19)
  have q20 : KnownG l.prog w K mg base (theT (Ts ca)) "_law_kind" ["_law_draw"] 3 (FF__law_kind) := .o1 (ok__law_kind T F20 q18) (PySem.W.mg_of X G a20) k20 (bd__law_kind F20)
  have q21 : KnownG l.prog w K mg base (theT (Ts ca)) "_law_names" ["_law_draw", "_law_many_here"] 3 (FF__law_names) := .o1 (ok__law_names T F21 q18) (PySem.W.mg_of X G a21) k21 (bd__law_names F21)
  have q22 : KnownG l.prog w K mg base (theT (Ts ca)) "_law_one" ["_law_draw", "_law_known"] 3 (FF__law_one) := .o1 (ok__law_one T F22 q18) (PySem.W.mg_of X G a22) k22 (bd__law_one F22)
  have q29 : KnownG l.prog w K mg base (theT (Ts ca)) "_law_is_kind" ["_law_thing"] 3 (FF__law_is_kind) := .o1 (ok__law_is_kind T F29 q28) (PySem.W.mg_of X G a29) k29 (bd__law_is_kind F29)
  have q30 : KnownG l.prog w K mg base (theT (Ts ca)) "_law_is_deed" ["_law_thing", "_law_many_here"] 3 (FF__law_is_deed) := .o1 (ok__law_is_deed T F30 q28) (PySem.W.mg_of X G a30) k30 (bd__law_is_deed F30)
  have q5 : Known l.prog w K mg base (theT (Ts ca)) "is_kind" ["thing"] 4 (FF_is_kind) := .o1 (ok_is_kind T F5 q4) (PySem.W.mg_of X G a5) k5 (bd_is_kind F5)
  have q7 : Known l.prog w K mg base (theT (Ts ca)) "is_let" ["thing"] 4 (FF_is_let) := .o1 (ok_is_let T F7 q6 q3) (PySem.W.mg_of X G a7) k7 (bd_is_let F7)
  have q31 : KnownG l.prog w K mg base (theT (Ts ca)) "_law_inner" ["_law_thing"] 4 (FF__law_inner) := .o1 (ok__law_inner T F31 q27 q28 q30) (PySem.W.mg_of X G a31) k31 (bd__law_inner F31)
  have q10 : Known l.prog w K mg base (theT (Ts ca)) "has_form" ["thing"] 5 (FF_has_form) := .o1 (ok_has_form T F10 q1 q7 q8 q9) (PySem.W.mg_of X G a10) k10 (bd_has_form F10)
  have q14 : Known l.prog w K mg base (theT (Ts ca)) "is_param" ["thing"] 5 (FF_is_param) := .o1 (ok_is_param T F14 q5 q1) (PySem.W.mg_of X G a14) k14 (bd_is_param F14)
  have q13 : Known l.prog w K mg base (theT (Ts ca)) "is_whole_term" ["thing"] 6 (FF_is_whole_term) := .o1 (ok_is_whole_term T F13 q10 q11 q12) (PySem.W.mg_of X G a13) k13 (bd_is_whole_term F13)
  have q15 : Known l.prog w K mg base (theT (Ts ca)) "is_program" ["thing"] 7 (FF_is_program) := .o1 (ok_is_program T F15 q14 q13 q5) (PySem.W.mg_of X G a15) k15 (bd_is_program F15)
  have g36 : ∀ j : Nat, KnownG l.prog w K mg base (theT (Ts ca)) "_law_wide" ["_law_many_here"] (0 + 1 * j) (FF__law_wide_ j) := fun j => by
    induction j with
    | zero => exact .o1 (fng_no) (PySem.W.mg_of X G a36) k36 (bd__law_wide F36)
    | succ j ih =>
      rw [show 0 + 1 * (j + 1) = 0 + 1 * j + 1 by omega]
      exact .o1 (ok__law_wide j T F36 ih) (PySem.W.mg_of X G a36) k36 (bd__law_wide F36)
  have q36 : KnownG l.prog w K mg base (theT (Ts ca)) "_law_wide" ["_law_many_here"] 8 (FF__law_wide) := g36 8
  have q39 : KnownG l.prog w K mg base (theT (Ts ca)) "_law_far_right" [] 8 (FF__law_far_right) := .o1 (ok__law_far_right T F39 q15) (PySem.W.mg_of X G a39) k39 (bd__law_far_right F39)
  have q37 : KnownG l.prog w K mg base (theT (Ts ca)) "_law_long" ["_law_deep", "_law_many_here"] 9 (FF__law_long) := .o1 (ok__law_long T F37 q36) (PySem.W.mg_of X G a37) k37 (bd__law_long F37)
  have q38 : KnownG l.prog w K mg base (theT (Ts ca)) "_law_bounds" ["_law_draw"] 10 (FF__law_bounds) := .o1 (ok__law_bounds T F38 q37 q18 q36) (PySem.W.mg_of X G a38) k38 (bd__law_bounds F38)
  have g25 : ∀ j : Nat, KnownG l.prog w K mg base (theT (Ts ca)) "_law_places" ["_law_term_here"] (1 + 1 * j) (FF__law_places_ j) := fun j => by
    induction j with
    | zero => exact .o1 (fng_no) (PySem.W.mg_of X G a25) k25 (bd__law_places F25)
    | succ j ih =>
      rw [show 1 + 1 * (j + 1) = 1 + 1 * j + 1 by omega]
      exact .o1 (ok__law_places j T F25 q24 ih) (PySem.W.mg_of X G a25) k25 (bd__law_places F25)
  have q25 : KnownG l.prog w K mg base (theT (Ts ca)) "_law_places" ["_law_term_here"] 21 (FF__law_places) := g25 20
  have g23 : ∀ j : Nat, KnownG l.prog w K mg base (theT (Ts ca)) "_law_term" ["_law_draw", "_law_room", "_law_deep", "_law_known", "_law_fresh", "_law_is_inner"] (3 + 1 * j) (FF__law_term_ j) := fun j => by
    induction j with
    | zero => exact .o1 (fng_no) (PySem.W.mg_of X G a23) k23 (bd__law_term F23)
    | succ j ih =>
      rw [show 3 + 1 * (j + 1) = 3 + 1 * j + 1 by omega]
      exact .o1 (ok__law_term j T F23 q18 q22 ih q19) (PySem.W.mg_of X G a23) k23 (bd__law_term F23)
  have q23 : KnownG l.prog w K mg base (theT (Ts ca)) "_law_term" ["_law_draw", "_law_room", "_law_deep", "_law_known", "_law_fresh", "_law_is_inner"] 23 (FF__law_term) := g23 20
  have q26 : KnownG l.prog w K mg base (theT (Ts ca)) "_law_program" ["_law_draw"] 24 (FF__law_program) := .o1 (ok__law_program T F26 q21 q18 q23 q25 q20) (PySem.W.mg_of X G a26) k26 (bd__law_program F26)
  have g32 : ∀ j : Nat, KnownG l.prog w K mg base (theT (Ts ca)) "_law_many" ["_law_thing", "_law_deep", "_law_is_inside"] (4 + 1 * j) (FF__law_many_ j) := fun j => by
    induction j with
    | zero => exact .o1 (fng_no) (PySem.W.mg_of X G a32) k32 (bd__law_many F32)
    | succ j ih =>
      rw [show 4 + 1 * (j + 1) = 4 + 1 * j + 1 by omega]
      exact .o1 (ok__law_many j T F32 q31 ih) (PySem.W.mg_of X G a32) k32 (bd__law_many F32)
  have q32 : KnownG l.prog w K mg base (theT (Ts ca)) "_law_many" ["_law_thing", "_law_deep", "_law_is_inside"] 28 (FF__law_many) := g32 24
  have q33 : KnownG l.prog w K mg base (theT (Ts ca)) "_law_is_told" ["_law_thing"] 29 (FF__law_is_told) := .o1 (ok__law_is_told T F33 q29 q27 q32) (PySem.W.mg_of X G a33) k33 (bd__law_is_told F33)
  have q34 : KnownG l.prog w K mg base (theT (Ts ca)) "_law_right" ["_law_thing"] 30 (FF__law_right) := .o1 (ok__law_right T F34 q15 q33) (PySem.W.mg_of X G a34) k34 (bd__law_right F34)
  have g35 : ∀ j : Nat, KnownG l.prog w K mg base (theT (Ts ca)) "_law_bent" ["_law_draw", "_law_thing"] (2 + 1 * j) (FF__law_bent_ j) := fun j => by
    induction j with
    | zero => exact .o1 (fng_no) (PySem.W.mg_of X G a35) k35 (bd__law_bent F35)
    | succ j ih =>
      rw [show 2 + 1 * (j + 1) = 2 + 1 * j + 1 by omega]
      exact .o1 (ok__law_bent j T F35 q18 ih) (PySem.W.mg_of X G a35) k35 (bd__law_bent F35)
  have q35 : KnownG l.prog w K mg base (theT (Ts ca)) "_law_bent" ["_law_draw", "_law_thing"] 66 (FF__law_bent) := g35 64
  exact ok_law T F40 q39 q16 q26 q34 q15 q35 q38
theorem walk_ca {l : PySem.W.OpenLaw} {k : Nat} {q : Program} {loose : List Str} {XP : (Str → Option Value) → Heap → Prop} {YP : World → Heap → Prop} {d : DefRec} {K : Params → PySem.W.Frag} {x : Str}
    (hn : l.most = some 63) (hdf : d.params.defaults = []) (hr : Room k callerA)
    (hY : ∀ (w : World) (h : Heap), YP w h → (K w.params).In h) (hTn : ∀ (w : World), ∀ e ∈ tn ⟨()⟩, TabK (K w.params) e) (hTab : ∀ (w : World) (h : Heap), YP w h → ∀ e ∈ tn ⟨()⟩, h.get? e.2.2 = some (PySem.W.tabObj #[]))
    (F : ∀ (w : World) (mg : Str → Option Value) (fa : Addr) (h : Heap), (K w.params).In h → h.Ns mainGlobals mg → mg d.name = some (.ref fa) →
      ∃ fd : FuncData, (∀ (s : Shared) (u : Value), BindsTo s fd ⟨[u], []⟩ [(x, u)]) ∧
        ∀ base : Heap, (K w.params).In base → base.Ns mainGlobals mg → (∀ e ∈ tn ⟨()⟩, LamX.TabB base mg e.2.1 e.2.2) → FnG l.prog w (K w.params) mg base k fa fd [x] (spD (theT (tsOf (tn ⟨()⟩))) (K w.params) FF_lawT))
    : PySem.W.WalkO q loose XP YP l.row.toRowW d [] (fun f vs => PySem.call f vs) :=
  walk_ofT (Tn := tn ⟨()⟩) hn hdf hr hY hTn hTab F
end Z
open PySem PySem.W PyProof.Rows
set_option maxHeartbeats 0 in
theorem PySem.Challenge.cw_rowkinds_k28_programs_by_form_holds : PySem.Challenge.rw_rowkinds_k28_programs_by_form.Holds := by
  w_on; o_law; k_head; (case hw => w_witness2)
  k_fill
  refine' Z.walk_ca (l := PySem.Challenge.rw_rowkinds_k28_programs_by_form) (k := 67) (x := "_law_script") rfl rfl ⟨rfl, by decide, by decide⟩ (fun w h Y => by first | exact PySem.W.kIn_of Y | exact PySem.W.km_in_of Y) ?T ?Y ?F
  case Y =>
    intro w h Y e he
    simp only [Z.tn, List.mem_cons, List.not_mem_nil, or_false] at he
    all_goals cases he
  case F =>
    intro w mg fa h KX G hmg
    refine' Z.all_mk (ca := _) KX G hmg ?a0 ?l0 ?c0 ?k0 ?a1 ?l1 ?c1 ?k1 ?a2 ?l2 ?c2 ?k2 ?a3 ?l3 ?c3 ?k3 ?a4 ?l4 ?c4 ?k4 ?a5 ?l5 ?c5 ?k5 ?a6 ?l6 ?c6 ?k6 ?a7 ?l7 ?c7 ?k7 ?a8 ?l8 ?c8 ?k8 ?a9 ?l9 ?c9 ?k9 ?a10 ?l10 ?c10 ?k10 ?a11 ?l11 ?c11 ?k11 ?a12 ?l12 ?c12 ?k12 ?a13 ?l13 ?c13 ?k13 ?a14 ?l14 ?c14 ?k14 ?a15 ?l15 ?c15 ?k15 ?a16 ?l16 ?c16 ?k16 ?a17 ?l17 ?c17 ?k17 ?a18 ?l18 ?c18 ?k18 ?a19 ?l19 ?c19 ?k19 ?a20 ?l20 ?c20 ?k20 ?a21 ?l21 ?c21 ?k21 ?a22 ?l22 ?c22 ?k22 ?a23 ?l23 ?c23 ?k23 ?a24 ?l24 ?c24 ?k24 ?a25 ?l25 ?c25 ?k25 ?a26 ?l26 ?c26 ?k26 ?a27 ?l27 ?c27 ?k27 ?a28 ?l28 ?c28 ?k28 ?a29 ?l29 ?c29 ?k29 ?a30 ?l30 ?c30 ?k30 ?a31 ?l31 ?c31 ?k31 ?a32 ?l32 ?c32 ?k32 ?a33 ?l33 ?c33 ?k33 ?a34 ?l34 ?c34 ?k34 ?a35 ?l35 ?c35 ?k35 ?a36 ?l36 ?c36 ?k36 ?a37 ?l37 ?c37 ?k37 ?a38 ?l38 ?c38 ?k38 ?a39 ?l39 ?c39 ?k39 ?a40 ?l40 ?c40 ?k40 ?zb_isinstance ?zb_bool ?zb_int ?zb_len ?zb_str ?zb_all ?zb_tuple ?zb_enumerate ?zb_range ?zb_min ?zb_list ?zb_zip ?zb_repr ?zc_MOST_LETTERS ?zc_SMALL ?zc_MOST_NUMBER ?zc_BY_NUMBER ?zl_BY_NUMBER ?zc_OF_ONE ?zl_OF_ONE ?zc_OF_TWO ?zl_OF_TWO ?zc_MOST_LONG ?zc_MOST_SUM ?zc_PARTS ?zl_PARTS ?zc_MOST_DEEP ?zc_MOST_TERMS ?zc_MOST_GOINGS ?zc_MOST_INNER ?zc_MOST_PARAMS ?zc_BOUNDS ?zl_BOUNDS ?zw_BOUNDS ?zy_BOUNDS ?zv_BOUNDS_0 ?zv_BOUNDS_1
    (case a0 => k_is)
    (case l0 => k_is)
    (case c0 => k_is)
    (case k0 => k_is)
    (case a1 => k_is)
    (case l1 => k_is)
    (case c1 => k_is)
    (case k1 => k_is)
    (case a2 => k_is)
    (case l2 => k_is)
    (case c2 => k_is)
    (case k2 => k_is)
    (case a3 => k_is)
    (case l3 => k_is)
    (case c3 => k_is)
    (case k3 => k_is)
    (case a4 => k_is)
    (case l4 => k_is)
    (case c4 => k_is)
    (case k4 => k_is)
    (case a5 => k_is)
    (case l5 => k_is)
    (case c5 => k_is)
    (case k5 => k_is)
    (case a6 => k_is)
    (case l6 => k_is)
    (case c6 => k_is)
    (case k6 => k_is)
    (case a7 => k_is)
    (case l7 => k_is)
    (case c7 => k_is)
    (case k7 => k_is)
    (case a8 => k_is)
    (case l8 => k_is)
    (case c8 => k_is)
    (case k8 => k_is)
    (case a9 => k_is)
    (case l9 => k_is)
    (case c9 => k_is)
    (case k9 => k_is)
    (case a10 => k_is)
    (case l10 => k_is)
    (case c10 => k_is)
    (case k10 => k_is)
    (case a11 => k_is)
    (case l11 => k_is)
    (case c11 => k_is)
    (case k11 => k_is)
    (case a12 => k_is)
    (case l12 => k_is)
    (case c12 => k_is)
    (case k12 => k_is)
    (case a13 => k_is)
    (case l13 => k_is)
    (case c13 => k_is)
    (case k13 => k_is)
    (case a14 => k_is)
    (case l14 => k_is)
    (case c14 => k_is)
    (case k14 => k_is)
    (case a15 => k_is)
    (case l15 => k_is)
    (case c15 => k_is)
    (case k15 => k_is)
    (case a16 => k_is)
    (case l16 => k_is)
    (case c16 => k_is)
    (case k16 => k_is)
    (case a17 => k_is)
    (case l17 => k_is)
    (case c17 => k_is)
    (case k17 => k_is)
    (case a18 => k_is)
    (case l18 => k_is)
    (case c18 => k_is)
    (case k18 => k_is)
    (case a19 => k_is)
    (case l19 => k_is)
    (case c19 => k_is)
    (case k19 => k_is)
    (case a20 => k_is)
    (case l20 => k_is)
    (case c20 => k_is)
    (case k20 => k_is)
    (case a21 => k_is)
    (case l21 => k_is)
    (case c21 => k_is)
    (case k21 => k_is)
    (case a22 => k_is)
    (case l22 => k_is)
    (case c22 => k_is)
    (case k22 => k_is)
    (case a23 => k_is)
    (case l23 => k_is)
    (case c23 => k_is)
    (case k23 => k_is)
    (case a24 => k_is)
    (case l24 => k_is)
    (case c24 => k_is)
    (case k24 => k_is)
    (case a25 => k_is)
    (case l25 => k_is)
    (case c25 => k_is)
    (case k25 => k_is)
    (case a26 => k_is)
    (case l26 => k_is)
    (case c26 => k_is)
    (case k26 => k_is)
    (case a27 => k_is)
    (case l27 => k_is)
    (case c27 => k_is)
    (case k27 => k_is)
    (case a28 => k_is)
    (case l28 => k_is)
    (case c28 => k_is)
    (case k28 => k_is)
    (case a29 => k_is)
    (case l29 => k_is)
    (case c29 => k_is)
    (case k29 => k_is)
    (case a30 => k_is)
    (case l30 => k_is)
    (case c30 => k_is)
    (case k30 => k_is)
    (case a31 => k_is)
    (case l31 => k_is)
    (case c31 => k_is)
    (case k31 => k_is)
    (case a32 => k_is)
    (case l32 => k_is)
    (case c32 => k_is)
    (case k32 => k_is)
    (case a33 => k_is)
    (case l33 => k_is)
    (case c33 => k_is)
    (case k33 => k_is)
    (case a34 => k_is)
    (case l34 => k_is)
    (case c34 => k_is)
    (case k34 => k_is)
    (case a35 => k_is)
    (case l35 => k_is)
    (case c35 => k_is)
    (case k35 => k_is)
    (case a36 => k_is)
    (case l36 => k_is)
    (case c36 => k_is)
    (case k36 => k_is)
    (case a37 => k_is)
    (case l37 => k_is)
    (case c37 => k_is)
    (case k37 => k_is)
    (case a38 => k_is)
    (case l38 => k_is)
    (case c38 => k_is)
    (case k38 => k_is)
    (case a39 => k_is)
    (case l39 => k_is)
    (case c39 => k_is)
    (case k39 => k_is)
    (case a40 => k_is)
    (case l40 => k_is)
    (case c40 => k_is)
    (case k40 => k_is)
    (case zb_isinstance => k_is)
    (case zb_bool => k_is)
    (case zb_int => k_is)
    (case zb_len => k_is)
    (case zb_str => k_is)
    (case zb_all => k_is)
    (case zb_tuple => k_is)
    (case zb_enumerate => k_is)
    (case zb_range => k_is)
    (case zb_min => k_is)
    (case zb_list => k_is)
    (case zb_zip => k_is)
    (case zb_repr => k_is)
    (case zc_MOST_LETTERS => k_is)
    (case zc_SMALL => k_is)
    (case zc_MOST_NUMBER => k_is)
    (case zc_BY_NUMBER => k_is)
    (case zl_BY_NUMBER => k_is)
    (case zc_OF_ONE => k_is)
    (case zl_OF_ONE => k_is)
    (case zc_OF_TWO => k_is)
    (case zl_OF_TWO => k_is)
    (case zc_MOST_LONG => k_is)
    (case zc_MOST_SUM => k_is)
    (case zc_PARTS => k_is)
    (case zl_PARTS => k_is)
    (case zc_MOST_DEEP => k_is)
    (case zc_MOST_TERMS => k_is)
    (case zc_MOST_GOINGS => k_is)
    (case zc_MOST_INNER => k_is)
    (case zc_MOST_PARAMS => k_is)
    (case zc_BOUNDS => k_is)
    (case zl_BOUNDS => k_is)
    (case zw_BOUNDS => exact ⟨⟨_, _, rfl, rfl⟩, ⟨_, _, rfl, rfl⟩, trivial⟩)
    (case zy_BOUNDS => kernel_rfl)
    (case zv_BOUNDS_0 => k_is)
    (case zv_BOUNDS_1 => k_is)
  case T =>
    intro w e he
    simp only [Z.tn, List.mem_cons, List.not_mem_nil, or_false] at he
    all_goals cases he
